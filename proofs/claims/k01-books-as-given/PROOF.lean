import PyProof.Rows.All
import Wide.All
import OpenK.AllK
import Wide.FinOn
import HandS.ForMost
import HandS.Exc
import HandS.IsInst
import HandS.WordsExc
import HandS.AnyAll
import HandS.EndTab
import HandS.TupAny
import HandS.Flow
import KE.DataCmp
import KE.SortData
import HandS.Property
import HandS.Codes
import HandS.Remove
import HandS.Replace
import HandS.SetFor
import PyProof.SeqRoads2
import KE.GoesMore
import HandS.Iter
import HandS.Zip
import KE.GoesZip
import KE.GoesNew
import PyProof.EnumMake
import HandS.GenCall
import HandS.Lambda
import HandS.Nested
import HandS.GenList
import HandS.DictComp
import HandS.EndOwn
import KE.KNestM
import PySem.Challenge.RW_tilemoot_k01_books_as_given
set_option Elab.async false
set_option linter.all false
set_option maxRecDepth 100000
set_option maxHeartbeats 4000000
/-! TM, part A: pure values, the intermediate form, what it means. -/
namespace TM
open PySem

/-- pure values -/
inductive PV where
  | non | bl (b : Bool) | int (i : Int) | str (cs : List Nat) | tup (xs : List PV) | obj (i : Nat)
  deriving Repr, Inhabited
/-- what stands in the store -/
inductive PO where
  | lst (xs : List PV) | ro (xs : List PV)
  /-- an instance of class c, its attributes -/
  | ins (c : Nat) (fs : List (Str × PV))
  /-- a dict, its keys numbers and texts -/
  | dic (kvs : List (PV × PV))
  deriving Inhabited
abbrev Sto := List PO
abbrev Env := List (Option PV)
/-- an exception: its class by number, what it keeps -/
structure PX where
  c : Nat
  v : PV
inductive Res (a : Type) where
  | ok (x : a) (S : Sto) | exc (x : PX) (S : Sto) | bad
def Res.bind {a b : Type} (r : Res a) (f : a → Sto → Res b) : Res b := match r with
  | .ok x S => f x S
  | .exc x S => .exc x S
  | .bad => .bad
@[simp] theorem Res.bind_ok {a b : Type} (x : a) (S : Sto) (f : a → Sto → Res b) : (Res.ok x S).bind f = f x S := rfl
@[simp] theorem Res.bind_exc {a b : Type} (x : PX) (S : Sto) (f : a → Sto → Res b) : (Res.exc x S : Res a).bind f = .exc x S := rfl
@[simp] theorem Res.bind_bad {a b : Type} (f : a → Sto → Res b) : (Res.bad : Res a).bind f = .bad := rfl
/-- exceptions are not told -/
def Res.nox {a : Type} (r : Res a) : Res a := match r with
  | .exc _ _ => .bad
  | r => r
def ofO {a : Type} (o : Option a) (S : Sto) : Res a := match o with
  | some x => .ok x S
  | none => .bad
@[simp] theorem ofO_some {a : Type} (x : a) (S : Sto) : ofO (some x) S = .ok x S := rfl
@[simp] theorem ofO_none {a : Type} (S : Sto) : (ofO none S : Res a) = .bad := rfl

inductive Op2 where
  | add | sub | mul | fdiv | mod | pow | shl | shr | band | bor
  deriving DecidableEq, Repr
inductive Cop where
  | eq | ne | lt | le | gt | ge | is | isnot | inn | notin
  deriving DecidableEq, Repr
inductive BI where
  | len | int | abs | min2 | max2 | tuple | list | sorted | sum
  deriving DecidableEq, Repr
inductive ME where
  | append | pop | index | join | remove | startswith | endswith | count
  deriving DecidableEq, Repr
/-- the classes that isinstance is asked of -/
inductive Ty where
  | int | bool | str | tuple | list
  deriving DecidableEq, Repr
inductive Pat where
  | nm (i : Nat) | tup (ps : List Pat)
mutual
inductive E where
  | never
  | var (i : Nat)
  | cst (c : PV)
  | glob (g : Nat)
  | bin (o : Op2) (a b : E)
  | neg (a : E)
  | idx (a b : E)
  | slc (a : E) (lo hi : Option E)
  | cmp (o : Cop) (a b : E)
  | chain (o o2 : Cop) (a b c : E)
  | andv (a b : E)
  | orv (a b : E)
  | notv (a : E)
  | ife (t : T) (a b : E)
  | call (f : Nat) (as : List E)
  | bi (b : BI) (as : List E)
  | isi (a : E) (ts : List Ty)
  | me (m : ME) (o : E) (as : List E)
  | lst (as : List E)
  | tup (as : List E)
  | gcall (g : Nat)
  /-- o.x: of each class in ds an attribute (none) or a property -/
  | fld (o : E) (x : Str) (ds : List (Nat × Option Nat))
  /-- o.x(..): ds the methods by classes -/
  | mcall (o : E) (x : Str) (ds : List (Nat × Nat)) (as : List E)
  /-- a new instance of class c, f its __init__ -/
  | make (c f : Nat) (as : List E)
  /-- isinstance(a, C) -/
  | isc (a : E) (c : Nat)
  /-- sorted(set(a)), len(set(a)) -/
  | sset (a : E)
  | lset (a : E)
  /-- {}, d.get(k, x), d[k], k in d -/
  | dnew
  | dget (d k x : E)
  | didx (d k : E)
  | din (neg : Bool) (k d : E)
  /-- len(o) by __len__ -/
  | leni (a : E) (ds : List (Nat × Nat))
  /-- a == b by __eq__ of a's class -/
  | oeq (a b : E) (ds : List (Nat × Nat))
inductive T where
  | e (e : E) | and (a b : T) | or (a b : T) | not (t : T)
end
inductive It where
  | e (e : E) | rng1 (a : E) | rng2 (a b : E) | enum (e : E) | zip (a b : E)
inductive S where
  | never | pass | brk | cnt
  | set (p : Pat) (e : E)
  | seti (o i e : E)
  | setf (o : E) (x : Str) (cs : List Nat) (e : E)
  | dset (d k e : E)
  | aug (i : Nat) (o : Op2) (e : E)
  | expr (e : E)
  | ret (e : E)
  | retn
  | ite (t : T) (a b : List S)
  | whl (t : T) (b : List S)
  | for (p : Pat) (it : It) (b : List S)

/-! ### values -/
def LINE : Nat := 16777216
/-- the longest text or list that is looked at -/
def truth (S : Sto) : PV → Option Bool
  | .non => some false
  | .bl b => some b
  | .int i => some (i != 0)
  | .str cs => if cs.length ≤ LINE then some (!cs.isEmpty) else none
  | .tup ps => some (!ps.isEmpty)
  | .obj i => match S[i]? with
    | some (.lst xs) => some (!xs.isEmpty)
    | some (.ro xs) => some (!xs.isEmpty)
    | _ => none

def P64 : Int := 18446744073709551616
def mulOk (i j : Int) : Bool := (decide (-P64 < i) && decide (i < P64)) || (decide (-P64 < j) && decide (j < P64))
def binI (o : Op2) (i j : Int) : Option Int := match o with
  | .add => some (i + j)
  | .sub => some (i - j)
  | .mul => if mulOk i j then some (i * j) else none
  | .fdiv => if j != 0 && decide (j.natAbs < 1073741824) then some (i.fdiv j) else none
  | .mod => if j != 0 then some (i.fmod j) else none
  | .pow => if decide (0 ≤ j) && decide (j ≤ 1000000) && decide (i.natAbs < 18446744073709551616) then some (i ^ j.toNat) else none
  | .shl => if decide (0 ≤ j) && decide (j ≤ 1000000) && decide (i.natAbs < 18446744073709551616) then some (i * 2 ^ j.toNat) else none
  | .shr => if decide (0 ≤ j) then some (i / 2 ^ j.toNat) else none
  | .band => some (Builtin.bitAnd i j)
  | .bor => some (Builtin.bitOr i j)
def seqOf (S : Sto) (i : Nat) : Option (List PV) := match S[i]? with
  | some (.lst xs) => some xs
  | some (.ro xs) => some xs
  | _ => none
def binV (o : Op2) (p q : PV) (S : Sto) : Res PV := match p, q with
  | .int i, .int j => ofO ((binI o i j).map PV.int) S
  | .str a, .str b => match o with
    | .add => if a.length + b.length ≤ LINE then .ok (.str (a ++ b)) S else .bad
    | _ => .bad
  | .tup a, .tup b => match o with
    | .add => if a.length + b.length ≤ LINE then .ok (.tup (a ++ b)) S else .bad
    | _ => .bad
  | .obj i, .obj j => match o with
    | .add => match S[i]?, S[j]? with
      | some (.lst a), some (.lst b) => if a.length + b.length ≤ LINE then .ok (.obj S.length) (S ++ [.lst (a ++ b)]) else .bad
      | _, _ => .bad
    | _ => .bad
  | .obj i, .int k => match o with
    | .mul => match S[i]? with
      | some (.lst a) => if decide (-(2 ^ 63) ≤ k) && decide (k < 2 ^ 63) && decide (a.length * k.toNat ≤ LINE) then .ok (.obj S.length) (S ++ [.lst (List.replicate k.toNat a).flatten]) else .bad
      | _ => .bad
    | _ => .bad
  | _, _ => .bad

/-- x op= y at a name -/
def augV (o : Op2) (p q : PV) : Option PV := match o, p, q with
  | .add, .int x, .int y => some (.int (x + y))
  | .sub, .int x, .int y => some (.int (x - y))
  | .mul, .int x, .int y => if mulOk x y then some (.int (x * y)) else none
  | .add, .str a, .str b => if a.length + b.length ≤ LINE then some (.str (a ++ b)) else none
  | _, _, _ => none

/-! ### == and < -/
def mkS (cs : List Nat) : Str := ⟨cs.toArray⟩
/-- where a sign stands first -/
def idxS (c : Nat) : List Nat → Option Nat
  | [] => none
  | d :: r => if d = c then some 0 else (idxS c r).map (· + 1)
def idxT (w : List Nat) : List (List Nat) → Option Nat
  | [] => none
  | d :: r => if d = w then some 0 else (idxT w r).map (· + 1)
def preS (a b : List Nat) : Bool := decide (b.length ≤ a.length) && (a.take b.length == b)
def sufS (a b : List Nat) : Bool := decide (b.length ≤ a.length) && (a.drop (a.length - b.length) == b)
/-- a text within a text -/
def subS (z w : List Nat) : Bool := !(Builtin.Str.occurrences (mkS z) (mkS w) 0 (mkS z).length 1).isEmpty
mutual
def dat : PV → Option PyData
  | .non => some .none
  | .bl b => some (.bool b)
  | .int i => some (.int i)
  | .str cs => some (.str (mkS cs))
  | .tup ps => (datL ps).map PyData.tuple
  | .obj _ => none
def datL : List PV → Option (List PyData)
  | [] => some []
  | p :: ps => match dat p, datL ps with
    | some d, some ds => some (d :: ds)
    | _, _ => none
end
/-- data; a list of plain data besides -/
def datS (S : Sto) : PV → Option PyData
  | .obj i => match seqOf S i with
    | some xs => (datL xs).map PyData.list
    | none => none
  | p => dat p
/-- scalars that are compared by themselves -/
def eqS : PV → PV → Option Bool
  | .non, .non => some true
  | .non, .int _ => some false
  | .int _, .non => some false
  | .non, .bl _ => some false
  | .bl _, .non => some false
  | .non, .str _ => some false
  | .str _, .non => some false
  | .int i, .int j => some (i == j)
  | .bl i, .bl j => some (i == j)
  | .str i, .str j => some (i == j)
  | .int _, .str _ => some false
  | .str _, .int _ => some false
  | .bl _, .str _ => some false
  | .str _, .bl _ => some false
  | _, _ => none
def ltN : List Nat → List Nat → Bool
  | [], [] => false
  | [], _ :: _ => true
  | _ :: _, [] => false
  | x :: xs, y :: ys => if x = y then ltN xs ys else decide (x < y)
mutual
/-- two values can be put in order: of one kind, place by place -/
def alk : PV → PV → Bool
  | .non, .non => true
  | .bl _, .bl _ => true
  | .int _, .int _ => true
  | .str _, .str _ => true
  | .tup xs, .tup ys => alkL xs ys
  | _, _ => false
def alkL : List PV → List PV → Bool
  | x :: xs, y :: ys => alk x y && alkL xs ys
  | _, _ => true
end
mutual
/-- equal, of two that are alike -/
def eqP : PV → PV → Bool
  | .non, .non => true
  | .bl a, .bl b => a == b
  | .int a, .int b => a == b
  | .str a, .str b => a == b
  | .tup xs, .tup ys => eqPL xs ys
  | _, _ => false
def eqPL : List PV → List PV → Bool
  | [], [] => true
  | x :: xs, y :: ys => eqP x y && eqPL xs ys
  | _, _ => false
end
mutual
/-- ==, of any two without objects -/
def eqX : PV → PV → Bool
  | .non, .non => true
  | .bl a, .bl b => a == b
  | .bl a, .int j => (if a then 1 else 0) == j
  | .int i, .bl b => i == (if b then 1 else 0)
  | .int a, .int b => a == b
  | .str a, .str b => a == b
  | .tup xs, .tup ys => eqXL xs ys
  | _, _ => false
def eqXL : List PV → List PV → Bool
  | [], [] => true
  | x :: xs, y :: ys => eqX x y && eqXL xs ys
  | _, _ => false
end
mutual
/-- texts of right signs, no objects -/
def lay : PV → Bool
  | .str cs => cs.all fun c => decide (c < 1114112)
  | .tup xs => layL xs
  | .obj _ => false
  | _ => true
def layL : List PV → Bool
  | [] => true
  | x :: xs => lay x && layL xs
end
mutual
/-- less, of two that are alike -/
def ltP : PV → PV → Bool
  | .bl a, .bl b => !a && b
  | .int a, .int b => decide (a < b)
  | .str a, .str b => ltN a b
  | .tup xs, .tup ys => ltPL xs ys
  | _, _ => false
def ltPL : List PV → List PV → Bool
  | [], [] => false
  | [], _ :: _ => true
  | _ :: _, [] => false
  | x :: xs, y :: ys => if eqP x y then ltPL xs ys else ltP x y
end
mutual
/-- how deep -/
def dep : PV → Nat
  | .tup xs => depL xs + 1
  | _ => 0
def depL : List PV → Nat
  | [] => 0
  | x :: xs => max (dep x) (depL xs)
end
def flatX (p : PV) : Bool := lay p && decide (dep p ≤ 60)
def flatXL (ps : List PV) : Bool := layL ps && decide (depL ps ≤ 60)
def eqD (S : Sto) (p q : PV) : Option Bool := match p, q with
  | .obj i, .obj j => match seqOf S i, seqOf S j with
    | some xs, some ys => if flatXL xs && flatXL ys then some (eqXL xs ys) else none
    | _, _ => none
  | p, q => if flatX p && flatX q then some (eqX p q) else none
def eqV (S : Sto) (p q : PV) : Option Bool := match eqS p q with
  | some b => some b
  | none => eqD S p q
/-- p in q -/
def inV (S : Sto) (p q : PV) : Option Bool := match q with
  | .str z => match p with
    | .str [c] => some (z.any fun d => d == c)
    | .str w => some (subS z w)
    | _ => none
  | .tup xs => if flatX p && flatXL xs then some (xs.any fun x => eqX x p) else none
  | .obj i => match seqOf S i with
    | some xs => if flatX p && flatXL xs then some (xs.any fun x => eqX x p) else none
    | none => none
  | _ => none
def isNon : PV → Bool
  | .non => true
  | _ => false
mutual
/-- no object of the store in it -/
def pur : PV → Bool
  | .obj _ => false
  | .tup xs => purL xs
  | _ => true
def purL : List PV → Bool
  | [] => true
  | x :: xs => pur x && purL xs
end
def ordB (p q : PV) : Bool := pur p && pur q && alk p q && !isNon p && decide (dep p ≤ 60)
def ltV (p q : PV) : Option Bool := if ordB p q then some (ltP p q) else none
/-- a stable sort -/
def insV {a : Type} (le : a → a → Bool) (x : a) : List a → List a
  | [] => [x]
  | y :: ys => if le x y then x :: y :: ys else y :: insV le x ys
def isort {a : Type} (le : a → a → Bool) : List a → List a
  | [] => []
  | x :: xs => insV le x (isort le xs)
def leP (p q : PV) : Bool := !ltP q p
def ntup : PV → Bool
  | .tup (_ :: _) => true
  | _ => false
def stup : PV → Bool
  | .tup _ => false
  | .non => false
  | _ => true
/-- what sorted can be asked of -/
def sortB (ps : List PV) : Bool := ps.all pur && ps.all (fun p => ps.all (alk p)) && ps.all (fun p => decide (dep p ≤ 60)) && (ps.all ntup || ps.all stup) && decide (ps.length ≤ LINE)
def sortV (ps : List PV) : Option (List PV) := if sortB ps then some (isort leP ps) else none
def flat : PV → Bool
  | .non | .bl _ | .int _ | .str _ => true
  | _ => false
def cmpV (o : Cop) (p q : PV) (S : Sto) : Option Bool := match o with
  | .eq => eqV S p q
  | .ne => (eqV S p q).map (!·)
  | .lt => ltV p q
  | .gt => if ordB p q then some (ltP q p) else none
  | .le => if ordB p q then some (!ltP q p) else none
  | .ge => if ordB p q then some (!ltP p q) else none
  | .is => match q with
    | .non => some (match p with | .non => true | _ => false)
    | .bl c => match p with
      | .bl b => some (b == c)
      | _ => none
    | _ => none
  | .isnot => match q with
    | .non => some (match p with | .non => false | _ => true)
    | .bl c => match p with
      | .bl b => some (!(b == c))
      | _ => none
    | _ => none
  | .inn => inV S p q
  | .notin => (inV S p q).map (!·)
def atV (p q : PV) (S : Sto) : Option PV := match p, q with
  | .obj i, .int k => (seqOf S i).bind fun xs => L2.atI xs k
  | .tup xs, .int k => L2.atI xs k
  | .str cs, .int k => if cs.length ≤ LINE then (L2.atI cs k).map fun c => PV.str [c] else none
  | _, _ => none
def cutL {a : Type} (xs : List a) (lo hi : Option Int) : List a := (xs.drop (HT.sIx xs.length 0 lo)).take (HT.sIx xs.length xs.length hi - HT.sIx xs.length 0 lo)
def cutP (p : PV) (lo hi : Option Int) (S : Sto) : Res PV := match p with
  | .obj i => match seqOf S i with
    | some xs => .ok (.obj S.length) (S ++ [.lst (cutL xs lo hi)])
    | none => .bad
  | .tup xs => .ok (.tup (cutL xs lo hi)) S
  | .str cs => if cs.length ≤ LINE then .ok (.str (cutL cs lo hi)) S else .bad
  | _ => .bad
def isiV (S : Sto) : PV → Ty → Option Bool
  | .non, _ => some false
  | .bl _, t => some (t == .int || t == .bool)
  | .int _, t => some (t == .int)
  | .str _, t => some (t == .str)
  | .tup _, t => some (t == .tuple)
  | .obj i, t => match S[i]? with
    | some (.lst _) => some (t == .list)
    | _ => none
def isiL (S : Sto) (p : PV) : List Ty → Option Bool
  | [] => some false
  | t :: ts => match isiV S p t, isiL S p ts with
    | some a, some b => some (a || b)
    | _, _ => none
def lenV (S : Sto) : PV → Option Int
  | .str cs => if cs.length ≤ LINE then some cs.length else none
  | .tup xs => some xs.length
  | .obj i => (seqOf S i).map fun xs => (xs.length : Int)
  | _ => none
def intsOf : List PV → Option (List Int)
  | [] => some []
  | .int i :: ps => match intsOf ps with
    | some l => some (i :: l)
    | none => none
  | _ :: _ => none
def biV (b : BI) (as : List PV) (S : Sto) : Res PV := match b, as with
  | .len, [p] => ofO ((lenV S p).map PV.int) S
  | .int, [.int i] => .ok (.int i) S
  | .int, [.bl b] => .ok (.int (if b then 1 else 0)) S
  | .abs, [.int i] => .ok (.int (if i < 0 then -i else i)) S
  | .min2, [.int i, .int j] => .ok (.int (if j < i then j else i)) S
  | .max2, [.int i, .int j] => .ok (.int (if j > i then j else i)) S
  | .tuple, [.obj i] => match S[i]? with
    | some (.lst xs) => .ok (.tup xs) S
    | _ => .bad
  | .tuple, [.tup xs] => .ok (.tup xs) S
  | .list, [.obj i] => match seqOf S i with
    | some xs => .ok (.obj S.length) (S ++ [.lst xs])
    | _ => .bad
  | .list, [.tup xs] => .ok (.obj S.length) (S ++ [.lst xs])
  | .list, [.str cs] => if cs.length ≤ 16000 then .ok (.obj S.length) (S ++ [.lst (cs.map fun c => .str [c])]) else .bad
  | .sum, [.obj i] => match seqOf S i with
    | some xs => match intsOf xs with
      | some ns => .ok (.int ns.sum) S
      | none => .bad
    | _ => .bad
  | .sorted, [.obj i] => match seqOf S i with
    | some xs => match sortV xs with
      | some ys => .ok (.obj S.length) (S ++ [.lst ys])
      | none => .bad
    | _ => .bad
  | _, _ => .bad
/-- the type whose method is called -/
inductive MTy where
  | lst | str
  deriving DecidableEq, Repr
def mty (S : Sto) : PV → Option MTy
  | .str _ => some .str
  | .obj i => match S[i]? with
    | some (.lst _) => some .lst
    | some (.ro _) => some .lst
    | _ => none
  | _ => none
def meOk : ME → MTy → Bool
  | .append, .lst => true
  | .pop, .lst => true
  | .join, .str => true
  | .remove, .lst => true
  | .startswith, .str => true
  | .endswith, .str => true
  | .count, .str => true
  | .index, .str => true
  | .index, .lst => true
  | _, _ => false
/-- the texts of a row -/
def strsOf : List PV → Option (List (List Nat))
  | [] => some []
  | .str cs :: ps => match strsOf ps with
    | some l => some (cs :: l)
    | none => none
  | _ :: _ => none
def joinN (a : List Nat) : List (List Nat) → List Nat
  | [] => []
  | [p] => p
  | p :: q :: r => p ++ (a ++ joinN a (q :: r))
def sumLen : List (List Nat) → Nat
  | [] => 0
  | p :: ps => p.length + sumLen ps
def seqV (S : Sto) : PV → Option (List PV)
  | .obj i => seqOf S i
  | .tup xs => some xs
  | _ => none
def meJoin (o : PV) (as : List PV) (S : Sto) : Res PV := match o, as with
  | .str a, [q] => match seqV S q with
    | some xs => match strsOf xs with
      | some ys => if sumLen ys + ys.length * a.length ≤ LINE then .ok (.str (joinN a ys)) S else .bad
      | none => .bad
    | none => .bad
  | _, _ => .bad
def meAppend (o : PV) (as : List PV) (S : Sto) : Res PV := match o, as with
  | .obj i, [p] => match S[i]? with
    | some (.lst xs) => if xs.length < LINE then .ok .non (S.set i (.lst (xs ++ [p]))) else .bad
    | _ => .bad
  | _, _ => .bad
def mePop (o : PV) (as : List PV) (S : Sto) : Res PV := match o, as with
  | .obj i, [] => match S[i]? with
    | some (.lst xs) => match xs[xs.length - 1]? with
      | some y => .ok y (S.set i (.lst xs.dropLast))
      | none => .bad
    | _ => .bad
  | _, _ => .bad
/-- the first text like it taken out -/
def dropS (a : List Nat) : List (List Nat) → Option (List (List Nat))
  | [] => none
  | b :: l => if b = a then some l else match dropS a l with
    | some r => some (b :: r)
    | none => none
def meRemove (o : PV) (as : List PV) (S : Sto) : Res PV := match o, as with
  | .obj i, [.str a] => match S[i]? with
    | some (.lst xs) => match strsOf xs with
      | some ys => match dropS a ys with
        | some r => .ok .non (S.set i (.lst (r.map .str)))
        | none => .bad
      | none => .bad
    | _ => .bad
  | _, _ => .bad
def meTxt (f : List Nat → List Nat → Option PV) (o : PV) (as : List PV) (S : Sto) : Res PV := match o, as with
  | .str a, [.str b] => ofO (f a b) S
  | _, _ => .bad
def meCnt (a : List Nat) : List Nat → Option PV
  | [c] => some (.int (a.count c : Nat))
  | _ => none
def meIxS (a : List Nat) : List Nat → Option PV
  | [c] => (idxS c a).map fun j => .int (j : Nat)
  | _ => none
def meIxL (o : PV) (as : List PV) (S : Sto) : Res PV := match o, as with
  | .obj i, [.str w] => match seqOf S i with
    | some xs => match strsOf xs with
      | some ys => ofO ((idxT w ys).map fun j => .int (j : Nat)) S
      | none => .bad
    | none => .bad
  | _, _ => .bad
def meV (m : ME) (t : MTy) (o : PV) (as : List PV) (S : Sto) : Res PV := match m, t with
  | .append, .lst => meAppend o as S
  | .pop, .lst => mePop o as S
  | .join, .str => meJoin o as S
  | .remove, .lst => meRemove o as S
  | .startswith, .str => meTxt (fun a b => some (.bl (preS a b))) o as S
  | .endswith, .str => meTxt (fun a b => some (.bl (sufS a b))) o as S
  | .count, .str => meTxt meCnt o as S
  | .index, .str => meTxt meIxS o as S
  | .index, .lst => meIxL o as S
  | _, _ => .bad
/-! ### instances, sets, dicts -/
def fldV (cf : Nat → List PV → Sto → Res PV) (x : Str) (ds : List (Nat × Option Nat)) (p : PV) (S : Sto) : Res PV := match p with
  | .obj i => match S[i]? with
    | some (.ins c fs) => match ds.lookup c with
      | some (some f) => (cf f [.obj i] S).nox
      | some none => ofO (fs.lookup x) S
      | none => .bad
    | _ => .bad
  | _ => .bad
def mclF (x : Str) (ds : List (Nat × Nat)) (p : PV) (S : Sto) : Option Nat := match p with
  | .obj i => match S[i]? with
    | some (.ins c fs) => match fs.lookup x with
      | some _ => none
      | none => ds.lookup c
    | _ => none
  | _ => none
def iscV (S : Sto) (p : PV) (c : Nat) : Option Bool := match p with
  | .obj i => match S[i]? with
    | some (.ins c' _) => if c' = c then some true else none
    | some (.lst _) => some false
    | _ => none
  | _ => some false
/-- each once, the last of the like ones -/
def nubS : List (List Nat) → List (List Nat)
  | [] => []
  | a :: l => if nubS l |>.contains a then nubS l else a :: nubS l
def leN (a b : List Nat) : Bool := !ltN b a
def txtsOf (S : Sto) (p : PV) : Option (List (List Nat)) := match seqV S p with
  | some xs => strsOf xs
  | none => none
def SETS : Nat := 4000
def ssetV (p : PV) (S : Sto) : Res PV := match txtsOf S p with
  | some ys => if ys.length ≤ SETS then .ok (.obj S.length) (S ++ [.lst ((isort leN (nubS ys)).map .str)]) else .bad
  | none => .bad
def lsetV (p : PV) (S : Sto) : Res PV := match txtsOf S p with
  | some ys => if ys.length ≤ SETS then .ok (.int (nubS ys).length) S else .bad
  | none => .bad
def isK : PV → Bool
  | .int _ => true
  | .str _ => true
  | _ => false
def keq : PV → PV → Bool
  | .int i, .int j => i == j
  | .str a, .str b => a == b
  | _, _ => false
def valD (k : PV) : List (PV × PV) → Option PV
  | [] => none
  | (q, x) :: r => if keq q k then some x else valD k r
def hasD (k : PV) (kvs : List (PV × PV)) : Bool := kvs.any fun e => keq e.1 k
def putD (k v : PV) (kvs : List (PV × PV)) : List (PV × PV) := if hasD k kvs then kvs.map (fun e => if keq e.1 k then (e.1, v) else e) else kvs ++ [(k, v)]
def dicV (S : Sto) : PV → Option (List (PV × PV))
  | .obj i => match S[i]? with
    | some (.dic kvs) => some kvs
    | _ => none
  | _ => none
def putF (x : Str) (v : PV) : List (Str × PV) → List (Str × PV)
  | [] => [(x, v)]
  | (y, u) :: r => if y = x then (y, v) :: r else (y, u) :: putF x v r

/-! ### evaluation -/
structure Ctx where
  cf : Nat → List PV → Sto → Res PV
  gl : Nat → PV
  gf : Nat → Env → Sto → Res PV
mutual
def ev (C : Ctx) : E → Env → Sto → Res PV
  | .never, _, _ => .bad
  | .var i, env, S => match env[i]? with
    | some (some p) => .ok p S
    | _ => .bad
  | .cst c, _, S => .ok c S
  | .glob g, _, S => .ok (C.gl g) S
  | .bin o a b, env, S => (ev C a env S).bind fun p S => (ev C b env S).bind fun q S => binV o p q S
  | .neg a, env, S => (ev C a env S).bind fun p S => match p with
    | .int i => .ok (.int (-i)) S
    | _ => .bad
  | .idx a b, env, S => (ev C a env S).bind fun p S => (ev C b env S).bind fun q S => ofO (atV p q S) S
  | .slc a lo hi, env, S => (ev C a env S).bind fun p S => (evO C lo env S).bind fun l S => (evO C hi env S).bind fun h S => cutP p l h S
  | .cmp o a b, env, S => (ev C a env S).bind fun p S => (ev C b env S).bind fun q S => ofO ((cmpV o p q S).map PV.bl) S
  | .chain o o2 a b c, env, S => (ev C a env S).bind fun p S => (ev C b env S).bind fun q S => (ofO (cmpV o p q S) S).bind fun k S =>
      if k then (ev C c env S).bind fun r S => ofO ((cmpV o2 q r S).map PV.bl) S else .ok (.bl false) S
  | .andv a b, env, S => (ev C a env S).bind fun p S => (ofO (truth S p) S).bind fun k S => if k then ev C b env S else .ok p S
  | .orv a b, env, S => (ev C a env S).bind fun p S => (ofO (truth S p) S).bind fun k S => if k then .ok p S else ev C b env S
  | .notv a, env, S => (ev C a env S).bind fun p S => ofO ((truth S p).map fun k => PV.bl (!k)) S
  | .ife t a b, env, S => (evT C t env S).bind fun k S => if k then ev C a env S else ev C b env S
  | .call f as, env, S => (evs C as env S).bind fun ps S => C.cf f ps S
  | .bi b as, env, S => (evs C as env S).bind fun ps S => biV b ps S
  | .isi a ts, env, S => (ev C a env S).bind fun p S => ofO ((isiL S p ts).map PV.bl) S
  | .me m o as, env, S => (ev C o env S).bind fun p S => match mty S p with
    | some t => if meOk m t then (evs C as env S).bind fun ps S => meV m t p ps S else .bad
    | none => .bad
  | .lst as, env, S => (evs C as env S).bind fun ps S => if ps.length ≤ LINE then .ok (.obj S.length) (S ++ [.lst ps]) else .bad
  | .tup as, env, S => (evs C as env S).bind fun ps S => if ps.length ≤ LINE then .ok (.tup ps) S else .bad
  | .gcall g, env, S => C.gf g env S
  | .fld o x ds, env, S => (ev C o env S).bind fun p S => fldV C.cf x ds p S
  | .mcall o x ds as, env, S => (ev C o env S).bind fun p S => match mclF x ds p S with
    | some f => (evs C as env S).bind fun ps S => C.cf f (p :: ps) S
    | none => .bad
  | .make c f as, env, S => (evs C as env S).bind fun ps S => (C.cf f (.obj S.length :: ps) (S ++ [.ins c []])).bind fun r S' => match r with
    | .non => .ok (.obj S.length) S'
    | _ => .bad
  | .isc a c, env, S => (ev C a env S).bind fun p S => ofO ((iscV S p c).map PV.bl) S
  | .sset a, env, S => (ev C a env S).bind fun p S => ssetV p S
  | .lset a, env, S => (ev C a env S).bind fun p S => lsetV p S
  | .dnew, _, S => .ok (.obj S.length) (S ++ [.dic []])
  | .dget d k x, env, S => (ev C d env S).bind fun p S => match dicV S p with
    | some _ => (ev C k env S).bind fun q S => (ev C x env S).bind fun r S => match dicV S p with
      | some kvs => if isK q then .ok ((valD q kvs).getD r) S else .bad
      | none => .bad
    | none => .bad
  | .didx d k, env, S => (ev C d env S).bind fun p S => (ev C k env S).bind fun q S => match dicV S p with
    | some kvs => if isK q then ofO (valD q kvs) S else .bad
    | none => .bad
  | .din neg k d, env, S => (ev C k env S).bind fun q S => (ev C d env S).bind fun p S => match dicV S p with
    | some kvs => if isK q then .ok (.bl ((valD q kvs).isSome != neg)) S else .bad
    | none => .bad
  | .leni a ds, env, S => (ev C a env S).bind fun p S => match p with
    | .obj i => match S[i]? with
      | some (.ins c _) => match ds.lookup c with
        | some f => (C.cf f [.obj i] S).nox.bind fun r S => match r with
          | .int n => if decide (0 ≤ n) && decide (n < 4611686018427387904) then .ok (.int n) S else .bad
          | _ => .bad
        | none => .bad
      | _ => .bad
    | _ => .bad
  | .oeq a b ds, env, S => (ev C a env S).bind fun p S => (ev C b env S).bind fun q S => match p with
    | .obj i => match S[i]? with
      | some (.ins c _) => match ds.lookup c, iscV S q c with
        | some f, some _ => (C.cf f [.obj i, q] S).nox.bind fun r S => match r with
          | .bl b => .ok (.bl b) S
          | _ => .bad
        | _, _ => .bad
      | _ => .bad
    | _ => .bad
def evs (C : Ctx) : List E → Env → Sto → Res (List PV)
  | [], _, S => .ok [] S
  | e :: es, env, S => (ev C e env S).bind fun p S => (evs C es env S).bind fun ps S => .ok (p :: ps) S
def evO (C : Ctx) : Option E → Env → Sto → Res (Option Int)
  | none, _, S => .ok none S
  | some e, env, S => (ev C e env S).bind fun p S => match p with
    | .int i => .ok (some i) S
    | _ => .bad
def evT (C : Ctx) : T → Env → Sto → Res Bool
  | .e e, env, S => (ev C e env S).bind fun p S => ofO (truth S p) S
  | .and a b, env, S => (evT C a env S).bind fun k S => if k then evT C b env S else .ok false S
  | .or a b, env, S => (evT C a env S).bind fun k S => if k then .ok true S else evT C b env S
  | .not t, env, S => (evT C t env S).bind fun k S => .ok (!k) S
end
/-- how a statement ends -/
inductive Out where
  | nx (env : Env) (S : Sto) | brk (env : Env) (S : Sto) | cnt (env : Env) (S : Sto) | ret (p : PV) (S : Sto) | exc (x : PX) (S : Sto) | bad
def Out.seq (r : Out) (f : Env → Sto → Out) : Out := match r with
  | .nx env S => f env S
  | r => r
@[simp] theorem Out.seq_nx (env : Env) (S : Sto) (f : Env → Sto → Out) : (Out.nx env S).seq f = f env S := rfl
@[simp] theorem Out.seq_brk (env : Env) (S : Sto) (f : Env → Sto → Out) : (Out.brk env S).seq f = .brk env S := rfl
@[simp] theorem Out.seq_cnt (env : Env) (S : Sto) (f : Env → Sto → Out) : (Out.cnt env S).seq f = .cnt env S := rfl
@[simp] theorem Out.seq_ret (p : PV) (S : Sto) (f : Env → Sto → Out) : (Out.ret p S).seq f = .ret p S := rfl
@[simp] theorem Out.seq_exc (x : PX) (S : Sto) (f : Env → Sto → Out) : (Out.exc x S).seq f = .exc x S := rfl
@[simp] theorem Out.seq_bad (f : Env → Sto → Out) : Out.bad.seq f = .bad := rfl
def Res.out {a : Type} (r : Res a) (f : a → Sto → Out) : Out := match r with
  | .ok x S => f x S
  | .exc x S => .exc x S
  | .bad => .bad
@[simp] theorem Res.out_ok {a : Type} (x : a) (S : Sto) (f : a → Sto → Out) : (Res.ok x S).out f = f x S := rfl
@[simp] theorem Res.out_exc {a : Type} (x : PX) (S : Sto) (f : a → Sto → Out) : (Res.exc x S : Res a).out f = .exc x S := rfl
@[simp] theorem Res.out_bad {a : Type} (f : a → Sto → Out) : (Res.bad : Res a).out f = .bad := rfl
/-! a value to a target -/
mutual
def bindP : Pat → PV → Env → Option Env
  | .nm i, p, env => if i < env.length then some (env.set i (some p)) else none
  | .tup ps, p, env => match p with
    | .tup xs => bindPs ps xs env
    | _ => none
def bindPs : List Pat → List PV → Env → Option Env
  | [], [], env => some env
  | p :: ps, x :: xs, env => match bindP p x env with
    | some env => bindPs ps xs env
    | none => none
  | _, _, _ => none
end
/-- what a for walks: the item at turn k, of the store as it stands -/
inductive Wk where
  | seq (xs : List PV) | obj (i : Nat) | rng (lo : Int) (n : Nat) | zip (i j : Nat)
def Wk.at : Wk → Nat → Sto → Option (Option PV)
  | .seq xs, k, _ => some xs[k]?
  | .obj i, k, S => match seqOf S i with
    | some xs => some xs[k]?
    | none => none
  | .rng lo n, k, _ => some (if k < n then some (.int (lo + k)) else none)
  | .zip i j, k, S => match seqOf S i, seqOf S j with
    | some xs, some ys => some (match xs[k]?, ys[k]? with
      | some x, some y => some (.tup [x, y])
      | _, _ => none)
    | _, _ => none
/-- enumerate of a text -/
def enumL : Nat → List Nat → List PV
  | _, [] => []
  | i, c :: cs => .tup [.int (i : Nat), .str [c]] :: enumL (i + 1) cs
/-- what a value gives to walk -/
def wkOf (S : Sto) : PV → Option Wk
  | .tup xs => some (.seq xs)
  | .obj i => match seqOf S i with
    | some _ => some (.obj i)
    | none => none
  | .str cs => some (.seq (cs.map fun c => .str [c]))
  | _ => none
def zipL : List PV → List PV → List PV
  | x :: xs, y :: ys => .tup [x, y] :: zipL xs ys
  | _, _ => []
/-- zip of two texts, two tuples, two lists -/
def zipW (S : Sto) : PV → PV → Option Wk
  | .str a, .str b => some (.seq (zipL (a.map fun c => .str [c]) (b.map fun c => .str [c])))
  | .tup a, .tup b => some (.seq (zipL a b))
  | .obj i, .obj j => match seqOf S i, seqOf S j with
    | some _, some _ => some (.zip i j)
    | _, _ => none
  | _, _ => none
def P62 : Int := 4611686018427387904
def evI (C : Ctx) (it : It) (env : Env) (S : Sto) : Res Wk := match it with
  | .e e => (ev C e env S).bind fun p S => ofO (wkOf S p) S
  | .enum e => (ev C e env S).bind fun p S => match p with
    | .str cs => .ok (.seq (enumL 0 cs)) S
    | _ => .bad
  | .zip a b => (ev C a env S).bind fun p S => (ev C b env S).bind fun q S => ofO (zipW S p q) S
  | .rng1 a => (ev C a env S).bind fun p S => match p with
    | .int j => if decide (-P62 ≤ j) && decide (j < P62) then .ok (.rng 0 j.toNat) S else .bad
    | _ => .bad
  | .rng2 a b => (ev C a env S).bind fun p S => (ev C b env S).bind fun q S => match p, q with
    | .int i, .int j => if decide (-P62 ≤ i) && decide (i < P62) && decide (-P62 ≤ j) && decide (j < P62) then .ok (.rng i (j - i).toNat) S else .bad
    | _, _ => .bad
/-- the longest loop -/
def FU : Nat := 1000000000
def forN (w : Wk) (p : Pat) (body : Env → Sto → Out) : Nat → Nat → Env → Sto → Out
  | 0, _, _, _ => .bad
  | n + 1, k, env, S => match w.at k S with
    | none => .bad
    | some none => .nx env S
    | some (some x) => match bindP p x env with
      | none => .bad
      | some env => match body env S with
        | .nx env S => forN w p body n (k + 1) env S
        | .cnt env S => forN w p body n (k + 1) env S
        | .brk env S => .nx env S
        | r => r
def whlN (t : Env → Sto → Res Bool) (body : Env → Sto → Out) : Nat → Env → Sto → Out
  | 0, _, _ => .bad
  | n + 1, env, S => (t env S).out fun k S => if k then match body env S with
      | .nx env S => whlN t body n env S
      | .cnt env S => whlN t body n env S
      | .brk env S => .nx env S
      | r => r
    else .nx env S
mutual
def evS (C : Ctx) : TM.S → Env → Sto → Out
  | .never, _, _ => .bad
  | .pass, env, S => .nx env S
  | .brk, env, S => .brk env S
  | .cnt, env, S => .cnt env S
  | .set p e, env, S => (ev C e env S).out fun x S => match bindP p x env with
    | some env => .nx env S
    | none => .bad
  | .seti o i e, env, S => (ev C e env S).out fun x S => (ev C o env S).out fun p S => (ev C i env S).out fun q S => match p, q with
    | .obj a, .int k => match S[a]? with
      | some (.lst xs) => match L2.ixN xs.length k with
        | some j => .nx env (S.set a (.lst (xs.set j x)))
        | none => .bad
      | _ => .bad
    | _, _ => .bad
  | .setf o x cs e, env, S => (ev C e env S).out fun v S => (ev C o env S).out fun p S => match p with
    | .obj a => match S[a]? with
      | some (.ins c fs) => if cs.contains c && decide (fs.length < 1000) then .nx env (S.set a (.ins c (putF x v fs))) else .bad
      | _ => .bad
    | _ => .bad
  | .dset d k e, env, S => (ev C e env S).out fun v S => (ev C d env S).out fun p S => (ev C k env S).out fun q S => match p with
    | .obj a => match S[a]? with
      | some (.dic kvs) => if isK q && decide (kvs.length < LINE) then .nx env (S.set a (.dic (putD q v kvs))) else .bad
      | _ => .bad
    | _ => .bad
  | .aug i o e, env, S => match env[i]? with
    | some (some p) => (ev C e env S).out fun q S => match augV o p q with
      | some z => .nx (env.set i (some z)) S
      | none => .bad
    | _ => .bad
  | .expr e, env, S => (ev C e env S).out fun _ S => .nx env S
  | .ret e, env, S => (ev C e env S).out fun p S => .ret p S
  | .retn, _, S => .ret .non S
  | .ite t a b, env, S => (evT C t env S).out fun k S => if k then evB C a env S else evB C b env S
  | .whl t b, env, S => whlN (evT C t) (evB C b) FU env S
  | .for p it b, env, S => (evI C it env S).out fun w S => forN w p (evB C b) FU 0 env S
def evB (C : Ctx) : List TM.S → Env → Sto → Out
  | [], env, S => .nx env S
  | s :: ss, env, S => (evS C s env S).seq fun env S => evB C ss env S
end
/-- a clause of a comprehension: the names of its target (to be forgotten at each start), target, source, tests -/
structure Cl where
  own : List Nat
  p : Pat
  it : It
  ts : List T
inductive GK where
  | all | any | lst | dct
  deriving DecidableEq, Repr
/-- a comprehension, or a generator expression under all or any: its kind; of a generator how many names of its own, and its names; the clauses; the element -/
structure Gen where
  kd : GK
  k : Nat
  ng : List Str
  c : Cl
  c2 : List Cl
  e : E
  /-- the value of a dict comprehension, e its key -/
  v : E := .never
def genN (w : Wk) (p : Pat) (b : Bool) (elt : Env → Sto → Res PV) : Nat → Nat → Env → Sto → Res PV
  | 0, _, _, _ => .bad
  | n + 1, k, env, S => match w.at k S with
    | none => .bad
    | some none => .ok (.bl b) S
    | some (some x) => match bindP p x env with
      | none => .bad
      | some env => match elt env S with
        | .ok (.bl c) S => if c = b then genN w p b elt n (k + 1) env S else .ok (.bl (!b)) S
        | _ => .bad
def evTs (C : Ctx) : List T → Env → Sto → Res Bool
  | [], _, S => .ok true S
  | t :: ts, env, S => (evT C t env S).bind fun b S => if b then evTs C ts env S else .ok false S
def wipeE (env : Env) : List Nat → Env
  | [] => env
  | v :: vs => (wipeE env vs).set v none
/-- the turns of a clause -/
def lcN (w : Wk) (p : Pat) (tst : Env → Sto → Res Bool) (turn : Env → Sto → Res Unit) : Nat → Nat → Env → Sto → Res Unit
  | 0, _, _, _ => .bad
  | n + 1, k, env, S => match w.at k S with
    | none => .bad
    | some none => .ok () S
    | some (some x) => match bindP p x env with
      | none => .bad
      | some env1 => (tst env1 S).nox.bind fun b S => if b then (turn env1 S).nox.bind fun _ S => lcN w p tst turn n (k + 1) env S else lcN w p tst turn n (k + 1) env S
/-- an item appended to the new list -/
def appD (d : Nat) (x : PV) (S : Sto) : Res Unit := match S[d]? with
  | some (.lst acc) => if acc.length < LINE then .ok () (S.set d (.lst (acc ++ [x]))) else .bad
  | _ => .bad
def noG : Nat → Env → Sto → Res PV := fun _ _ _ => .bad
def evA (C : Ctx) (b : Bool) (γ : Gen) (env : Env) (S : Sto) : Res PV := (evI C γ.c.it env S).bind fun w S => genN w γ.c.p b (ev C γ.e) FU 0 (env ++ List.replicate γ.k none) S
/-- the element at a turn, appended -/
def eltD (C : Ctx) (e : E) (d : Nat) (env : Env) (S : Sto) : Res Unit := (ev C e env S).bind fun x S => appD d x S
def lc2T (C : Ctx) (c2 : Cl) (e : E) (d : Nat) (env : Env) (S : Sto) : Res Unit :=
  (evI C c2.it env S).bind fun w S => lcN w c2.p (evTs C c2.ts) (eltD C e d) FU 0 (wipeE env c2.own) S
def evL1 (C : Ctx) (γ : Gen) (env : Env) (S : Sto) : Res PV :=
  (evI C γ.c.it env S).bind fun w S => (lcN w γ.c.p (evTs C γ.c.ts) (eltD C γ.e S.length) FU 0 (wipeE env γ.c.own) (S ++ [.lst []])).bind fun _ S' => .ok (.obj S.length) S'
def evL2 (C : Ctx) (γ : Gen) (c2 : Cl) (env : Env) (S : Sto) : Res PV :=
  (evI C γ.c.it env S).bind fun w S => (lcN w γ.c.p (evTs C γ.c.ts) (lc2T C c2 γ.e S.length) FU 0 (wipeE env γ.c.own) (S ++ [.lst []])).bind fun _ S' => .ok (.obj S.length) S'
/-- a pair put into the new dict -/
def putT (d : Nat) (q x : PV) (S : Sto) : Res Unit := match S[d]? with
  | some (.dic kvs) => if isK q && decide (kvs.length < LINE) then .ok () (S.set d (.dic (putD q x kvs))) else .bad
  | _ => .bad
def eltP (C : Ctx) (e v : E) (d : Nat) (env : Env) (S : Sto) : Res Unit := (ev C e env S).bind fun q S => (ev C v env S).bind fun x S => putT d q x S
def evD1 (C : Ctx) (γ : Gen) (env : Env) (S : Sto) : Res PV :=
  (evI C γ.c.it env S).bind fun w S => (lcN w γ.c.p (evTs C γ.c.ts) (eltP C γ.e γ.v S.length) FU 0 (wipeE env γ.c.own) (S ++ [.dic []])).bind fun _ S' => .ok (.obj S.length) S'
def evG (C : Ctx) (γ : Gen) (env : Env) (S : Sto) : Res PV := match γ.kd with
  | .all => evA C true γ env S
  | .any => evA C false γ env S
  | .lst => match γ.c2 with
    | [] => evL1 C γ env S
    | [c2] => evL2 C γ c2 env S
    | _ => .bad
  | .dct => match γ.c2 with
    | [] => evD1 C γ env S
    | _ => .bad
/-- the comprehensions of a def, n deep in each other -/
def gfN (cf : Nat → List PV → Sto → Res PV) (gl : Nat → PV) (gs : List Gen) : Nat → Nat → Env → Sto → Res PV
  | 0, _, _, _ => .bad
  | n + 1, g, env, S => match gs[g]? with
    | some γ => evG ⟨cf, gl, gfN cf gl gs n⟩ γ env S
    | none => .bad
def gfOf (cf : Nat → List PV → Sto → Res PV) (gl : Nat → PV) (gs : List Gen) : Nat → Env → Sto → Res PV := gfN cf gl gs 3
/-- a def: how many parameters, its names, its body, its generator expressions -/
structure Fn where
  np : Nat
  nn : Nat
  body : List TM.S
  gens : List Gen := []
def runF (C : Ctx) (f : Fn) (as : List PV) (S : Sto) : Res PV :=
  if as.length = f.np then match evB C f.body (as.map some ++ List.replicate (f.nn - f.np) none) S with
    | .nx _ S => .ok .non S
    | .ret p S => .ok p S
    | .exc x S => .exc x S
    | _ => .bad
  else .bad
/-- the defs, one calling another k deep at most -/
def callN (fs : List Fn) (gl : Nat → PV) : Nat → Nat → List PV → Sto → Res PV
  | 0, _, _, _ => .bad
  | k + 1, f, as, S => match fs[f]? with
    | some fn => runF ⟨callN fs gl k, gl, gfOf (callN fs gl k) gl fn.gens⟩ fn as S
    | none => .bad
end TM

/-! PM, part A: a machine whose lists and dicts are values; what stands in its heap is only what is shared and changed. -/
namespace PM
open PySem TM
inductive Q where
  | non | bl (b : Bool) | int (i : Int) | str (cs : List Nat) | tup (xs : List Q) | lst (xs : List Q)
  | dic (kvs : List (PV × Q)) | ins (c : Nat) (fs : List (Str × Q)) | ref (r : Nat)
  deriving Inhabited
abbrev QH := List Q
abbrev QE := List (Option Q)
inductive PR (a : Type) where
  | ok (x : a) (h : QH) | bad
def PR.bind {a b : Type} (r : PR a) (f : a → QH → PR b) : PR b := match r with
  | .ok x h => f x h
  | .bad => .bad
@[simp] theorem PR.bind_ok {a b : Type} (x : a) (h : QH) (f : a → QH → PR b) : (PR.ok x h).bind f = f x h := rfl
@[simp] theorem PR.bind_bad {a b : Type} (f : a → QH → PR b) : (PR.bad : PR a).bind f = .bad := rfl
def ofQ {a : Type} (o : Option a) (h : QH) : PR a := match o with
  | some x => .ok x h
  | none => .bad
@[simp] theorem ofQ_some {a : Type} (x : a) (h : QH) : ofQ (some x) h = .ok x h := rfl
@[simp] theorem ofQ_none {a : Type} (h : QH) : (ofQ none h : PR a) = .bad := rfl
mutual
def toP : Q → Option PV
  | .non => some .non
  | .bl b => some (.bl b)
  | .int i => some (.int i)
  | .str cs => some (.str cs)
  | .tup xs => (toPs xs).map PV.tup
  | _ => none
def toPs : List Q → Option (List PV)
  | [] => some []
  | q :: qs => match toP q, toPs qs with
    | some p, some ps => some (p :: ps)
    | _, _ => none
end
mutual
def ofP : PV → Q
  | .non => .non
  | .bl b => .bl b
  | .int i => .int i
  | .str cs => .str cs
  | .tup xs => .tup (ofPs xs)
  | .obj _ => .non
def ofPs : List PV → List Q
  | [] => []
  | p :: ps => ofP p :: ofPs ps
end
/-- what is looked at: of a ref its object -/
def look (h : QH) : Q → Option Q
  | .ref r => h[r]?
  | q => some q
def truthQ : Q → Option Bool
  | .non => some false
  | .bl b => some b
  | .int i => some (i != 0)
  | .str cs => if cs.length ≤ LINE then some (!cs.isEmpty) else none
  | .tup ps => some (!ps.isEmpty)
  | .lst ps => some (!ps.isEmpty)
  | _ => none
def truthH (h : QH) (q : Q) : Option Bool := (look h q).bind truthQ
def binQ (o : Op2) (p q : Q) : Option Q := match p, q with
  | .int i, .int j => (binI o i j).map Q.int
  | .str a, .str b => match o with
    | .add => if a.length + b.length ≤ LINE then some (.str (a ++ b)) else none
    | _ => none
  | .tup a, .tup b => match o with
    | .add => if a.length + b.length ≤ LINE then some (.tup (a ++ b)) else none
    | _ => none
  | .lst a, .lst b => match o with
    | .add => if a.length + b.length ≤ LINE then some (.lst (a ++ b)) else none
    | _ => none
  | .lst a, .int k => match o with
    | .mul => if decide (-(2 ^ 63) ≤ k) && decide (k < 2 ^ 63) && decide (a.length * k.toNat ≤ LINE) then some (.lst (List.replicate k.toNat a).flatten) else none
    | _ => none
  | _, _ => none
def binH (o : Op2) (p q : Q) (h : QH) : PR Q := match look h p, look h q with
  | some a, some b => ofQ (binQ o a b) h
  | _, _ => .bad
def augQ (o : Op2) (p q : Q) : Option Q := match o, p, q with
  | .add, .int x, .int y => some (.int (x + y))
  | .sub, .int x, .int y => some (.int (x - y))
  | .mul, .int x, .int y => if mulOk x y then some (.int (x * y)) else none
  | .add, .str a, .str b => if a.length + b.length ≤ LINE then some (.str (a ++ b)) else none
  | _, _, _ => none
def eqQ : Q → Q → Option Bool
  | .lst a, .lst b => match toPs a, toPs b with
    | some xs, some ys => if flatXL xs && flatXL ys then some (eqXL xs ys) else none
    | _, _ => none
  | p, q => match toP p, toP q with
    | some a, some b => eqV [] a b
    | _, _ => none
def inQ (p q : Q) : Option Bool := match toP p with
  | none => none
  | some a => match q with
    | .str z => inV [] a (.str z)
    | .tup xs => match toPs xs with
      | some ys => inV [] a (.tup ys)
      | none => none
    | .lst xs => match toPs xs with
      | some ys => inV [] a (.tup ys)
      | none => none
    | _ => none
def isNonQ : Q → Bool
  | .non => true
  | _ => false
def isQ (p q : Q) : Option Bool := match q with
  | .non => some (isNonQ p)
  | .bl c => match p with
    | .bl b => some (b == c)
    | _ => none
  | _ => none
def ordQ (o : Cop) (p q : Q) : Option Bool := match toP p, toP q with
  | some a, some b => cmpV o a b []
  | _, _ => none
def cmpQ (o : Cop) (p q : Q) : Option Bool := match o with
  | .eq => eqQ p q
  | .ne => (eqQ p q).map (!·)
  | .is => isQ p q
  | .isnot => (isQ p q).map (!·)
  | .inn => inQ p q
  | .notin => (inQ p q).map (!·)
  | .lt => ordQ .lt p q
  | .le => ordQ .le p q
  | .gt => ordQ .gt p q
  | .ge => ordQ .ge p q
def cmpH (o : Cop) (p q : Q) (h : QH) : Option Bool := match look h p, look h q with
  | some a, some b => cmpQ o a b
  | _, _ => none
def atQ (p q : Q) : Option Q := match p, q with
  | .lst xs, .int k => L2.atI xs k
  | .tup xs, .int k => L2.atI xs k
  | .str cs, .int k => if cs.length ≤ LINE then (L2.atI cs k).map fun c => Q.str [c] else none
  | _, _ => none
def atH (p q : Q) (h : QH) : Option Q := match look h p with
  | some a => atQ a q
  | none => none
def cutQ (p : Q) (lo hi : Option Int) : Option Q := match p with
  | .lst xs => some (.lst (cutL xs lo hi))
  | .tup xs => some (.tup (cutL xs lo hi))
  | .str cs => if cs.length ≤ LINE then some (.str (cutL cs lo hi)) else none
  | _ => none
def cutH (p : Q) (lo hi : Option Int) (h : QH) : Option Q := match look h p with
  | some a => cutQ a lo hi
  | none => none
def isi1 : Q → Ty → Option Bool
  | .non, _ => some false
  | .bl _, t => some (t == .int || t == .bool)
  | .int _, t => some (t == .int)
  | .str _, t => some (t == .str)
  | .tup _, t => some (t == .tuple)
  | .lst _, t => some (t == .list)
  | _, _ => none
def isiQ (p : Q) : List Ty → Option Bool
  | [] => some false
  | t :: ts => match isi1 p t, isiQ p ts with
    | some a, some b => some (a || b)
    | _, _ => none
def lenQ : Q → Option Int
  | .str cs => if cs.length ≤ LINE then some cs.length else none
  | .tup xs => some xs.length
  | .lst xs => some xs.length
  | _ => none
def intsQ : List Q → Option (List Int)
  | [] => some []
  | .int i :: ps => match intsQ ps with
    | some l => some (i :: l)
    | none => none
  | _ :: _ => none
def strsQ : List Q → Option (List (List Nat))
  | [] => some []
  | .str cs :: ps => match strsQ ps with
    | some l => some (cs :: l)
    | none => none
  | _ :: _ => none
def bi1 (b : BI) (a : Q) : Option Q := match b, a with
  | .len, p => (lenQ p).map Q.int
  | .int, .int i => some (.int i)
  | .int, .bl b => some (.int (if b then 1 else 0))
  | .abs, .int i => some (.int (if i < 0 then -i else i))
  | .tuple, .lst xs => some (.tup xs)
  | .tuple, .tup xs => some (.tup xs)
  | .list, .lst xs => some (.lst xs)
  | .list, .tup xs => some (.lst xs)
  | .list, .str cs => if cs.length ≤ 16000 then some (.lst (cs.map fun c => .str [c])) else none
  | .sum, .lst xs => match intsQ xs with
    | some ns => some (.int ns.sum)
    | none => none
  | .sorted, .lst xs => match toPs xs with
    | some ps => match sortV ps with
      | some ys => some (.lst (ofPs ys))
      | none => none
    | none => none
  | _, _ => none
def bi2 (b : BI) (p q : Q) : Option Q := match b, p, q with
  | .min2, .int i, .int j => some (.int (if j < i then j else i))
  | .max2, .int i, .int j => some (.int (if j > i then j else i))
  | _, _, _ => none
def biH (b : BI) (as : List Q) (h : QH) : PR Q := match as with
  | [a] => match look h a with
    | some p => ofQ (bi1 b p) h
    | none => .bad
  | [a, c] => ofQ (bi2 b a c) h
  | _ => .bad
def rowQ : Q → Option (List Q)
  | .lst xs => some xs
  | .tup xs => some xs
  | _ => none
/-- methods that change nothing -/
def meS (m : ME) (a : List Nat) (as : List Q) (h : QH) : Option Q := match as with
  | [q] => match look h q with
    | none => none
    | some p => match m, p with
      | .join, p => match rowQ p with
        | some xs => match strsQ xs with
          | some ys => if sumLen ys + ys.length * a.length ≤ LINE then some (.str (joinN a ys)) else none
          | none => none
        | none => none
      | .startswith, .str b => some (.bl (preS a b))
      | .endswith, .str b => some (.bl (sufS a b))
      | .count, .str [c] => some (.int (a.count c : Nat))
      | .index, .str [c] => (idxS c a).map fun j => .int (j : Nat)
      | _, _ => none
  | _ => none
def meL (m : ME) (xs : List Q) (as : List Q) : Option Q := match m, as with
  | .index, [.str w] => match strsQ xs with
    | some ys => (idxT w ys).map fun j => .int (j : Nat)
    | none => none
  | _, _ => none
/-- a list, changed: what the method gives, the list behind it -/
def meM (m : ME) (xs : List Q) (as : List Q) : Option (Q × List Q) := match m, as with
  | .append, [q] => if xs.length < LINE then some (.non, xs ++ [q]) else none
  | .pop, [] => match xs[xs.length - 1]? with
    | some y => some (y, xs.dropLast)
    | none => none
  | .remove, [.str a] => match strsQ xs with
    | some ys => match dropS a ys with
      | some r => some (.non, r.map .str)
      | none => none
    | none => none
  | _, _ => none
def isM : ME → Bool
  | .append | .pop | .remove => true
  | _ => false
def valQ (k : PV) : List (PV × Q) → Option Q
  | [] => none
  | (q, x) :: r => if keq q k then some x else valQ k r
def hasQ (k : PV) (kvs : List (PV × Q)) : Bool := kvs.any fun e => keq e.1 k
def putQ (k : PV) (v : Q) (kvs : List (PV × Q)) : List (PV × Q) := if hasQ k kvs then kvs.map (fun e => if keq e.1 k then (e.1, v) else e) else kvs ++ [(k, v)]
def keyQ : Q → Option PV
  | .int i => some (.int i)
  | .str cs => some (.str cs)
  | _ => none
def dicQ (h : QH) (q : Q) : Option (List (PV × Q)) := match look h q with
  | some (.dic kvs) => some kvs
  | _ => none
def insQ (h : QH) (q : Q) : Option (Nat × List (Str × Q)) := match look h q with
  | some (.ins c fs) => some (c, fs)
  | _ => none
def putI (x : Str) (v : Q) : List (Str × Q) → List (Str × Q)
  | [] => [(x, v)]
  | (y, u) :: r => if y = x then (y, v) :: r else (y, u) :: putI x v r
def iscQ (h : QH) (p : Q) (c : Nat) : Option Bool := match look h p with
  | some (.ins c' _) => if c' = c then some true else none
  | some (.lst _) => some false
  | some (.dic _) => none
  | some (.ref _) => none
  | some _ => some false
  | none => none
def txtsQ (h : QH) (p : Q) : Option (List (List Nat)) := match look h p with
  | some q => match rowQ q with
    | some xs => strsQ xs
    | none => none
  | none => none
def toC : PV → Option Q
  | .non => some .non
  | .bl b => some (.bl b)
  | .int i => some (.int i)
  | .str cs => some (.str cs)
  | _ => none

structure PC where
  cf : Nat → List Q → QH → PR Q
  /-- __init__ of a new instance -/
  ci : Nat → Nat → List Q → QH → PR Q
  gl : Nat → PV
  gf : Nat → QE → QH → PR Q
  /-- the names whose lists may be changed in place -/
  own : Nat → Bool
def callM (C : PC) (f : Nat) (as : List Q) (h : QH) : PR Q := C.cf f as h
mutual
def pe (C : PC) : E → QE → QH → PR Q
  | .never, _, _ => .bad
  | .var i, env, h => match env[i]? with
    | some (some q) => .ok q h
    | _ => .bad
  | .cst c, _, h => ofQ (toC c) h
  | .glob g, _, h => ofQ (toC (C.gl g)) h
  | .bin o a b, env, h => (pe C a env h).bind fun p h => (pe C b env h).bind fun q h => binH o p q h
  | .neg a, env, h => (pe C a env h).bind fun p h => match p with
    | .int i => .ok (.int (-i)) h
    | _ => .bad
  | .idx a b, env, h => (pe C a env h).bind fun p h => (pe C b env h).bind fun q h => ofQ (atH p q h) h
  | .slc a lo hi, env, h => (pe C a env h).bind fun p h => (peO C lo env h).bind fun l h => (peO C hi env h).bind fun u h => ofQ (cutH p l u h) h
  | .cmp o a b, env, h => (pe C a env h).bind fun p h => (pe C b env h).bind fun q h => ofQ ((cmpH o p q h).map Q.bl) h
  | .chain o o2 a b c, env, h => (pe C a env h).bind fun p h => (pe C b env h).bind fun q h => (ofQ (cmpH o p q h) h).bind fun k h =>
      if k then (pe C c env h).bind fun r h => ofQ ((cmpH o2 q r h).map Q.bl) h else .ok (.bl false) h
  | .andv a b, env, h => (pe C a env h).bind fun p h => (ofQ (truthH h p) h).bind fun k h => if k then pe C b env h else .ok p h
  | .orv a b, env, h => (pe C a env h).bind fun p h => (ofQ (truthH h p) h).bind fun k h => if k then .ok p h else pe C b env h
  | .notv a, env, h => (pe C a env h).bind fun p h => ofQ ((truthH h p).map fun k => Q.bl (!k)) h
  | .ife t a b, env, h => (peT C t env h).bind fun k h => if k then pe C a env h else pe C b env h
  | .call f as, env, h => (pes C as env h).bind fun ps h => C.cf f ps h
  | .bi b as, env, h => (pes C as env h).bind fun ps h => biH b ps h
  | .isi a ts, env, h => (pe C a env h).bind fun p h => match look h p with
    | some q => ofQ ((isiQ q ts).map Q.bl) h
    | none => .bad
  | .me m o as, env, h => (pe C o env h).bind fun p h => match p with
    | .str a => (pes C as env h).bind fun ps h => ofQ (meS m a ps h) h
    | .lst xs => (pes C as env h).bind fun ps h => ofQ (meL m xs ps) h
    | .ref r => match h[r]? with
      | some (.lst _) => (pes C as env h).bind fun ps h => match h[r]? with
        | some (.lst xs) => if isM m then match meM m xs ps with
            | some (y, ys) => .ok y (h.set r (.lst ys))
            | none => .bad
          else ofQ (meL m xs ps) h
        | _ => .bad
      | _ => .bad
    | _ => .bad
  | .lst as, env, h => (pes C as env h).bind fun ps h => if ps.length ≤ LINE then .ok (.lst ps) h else .bad
  | .tup as, env, h => (pes C as env h).bind fun ps h => if ps.length ≤ LINE then .ok (.tup ps) h else .bad
  | .gcall g, env, h => C.gf g env h
  | .fld o x ds, env, h => (pe C o env h).bind fun p h => match insQ h p with
    | some (c, fs) => match ds.lookup c with
      | some (some f) => C.cf f [p] h
      | some none => ofQ (fs.lookup x) h
      | none => .bad
    | none => .bad
  | .mcall o x ds as, env, h => (pe C o env h).bind fun p h => match insQ h p with
    | some (c, fs) => match fs.lookup x with
      | some _ => .bad
      | none => match ds.lookup c with
        | some f => (pes C as env h).bind fun ps h => C.cf f (p :: ps) h
        | none => .bad
    | none => .bad
  | .make c f as, env, h => (pes C as env h).bind fun ps h => C.ci c f ps h
  | .isc a c, env, h => (pe C a env h).bind fun p h => ofQ ((iscQ h p c).map Q.bl) h
  | .sset a, env, h => (pe C a env h).bind fun p h => match txtsQ h p with
    | some ys => if ys.length ≤ SETS then .ok (.lst ((isort leN (nubS ys)).map .str)) h else .bad
    | none => .bad
  | .lset a, env, h => (pe C a env h).bind fun p h => match txtsQ h p with
    | some ys => if ys.length ≤ SETS then .ok (.int (nubS ys).length) h else .bad
    | none => .bad
  | .dnew, _, h => .ok (.dic []) h
  | .dget d k x, env, h => (pe C d env h).bind fun p h => match dicQ h p with
    | some _ => (pe C k env h).bind fun q h => (pe C x env h).bind fun r h => match dicQ h p, keyQ q with
      | some kvs, some k => .ok ((valQ k kvs).getD r) h
      | _, _ => .bad
    | none => .bad
  | .didx d k, env, h => (pe C d env h).bind fun p h => (pe C k env h).bind fun q h => match dicQ h p, keyQ q with
    | some kvs, some k => ofQ (valQ k kvs) h
    | _, _ => .bad
  | .din neg k d, env, h => (pe C k env h).bind fun q h => (pe C d env h).bind fun p h => match dicQ h p, keyQ q with
    | some kvs, some k => .ok (.bl ((valQ k kvs).isSome != neg)) h
    | _, _ => .bad
  | .leni a ds, env, h => (pe C a env h).bind fun p h => match insQ h p with
    | some (c, _) => match ds.lookup c with
      | some f => (C.cf f [p] h).bind fun r h => match r with
        | .int n => if decide (0 ≤ n) && decide (n < 4611686018427387904) then .ok (.int n) h else .bad
        | _ => .bad
      | none => .bad
    | none => .bad
  | .oeq a b ds, env, h => (pe C a env h).bind fun p h => (pe C b env h).bind fun q h => match insQ h p with
    | some (c, _) => match ds.lookup c, iscQ h q c with
      | some f, some _ => (C.cf f [p, q] h).bind fun r h => match r with
        | .bl b => .ok (.bl b) h
        | _ => .bad
      | _, _ => .bad
    | none => .bad
def pes (C : PC) : List E → QE → QH → PR (List Q)
  | [], _, h => .ok [] h
  | e :: es, env, h => (pe C e env h).bind fun p h => (pes C es env h).bind fun ps h => .ok (p :: ps) h
def peO (C : PC) : Option E → QE → QH → PR (Option Int)
  | none, _, h => .ok none h
  | some e, env, h => (pe C e env h).bind fun p h => match p with
    | .int i => .ok (some i) h
    | _ => .bad
def peT (C : PC) : T → QE → QH → PR Bool
  | .e e, env, h => (pe C e env h).bind fun p h => ofQ (truthH h p) h
  | .and a b, env, h => (peT C a env h).bind fun k h => if k then peT C b env h else .ok false h
  | .or a b, env, h => (peT C a env h).bind fun k h => if k then .ok true h else peT C b env h
  | .not t, env, h => (peT C t env h).bind fun k h => .ok (!k) h
end
/-- how a statement ends -/
inductive PO where
  | nx (env : QE) (h : QH) | brk (env : QE) (h : QH) | cnt (env : QE) (h : QH) | ret (p : Q) (h : QH) | bad
def PO.seq (r : PO) (f : QE → QH → PO) : PO := match r with
  | .nx env h => f env h
  | r => r
@[simp] theorem PO.seq_nx (env : QE) (h : QH) (f : QE → QH → PO) : (PO.nx env h).seq f = f env h := rfl
@[simp] theorem PO.seq_brk (env : QE) (h : QH) (f : QE → QH → PO) : (PO.brk env h).seq f = .brk env h := rfl
@[simp] theorem PO.seq_cnt (env : QE) (h : QH) (f : QE → QH → PO) : (PO.cnt env h).seq f = .cnt env h := rfl
@[simp] theorem PO.seq_ret (p : Q) (h : QH) (f : QE → QH → PO) : (PO.ret p h).seq f = .ret p h := rfl
@[simp] theorem PO.seq_bad (f : QE → QH → PO) : PO.bad.seq f = .bad := rfl
def PR.out {a : Type} (r : PR a) (f : a → QH → PO) : PO := match r with
  | .ok x h => f x h
  | .bad => .bad
@[simp] theorem PR.out_ok {a : Type} (x : a) (h : QH) (f : a → QH → PO) : (PR.ok x h).out f = f x h := rfl
@[simp] theorem PR.out_bad {a : Type} (f : a → QH → PO) : (PR.bad : PR a).out f = .bad := rfl
mutual
def bindQ : Pat → Q → QE → Option QE
  | .nm i, p, env => if i < env.length then some (env.set i (some p)) else none
  | .tup ps, p, env => match p with
    | .tup xs => bindQs ps xs env
    | _ => none
def bindQs : List Pat → List Q → QE → Option QE
  | [], [], env => some env
  | p :: ps, x :: xs, env => match bindQ p x env with
    | some env => bindQs ps xs env
    | none => none
  | _, _, _ => none
end
/-- what a for walks -/
def enumQ : Nat → List Nat → List Q
  | _, [] => []
  | i, c :: cs => .tup [.int (i : Nat), .str [c]] :: enumQ (i + 1) cs
def zipQ : List Q → List Q → List Q
  | x :: xs, y :: ys => .tup [x, y] :: zipQ xs ys
  | _, _ => []
def itemsQ : Q → Option (List Q)
  | .tup xs => some xs
  | .lst xs => some xs
  | .str cs => some (cs.map fun c => .str [c])
  | _ => none
def zipWQ : Q → Q → Option (List Q)
  | .str a, .str b => some (zipQ (a.map fun c => .str [c]) (b.map fun c => .str [c]))
  | .tup a, .tup b => some (zipQ a b)
  | .lst a, .lst b => some (zipQ a b)
  | _, _ => none
def rngQ (lo : Int) (n : Nat) : List Q := (List.range n).map fun (k : Nat) => Q.int (lo + (k : Int))
/-- the longest walk -/
def shortQ (xs : List Q) (h : QH) : PR (List Q) := if xs.length ≤ LINE then .ok xs h else .bad
def peI (C : PC) (it : It) (env : QE) (h : QH) : PR (List Q) := match it with
  | .e e => (pe C e env h).bind fun p h => match itemsQ p with
    | some xs => shortQ xs h
    | none => .bad
  | .enum e => (pe C e env h).bind fun p h => match p with
    | .str cs => shortQ (enumQ 0 cs) h
    | _ => .bad
  | .zip a b => (pe C a env h).bind fun p h => (pe C b env h).bind fun q h => match zipWQ p q with
    | some xs => shortQ xs h
    | none => .bad
  | .rng1 a => (pe C a env h).bind fun p h => match p with
    | .int j => if decide (-P62 ≤ j) && decide (j ≤ LINE) then .ok (rngQ 0 j.toNat) h else .bad
    | _ => .bad
  | .rng2 a b => (pe C a env h).bind fun p h => (pe C b env h).bind fun q h => match p, q with
    | .int i, .int j => if decide (-P62 ≤ i) && decide (i < P62) && decide (-P62 ≤ j) && decide (j < P62) && decide ((j - i).toNat ≤ LINE) then .ok (rngQ i (j - i).toNat) h else .bad
    | _, _ => .bad
def pfor (p : Pat) (body : QE → QH → PO) : List Q → QE → QH → PO
  | [], env, h => .nx env h
  | x :: xs, env, h => match bindQ p x env with
    | none => .bad
    | some env => match body env h with
      | .nx env h => pfor p body xs env h
      | .cnt env h => pfor p body xs env h
      | .brk env h => .nx env h
      | r => r
def pwhl (t : QE → QH → PR Bool) (body : QE → QH → PO) : Nat → QE → QH → PO
  | 0, _, _ => .bad
  | n + 1, env, h => (t env h).out fun k h => if k then match body env h with
      | .nx env h => pwhl t body n env h
      | .cnt env h => pwhl t body n env h
      | .brk env h => .nx env h
      | r => r
    else .nx env h
/-- a method of a name's own list -/
def pmut (C : PC) (m : ME) (i : Nat) (as : List E) (env : QE) (h : QH) (f : Q → QE → QH → PO) : PO := if C.own i then match env[i]? with
  | some (some (.lst xs)) => (pes C as env h).out fun ps h => match meM m xs ps with
    | some (y, ys) => f y (env.set i (some (.lst ys))) h
    | none => .bad
  | _ => .bad
  else .bad
/-- does the name hold a ref -/
def isRefQ (env : QE) (i : Nat) : Bool := match env[i]? with
  | some (some (.ref _)) => true
  | _ => false
/-- a mutation of a name -/
def mutE : E → Option (ME × Nat × List E)
  | .me m (.var i) as => if isM m then some (m, i, as) else none
  | _ => none
def pexpr (C : PC) (e : E) (env : QE) (h : QH) (f : Q → QE → QH → PO) : PO := match mutE e with
  | some (m, i, as) => if isRefQ env i then (pe C e env h).out fun x h => f x env h else pmut C m i as env h f
  | none => (pe C e env h).out fun x h => f x env h
def pseti (C : PC) (o i e : E) (env : QE) (h : QH) : PO := (pe C e env h).out fun x h => match o with
  | .var m => match env[m]? with
    | some (some (.lst xs)) => if C.own m then (pe C i env h).out fun q h => match q with
      | .int k => match L2.ixN xs.length k with
        | some j => .nx (env.set m (some (.lst (xs.set j x)))) h
        | none => .bad
      | _ => .bad
      else .bad
    | some (some (.ref r)) => (pe C i env h).out fun q h => match q with
      | .int k => match h[r]? with
        | some (.lst xs) => match L2.ixN xs.length k with
          | some j => .nx env (h.set r (.lst (xs.set j x)))
          | none => .bad
        | _ => .bad
      | _ => .bad
    | _ => .bad
  | _ => .bad
def pdset (C : PC) (d k e : E) (env : QE) (h : QH) : PO := (pe C e env h).out fun x h => match d with
  | .var m => match env[m]? with
    | some (some (.dic kvs)) => if C.own m then (pe C k env h).out fun q h => match keyQ q with
      | some q => if kvs.length < LINE then .nx (env.set m (some (.dic (putQ q x kvs)))) h else .bad
      | none => .bad
      else .bad
    | some (some (.ref r)) => (pe C k env h).out fun q h => match keyQ q with
      | some q => match h[r]? with
        | some (.dic kvs) => if kvs.length < LINE then .nx env (h.set r (.dic (putQ q x kvs))) else .bad
        | _ => .bad
      | none => .bad
    | _ => .bad
  | d => (pe C d env h).out fun p h => match p with
    | .ref r => (pe C k env h).out fun q h => match keyQ q with
      | some q => match h[r]? with
        | some (.dic kvs) => if kvs.length < LINE then .nx env (h.set r (.dic (putQ q x kvs))) else .bad
        | _ => .bad
      | none => .bad
    | _ => .bad
def psetf (C : PC) (o : E) (x : Str) (cs : List Nat) (e : E) (env : QE) (h : QH) : PO := (pe C e env h).out fun v h => match o with
  | .var m => match env[m]? with
    | some (some (.ins c fs)) => if C.own m && (cs.contains c && decide (fs.length < 1000)) then .nx (env.set m (some (.ins c (putI x v fs)))) h else .bad
    | some (some (.ref r)) => match h[r]? with
      | some (.ins c fs) => if cs.contains c && decide (fs.length < 1000) then .nx env (h.set r (.ins c (putI x v fs))) else .bad
      | _ => .bad
    | _ => .bad
  | _ => .bad
mutual
def ps (C : PC) : TM.S → QE → QH → PO
  | .never, _, _ => .bad
  | .pass, env, h => .nx env h
  | .brk, env, h => .brk env h
  | .cnt, env, h => .cnt env h
  | .set p e, env, h => pexpr C e env h fun x env h => match bindQ p x env with
    | some env => .nx env h
    | none => .bad
  | .seti o i e, env, h => pseti C o i e env h
  | .setf o x cs e, env, h => psetf C o x cs e env h
  | .dset d k e, env, h => pdset C d k e env h
  | .aug i o e, env, h => match env[i]? with
    | some (some p) => (pe C e env h).out fun q h => match augQ o p q with
      | some z => .nx (env.set i (some z)) h
      | none => .bad
    | _ => .bad
  | .expr e, env, h => pexpr C e env h fun _ env h => .nx env h
  | .ret e, env, h => (pe C e env h).out fun p h => .ret p h
  | .retn, _, h => .ret .non h
  | .ite t a b, env, h => (peT C t env h).out fun k h => if k then pb C a env h else pb C b env h
  | .whl t b, env, h => pwhl (peT C t) (pb C b) FU env h
  | .for p it b, env, h => (peI C it env h).out fun xs h => pfor p (pb C b) xs env h
def pb (C : PC) : List TM.S → QE → QH → PO
  | [], env, h => .nx env h
  | s :: ss, env, h => (ps C s env h).seq fun env h => pb C ss env h
end
/-! ### comprehensions -/
def peTs (C : PC) : List T → QE → QH → PR Bool
  | [], _, h => .ok true h
  | t :: ts, env, h => (peT C t env h).bind fun b h => if b then peTs C ts env h else .ok false h
def wipeQ (env : QE) : List Nat → QE
  | [] => env
  | v :: vs => (wipeQ env vs).set v none
def genQ (p : Pat) (b : Bool) (elt : QE → QH → PR Q) : List Q → QE → QH → PR Q
  | [], _, h => .ok (.bl b) h
  | x :: xs, env, h => match bindQ p x env with
    | none => .bad
    | some env => match elt env h with
      | .ok (.bl c) h => if c = b then genQ p b elt xs env h else .ok (.bl (!b)) h
      | _ => .bad
/-- the turns of a clause: what is made so far is handed on -/
def lcQ {a : Type} (p : Pat) (env : QE) (tst : QE → QH → PR Bool) (turn : a → QE → QH → PR a) : List Q → a → QH → PR a
  | [], acc, h => .ok acc h
  | x :: xs, acc, h => match bindQ p x env with
    | none => .bad
    | some env1 => (tst env1 h).bind fun b h => if b then (turn acc env1 h).bind fun acc h => lcQ p env tst turn xs acc h else lcQ p env tst turn xs acc h
def eltQ (C : PC) (e : E) (acc : List Q) (env : QE) (h : QH) : PR (List Q) := (pe C e env h).bind fun x h => if acc.length < LINE then .ok (acc ++ [x]) h else .bad
def lc2Q (C : PC) (c2 : Cl) (e : E) (acc : List Q) (env : QE) (h : QH) : PR (List Q) :=
  (peI C c2.it env h).bind fun xs h => lcQ c2.p (wipeQ env c2.own) (peTs C c2.ts) (eltQ C e) xs acc h
def peL1 (C : PC) (γ : Gen) (env : QE) (h : QH) : PR Q :=
  (peI C γ.c.it env h).bind fun xs h => (lcQ γ.c.p (wipeQ env γ.c.own) (peTs C γ.c.ts) (eltQ C γ.e) xs [] h).bind fun acc h => .ok (.lst acc) h
def peL2 (C : PC) (γ : Gen) (c2 : Cl) (env : QE) (h : QH) : PR Q :=
  (peI C γ.c.it env h).bind fun xs h => (lcQ γ.c.p (wipeQ env γ.c.own) (peTs C γ.c.ts) (lc2Q C c2 γ.e) xs [] h).bind fun acc h => .ok (.lst acc) h
def eltK (C : PC) (e v : E) (acc : List (PV × Q)) (env : QE) (h : QH) : PR (List (PV × Q)) := (pe C e env h).bind fun q h => (pe C v env h).bind fun x h => match keyQ q with
  | some k => if acc.length < LINE then .ok (putQ k x acc) h else .bad
  | none => .bad
def peD1 (C : PC) (γ : Gen) (env : QE) (h : QH) : PR Q :=
  (peI C γ.c.it env h).bind fun xs h => (lcQ γ.c.p (wipeQ env γ.c.own) (peTs C γ.c.ts) (eltK C γ.e γ.v) xs [] h).bind fun acc h => .ok (.dic acc) h
def peA (C : PC) (b : Bool) (γ : Gen) (env : QE) (h : QH) : PR Q := (peI C γ.c.it env h).bind fun xs h => genQ γ.c.p b (pe C γ.e) xs (env ++ List.replicate γ.k none) h
def peG (C : PC) (γ : Gen) (env : QE) (h : QH) : PR Q := match γ.kd with
  | .all => peA C true γ env h
  | .any => peA C false γ env h
  | .lst => match γ.c2 with
    | [] => peL1 C γ env h
    | [c2] => peL2 C γ c2 env h
    | _ => .bad
  | .dct => match γ.c2 with
    | [] => peD1 C γ env h
    | _ => .bad
def gfQ (cf : Nat → List Q → QH → PR Q) (ci : Nat → Nat → List Q → QH → PR Q) (gl : Nat → PV) (gs : List Gen) : Nat → Nat → QE → QH → PR Q
  | 0, _, _, _ => .bad
  | n + 1, g, env, h => match gs[g]? with
    | some γ => peG ⟨cf, ci, gl, gfQ cf ci gl gs n, fun _ => false⟩ γ env h
    | none => .bad
end PM

/-! PM, part B: how values stand in the store. -/
namespace PM
open PySem TM
/-- place by place -/
inductive R2 {a b : Type} (r : a → b → Prop) : List a → List b → Prop where
  | nil : R2 r [] []
  | cons {x : a} {y : b} {xs : List a} {ys : List b} : r x y → R2 r xs ys → R2 r (x :: xs) (y :: ys)
namespace R2
variable {a b : Type} {r r' : a → b → Prop} {xs xs' : List a} {ys ys' : List b}
theorem len (h : R2 r xs ys) : xs.length = ys.length := by
  induction h with
  | nil => rfl
  | cons _ _ ih => simp [ih]
theorem get (h : R2 r xs ys) : ∀ {j : Nat} {x : a}, xs[j]? = some x → ∃ y, ys[j]? = some y ∧ r x y := by
  induction h with
  | nil => intro j x e; simp at e
  | cons h _ ih =>
    intro j x e
    cases j with
    | zero => simp at e; exact ⟨_, rfl, e ▸ h⟩
    | succ j => simp at e; simpa using ih e
theorem get2 (h : R2 r xs ys) {j : Nat} {x : a} {y : b} (e : xs[j]? = some x) (f : ys[j]? = some y) : r x y := by
  obtain ⟨z, g, k⟩ := h.get e
  rw [f] at g; cases g; exact k
theorem of_ix : ∀ {xs : List a} {ys : List b}, xs.length = ys.length → (∀ (j : Nat) x y, xs[j]? = some x → ys[j]? = some y → r x y) → R2 r xs ys
  | [], [], _, _ => .nil
  | x :: xs, y :: ys, l, m => .cons (m 0 x y rfl rfl) (of_ix (by simpa using l) fun j x y e f => m (j + 1) x y (by simpa using e) (by simpa using f))
theorem imp (h : R2 r xs ys) (i : ∀ x y, x ∈ xs → r x y → r' x y) : R2 r' xs ys := by
  induction h with
  | nil => exact .nil
  | cons g _ ih => exact .cons (i _ _ (by simp) g) (ih fun x y m => i x y (by simp [m]))
theorem app (h : R2 r xs ys) (g : R2 r xs' ys') : R2 r (xs ++ xs') (ys ++ ys') := by
  induction h with
  | nil => exact g
  | cons k _ ih => exact .cons k ih
theorem take (h : R2 r xs ys) : ∀ n : Nat, R2 r (xs.take n) (ys.take n) := by
  induction h with
  | nil => intro n; simp; exact .nil
  | cons k _ ih => intro n; cases n with
    | zero => simp; exact .nil
    | succ n => simp; exact .cons k (ih n)
theorem drop (h : R2 r xs ys) : ∀ n : Nat, R2 r (xs.drop n) (ys.drop n) := by
  induction h with
  | nil => intro n; simp; exact .nil
  | cons k t ih => intro n; cases n with
    | zero => simp; exact .cons k t
    | succ n => simpa using ih n
theorem set (h : R2 r xs ys) {x : a} {y : b} (k : r x y) : ∀ n : Nat, R2 r (xs.set n x) (ys.set n y) := by
  induction h with
  | nil => intro n; simp; exact .nil
  | cons g t ih => intro n; cases n with
    | zero => simp; exact .cons k t
    | succ n => simp; exact .cons g (ih n)
theorem flat (h : R2 r xs ys) : ∀ n : Nat, R2 r (List.replicate n xs).flatten (List.replicate n ys).flatten
  | 0 => by simp; exact .nil
  | n + 1 => by simp only [List.replicate_succ, List.flatten_cons]; exact h.app (flat h n)
theorem dropLast (h : R2 r xs ys) : R2 r xs.dropLast ys.dropLast := by
  rw [List.dropLast_eq_take, List.dropLast_eq_take, h.len]; exact h.take _
theorem nil_iff (h : R2 r xs ys) : xs.isEmpty = ys.isEmpty := by cases h <;> rfl
theorem map {c d : Type} {s : c → d → Prop} {f : a → c} {g : b → d} (h : R2 r xs ys) (i : ∀ x y, r x y → s (f x) (g y)) : R2 s (xs.map f) (ys.map g) := by
  induction h with
  | nil => exact .nil
  | cons k _ ih => exact .cons (i _ _ k) ih
theorem same {r : a → a → Prop} (h : ∀ x ∈ xs, r x x) : R2 r xs xs := by
  induction xs with
  | nil => exact .nil
  | cons x xs ih => exact .cons (h x (by simp)) (ih fun y m => h y (by simp [m]))
end R2
/-- a world: the store, what is some frame's own, where the refs stand -/
structure W where
  S : Sto
  Ow : Nat → Prop
  io : Nat → Nat
  nh : Nat
def isRf (w : W) (i : Nat) : Prop := ∃ r, r < w.nh ∧ w.io r = i
def Lock (w : W) (i : Nat) : Prop := w.Ow i ∨ isRf w i
inductive VR (w : W) : Q → PV → Prop where
  | non : VR w .non .non
  | bl {b : Bool} : VR w (.bl b) (.bl b)
  | int {i : Int} : VR w (.int i) (.int i)
  | str {cs : List Nat} : VR w (.str cs) (.str cs)
  | tup {qs : List Q} {ps : List PV} (l : qs.length = ps.length) (m : ∀ (j : Nat) q p, qs[j]? = some q → ps[j]? = some p → VR w q p) : VR w (.tup qs) (.tup ps)
  | lst {qs : List Q} {ps : List PV} {i : Nat} (u : ¬Lock w i) (g : w.S[i]? = some (.lst ps)) (l : qs.length = ps.length) (m : ∀ (j : Nat) q p, qs[j]? = some q → ps[j]? = some p → VR w q p) : VR w (.lst qs) (.obj i)
  | dic {qs : List (PV × Q)} {ps : List (PV × PV)} {i : Nat} (u : ¬Lock w i) (g : w.S[i]? = some (.dic ps)) (l : qs.length = ps.length) (k : ∀ (j : Nat) q p, qs[j]? = some q → ps[j]? = some p → q.1 = p.1) (m : ∀ (j : Nat) q p, qs[j]? = some q → ps[j]? = some p → VR w q.2 p.2) : VR w (.dic qs) (.obj i)
  | ins {c : Nat} {qs : List (Str × Q)} {ps : List (Str × PV)} {i : Nat} (u : ¬Lock w i) (g : w.S[i]? = some (.ins c ps)) (l : qs.length = ps.length) (k : ∀ (j : Nat) q p, qs[j]? = some q → ps[j]? = some p → q.1 = p.1) (m : ∀ (j : Nat) q p, qs[j]? = some q → ps[j]? = some p → VR w q.2 p.2) : VR w (.ins c qs) (.obj i)
  | ref {r : Nat} (h : r < w.nh) : VR w (.ref r) (.obj (w.io r))
abbrev VRs (w : W) := R2 (VR w)
def PR2 {k : Type} (w : W) (q : k × Q) (p : k × PV) : Prop := q.1 = p.1 ∧ VR w q.2 p.2
abbrev VRd {k : Type} (w : W) : List (k × Q) → List (k × PV) → Prop := R2 (PR2 w)
theorem R2.vrd {k : Type} {w : W} {qs : List (k × Q)} {ps : List (k × PV)} (l : qs.length = ps.length) (c : ∀ (j : Nat) q p, qs[j]? = some q → ps[j]? = some p → q.1 = p.1) (m : ∀ (j : Nat) q p, qs[j]? = some q → ps[j]? = some p → VR w q.2 p.2) : VRd w qs ps :=
  .of_ix l fun j q p e f => ⟨c j q p e f, m j q p e f⟩
theorem VR.tup' {w : W} {qs : List Q} {ps : List PV} (h : VRs w qs ps) : VR w (.tup qs) (.tup ps) := .tup h.len fun _ _ _ e f => h.get2 e f
theorem VR.lst' {w : W} {qs : List Q} {ps : List PV} {i : Nat} (u : ¬Lock w i) (g : w.S[i]? = some (.lst ps)) (h : VRs w qs ps) : VR w (.lst qs) (.obj i) := .lst u g h.len fun _ _ _ e f => h.get2 e f
theorem VR.dic' {w : W} {qs : List (PV × Q)} {ps : List (PV × PV)} {i : Nat} (u : ¬Lock w i) (g : w.S[i]? = some (.dic ps)) (h : VRd w qs ps) : VR w (.dic qs) (.obj i) := .dic u g h.len (fun _ _ _ e f => (h.get2 e f).1) fun _ _ _ e f => (h.get2 e f).2
theorem VR.ins' {w : W} {c : Nat} {qs : List (Str × Q)} {ps : List (Str × PV)} {i : Nat} (u : ¬Lock w i) (g : w.S[i]? = some (.ins c ps)) (h : VRd w qs ps) : VR w (.ins c qs) (.obj i) := .ins u g h.len (fun _ _ _ e f => (h.get2 e f).1) fun _ _ _ e f => (h.get2 e f).2
/-- what stays -/
structure Mn (w w' : W) : Prop where
  keep : ∀ i o, ¬Lock w i → w.S[i]? = some o → ¬Lock w' i ∧ w'.S[i]? = some o
  io : ∀ r, r < w.nh → w'.io r = w.io r
  nh : w.nh ≤ w'.nh
theorem Mn.refl {w : W} : Mn w w := ⟨fun _ _ a b => ⟨a, b⟩, fun _ _ => rfl, Nat.le_refl _⟩
theorem Mn.trans {w w1 w2 : W} (a : Mn w w1) (b : Mn w1 w2) : Mn w w2 :=
  ⟨fun i o h e => let ⟨x, y⟩ := a.keep i o h e; b.keep i o x y, fun r h => (b.io r (Nat.lt_of_lt_of_le h a.nh)).trans (a.io r h), Nat.le_trans a.nh b.nh⟩
theorem VR.mono {w w' : W} (a : Mn w w') {q : Q} {p : PV} (h : VR w q p) : VR w' q p := by
  induction h with
  | non => exact .non
  | bl => exact .bl
  | int => exact .int
  | str => exact .str
  | tup l m ih => exact .tup l ih
  | lst u g l m ih => exact .lst (a.keep _ _ u g).1 (a.keep _ _ u g).2 l ih
  | dic u g l k m ih => exact .dic (a.keep _ _ u g).1 (a.keep _ _ u g).2 l k ih
  | ins u g l k m ih => exact .ins (a.keep _ _ u g).1 (a.keep _ _ u g).2 l k ih
  | ref h => rw [← a.io _ h]; exact .ref (Nat.lt_of_lt_of_le h a.nh)
theorem VRs.mono {w w' : W} (a : Mn w w') {qs : List Q} {ps : List PV} (h : VRs w qs ps) : VRs w' qs ps := h.imp fun _ _ _ g => g.mono a
theorem VRd.mono {k : Type} {w w' : W} (a : Mn w w') {qs : List (k × Q)} {ps : List (k × PV)} (h : VRd w qs ps) : VRd w' qs ps := h.imp fun _ _ _ g => ⟨g.1, g.2.mono a⟩
/-- content: of an object what stands in it, locked or not -/
def BR (w : W) : Q → PV → Prop
  | .lst qs, p => ∃ i ps, p = .obj i ∧ w.S[i]? = some (.lst ps) ∧ VRs w qs ps
  | .dic qs, p => ∃ i ps, p = .obj i ∧ w.S[i]? = some (.dic ps) ∧ VRd w qs ps
  | .ins c qs, p => ∃ i ps, p = .obj i ∧ w.S[i]? = some (.ins c ps) ∧ VRd w qs ps
  | .ref _, _ => False
  | q, p => VR w q p
def isRefV : Q → Bool
  | .ref _ => true
  | _ => false
theorem VR.br {w : W} {q : Q} {p : PV} (h : VR w q p) (n : isRefV q = false) : BR w q p := by
  cases h with
  | lst u g l m => exact ⟨_, _, rfl, g, .of_ix l m⟩
  | dic u g l k m => exact ⟨_, _, rfl, g, .vrd l k m⟩
  | ins u g l k m => exact ⟨_, _, rfl, g, .vrd l k m⟩
  | ref h => cases n
  | non => exact .non
  | bl => exact .bl
  | int => exact .int
  | str => exact .str
  | tup l m => exact .tup l m
/-- the heap -/
structure HR (w : W) (h : QH) : Prop where
  nh : w.nh = h.length
  obj : ∀ r o, h[r]? = some o → BR w o (.obj (w.io r))
  inj : ∀ r r', r < w.nh → r' < w.nh → w.io r = w.io r' → r = r'
  rng : ∀ i, Lock w i → i < w.S.length
  dis : ∀ r, r < w.nh → ¬w.Ow (w.io r)
/-- of a name: a value, or an own object -/
def Own (w : W) (q : Q) (p : PV) : Prop := BR w q p ∧ ∃ i, p = .obj i ∧ ¬isRf w i
def WR (w : W) (q : Q) (p : PV) : Prop := VR w q p ∨ Own w q p
theorem look_br {w : W} {h : QH} {q c : Q} {p : PV} (H : HR w h) (r : WR w q p) (e : look h q = some c) : BR w c p := by
  rcases r with r | ⟨r, _⟩
  · cases hq : isRefV q with
    | false =>
      have : look h q = some q := by cases q <;> first | rfl | cases hq
      rw [this] at e; cases e
      exact r.br hq
    | true =>
      cases r with
      | ref hr => exact H.obj _ _ e
      | _ => cases hq
  · cases q with
    | ref _ => exact r.elim
    | _ => cases e; exact r
/-- a later world -/
structure Ext (B : Nat) (w w' : W) : Prop where
  len : w.S.length ≤ w'.S.length
  io : ∀ r, r < w.nh → w'.io r = w.io r
  nh : w.nh ≤ w'.nh
  new : ∀ r, w.nh ≤ r → r < w'.nh → w.S.length ≤ w'.io r
  own : ∀ i, w'.Ow i → w.Ow i ∨ w.S.length ≤ i
  keep : ∀ i o, w.S[i]? = some o → ((i < B ∧ ¬isRf w i) ∨ ¬Lock w i) → w'.S[i]? = some o
theorem lt_of_get {a : Type} {S : List a} {i : Nat} {o : a} (h : S[i]? = some o) : i < S.length := (List.getElem?_eq_some_iff.mp h).1
theorem Ext.rf {B : Nat} {w w' : W} (e : Ext B w w') {i : Nat} (l : i < w.S.length) (h : isRf w' i) : isRf w i := by
  obtain ⟨r, hr, e2⟩ := h
  by_cases c : r < w.nh
  · exact ⟨r, c, by rw [← e.io r c]; exact e2⟩
  · have := e.new r (by omega) hr
    omega
theorem Ext.lock {B : Nat} {w w' : W} (e : Ext B w w') {i : Nat} (l : i < w.S.length) (h : Lock w' i) : Lock w i := by
  rcases h with h | h
  · rcases e.own i h with h | h
    · exact .inl h
    · omega
  · exact .inr (e.rf l h)
theorem Ext.mn {B : Nat} {w w' : W} (e : Ext B w w') : Mn w w' :=
  ⟨fun i o h g => ⟨fun z => h (e.lock (lt_of_get g) z), e.keep i o g (.inr h)⟩, e.io, e.nh⟩
theorem Ext.refl {B : Nat} {w : W} : Ext B w w := ⟨Nat.le_refl _, fun _ _ => rfl, Nat.le_refl _, fun _ a b => absurd b (by omega), fun _ h => .inl h, fun _ _ h _ => h⟩
theorem Ext.trans {B B' : Nat} {w w1 w2 : W} (a : Ext B w w1) (b : Ext B' w1 w2) (h : B ≤ B') : Ext B w w2 := by
  refine ⟨Nat.le_trans a.len b.len, fun r hr => (b.io r (Nat.lt_of_lt_of_le hr a.nh)).trans (a.io r hr), Nat.le_trans a.nh b.nh, ?_, ?_, ?_⟩
  · intro r h1 h2
    by_cases c : r < w1.nh
    · rw [b.io r c]; exact a.new r h1 c
    · have := b.new r (by omega) h2
      have := a.len
      omega
  · intro i hi
    rcases b.own i hi with hi | hi
    · exact a.own i hi
    · exact .inr (Nat.le_trans a.len hi)
  · intro i o g c
    have g1 := a.keep i o g c
    refine b.keep i o g1 ?_
    rcases c with ⟨c1, c2⟩ | c
    · exact .inl ⟨by omega, fun z => c2 (a.rf (lt_of_get g) z)⟩
    · exact .inr fun z => c (a.lock (lt_of_get g) z)
theorem Ext.weak {B B' : Nat} {w w' : W} (a : Ext B w w') (h : B' ≤ B) : Ext B' w w' :=
  ⟨a.len, a.io, a.nh, a.new, a.own, fun i o g c => a.keep i o g (c.imp (fun c => ⟨by omega, c.2⟩) id)⟩
theorem BR.ext {w w' : W} {q : Q} {p : PV} (a : Mn w w') (k : ∀ i o, p = .obj i → w.S[i]? = some o → w'.S[i]? = some o) (h : BR w q p) : BR w' q p := by
  cases q with
  | lst qs => obtain ⟨i, ps, rfl, g, r⟩ := h; exact ⟨i, ps, rfl, k i _ rfl g, VRs.mono a r⟩
  | dic qs => obtain ⟨i, ps, rfl, g, r⟩ := h; exact ⟨i, ps, rfl, k i _ rfl g, VRd.mono a r⟩
  | ins c qs => obtain ⟨i, ps, rfl, g, r⟩ := h; exact ⟨i, ps, rfl, k i _ rfl g, VRd.mono a r⟩
  | ref _ => exact h.elim
  | non => exact VR.mono a h
  | bl _ => exact VR.mono a h
  | int _ => exact VR.mono a h
  | str _ => exact VR.mono a h
  | tup _ => exact VR.mono a h
theorem BR.lt {w : W} {q : Q} {i : Nat} (h : BR w q (.obj i)) : i < w.S.length := by
  cases q with
  | lst qs => obtain ⟨j, ps, e, g, r⟩ := h; cases e; exact lt_of_get g
  | dic qs => obtain ⟨j, ps, e, g, r⟩ := h; cases e; exact lt_of_get g
  | ins c qs => obtain ⟨j, ps, e, g, r⟩ := h; cases e; exact lt_of_get g
  | ref _ => exact h.elim
  | non => cases h
  | bl _ => cases h
  | int _ => cases h
  | str _ => cases h
  | tup _ => cases h
/-- over an expression own things stay too -/
theorem Own.ext {w w' : W} {q : Q} {p : PV} (a : Ext w.S.length w w') (h : Own w q p) : Own w' q p := by
  obtain ⟨h1, i, rfl, h2⟩ := h
  exact ⟨h1.ext a.mn fun j o e g => by cases e; exact a.keep _ _ g (.inl ⟨lt_of_get g, h2⟩), i, rfl, fun z => h2 (a.rf h1.lt z)⟩
theorem WR.ext {w w' : W} {q : Q} {p : PV} (a : Ext w.S.length w w') (h : WR w q p) : WR w' q p := h.imp (·.mono a.mn) (·.ext a)
/-- a run of the one is a run of the other -/
def Snd {a b : Type} (w : W) (h : QH) (R : W → QH → a → b → Prop) (x : PR a) (y : Res b) : Prop :=
  ∀ q h', x = .ok q h' → ∃ p S' io', y = .ok p S' ∧ Ext w.S.length w ⟨S', w.Ow, io', h'.length⟩ ∧ HR ⟨S', w.Ow, io', h'.length⟩ h' ∧ R ⟨S', w.Ow, io', h'.length⟩ h' q p
theorem Snd.bad {a b : Type} {w : W} {h : QH} {R : W → QH → a → b → Prop} {y : Res b} : Snd w h R .bad y := fun _ _ e => by cases e
theorem Snd.ok {a b : Type} {w : W} {h : QH} {R : W → QH → a → b → Prop} {q : a} {p : b} (H : HR w h) (r : R w h q p) : Snd w h R (.ok q h) (.ok p w.S) := by
  intro q' h' e
  cases e
  obtain ⟨S, Ow, io, nh⟩ := w
  have := H.nh
  subst this
  exact ⟨p, S, io, rfl, .refl, H, r⟩
theorem Snd.bind {a b c d : Type} {w : W} {h : QH} {R : W → QH → a → b → Prop} {R' : W → QH → c → d → Prop} {x : PR a} {y : Res b} {f : a → QH → PR c} {g : b → Sto → Res d} (s : Snd w h R x y)
    (k : ∀ q p (w1 : W) h1, w1.Ow = w.Ow → Ext w.S.length w w1 → HR w1 h1 → R w1 h1 q p → Snd w1 h1 R' (f q h1) (g p w1.S)) : Snd w h R' (x.bind f) (y.bind g) := by
  intro q h' e
  cases x with
  | bad => cases e
  | ok q1 h1 =>
    obtain ⟨p, S1, io1, e1, e2, e3, e4⟩ := s q1 h1 rfl
    obtain ⟨p', S2, io2, g1, g2, g3, g4⟩ := k q1 p ⟨S1, w.Ow, io1, h1.length⟩ h1 rfl e2 e3 e4 q h' e
    exact ⟨p', S2, io2, by rw [e1]; exact g1, e2.trans g2 e2.len, g3, g4⟩
theorem Snd.imp {a b : Type} {w : W} {h : QH} {R R' : W → QH → a → b → Prop} {x : PR a} {y : Res b} (s : Snd w h R x y) (i : ∀ w' h' q p, R w' h' q p → R' w' h' q p) : Snd w h R' x y := by
  intro q h' e
  obtain ⟨p, S1, io1, e1, e2, e3, e4⟩ := s q h' e
  exact ⟨p, S1, io1, e1, e2, e3, i _ _ _ _ e4⟩
theorem Snd.ofQ {a b : Type} {w : W} {h : QH} {R : W → QH → a → b → Prop} {x : Option a} {y : Res b} (H : HR w h) (i : ∀ q, x = some q → ∃ p, y = .ok p w.S ∧ R w h q p) : Snd w h R (PM.ofQ x h) y := by
  cases x with
  | none => exact .bad
  | some q =>
    obtain ⟨p, rfl, r⟩ := i q rfl
    exact .ok H r
abbrev RV : W → QH → Q → PV → Prop := fun w _ q p => VR w q p
abbrev RW : W → QH → Q → PV → Prop := fun w _ q p => WR w q p
abbrev RE {a : Type} : W → QH → a → a → Prop := fun _ _ q p => q = p
/-- the world with one more own object -/
def lockW (w : W) (i : Nat) : W := ⟨w.S, fun k => w.Ow k ∨ k = i, w.io, w.nh⟩
/-- a value; if an object, then a new one that nothing holds -/
def RN (L : Nat) (w : W) (h : QH) (q : Q) (p : PV) : Prop := VR w q p ∧ ∀ i, p = .obj i → L ≤ i ∧ BR (lockW w i) q p ∧ HR (lockW w i) h
theorem RN.flat {L : Nat} {w : W} {h : QH} {q : Q} {p : PV} (r : VR w q p) (n : ∀ i, p ≠ .obj i) : RN L w h q p := ⟨r, fun i e => absurd e (n i)⟩
theorem RN.le {L L' : Nat} {w : W} {h : QH} {q : Q} {p : PV} (r : RN L w h q p) (l : L' ≤ L) : RN L' w h q p := ⟨r.1, fun i e => ⟨Nat.le_trans l (r.2 i e).1, (r.2 i e).2⟩⟩
theorem RN.int {L : Nat} {w : W} {h : QH} {i : Int} : RN L w h (.int i) (.int i) := .flat .int (by simp)
theorem RN.bl {L : Nat} {w : W} {h : QH} {i : Bool} : RN L w h (.bl i) (.bl i) := .flat .bl (by simp)
theorem RN.str {L : Nat} {w : W} {h : QH} {i : List Nat} : RN L w h (.str i) (.str i) := .flat .str (by simp)
theorem RN.tup {L : Nat} {w : W} {h : QH} {qs : List Q} {ps : List PV} (r : VRs w qs ps) : RN L w h (.tup qs) (.tup ps) := .flat (.tup' r) (by simp)
theorem HR.later {w w' : W} {h : QH} (H : HR w h) (m : Mn w w') (nh : w'.nh = w.nh) (g : ∀ r, r < w.nh → ∀ o, w.S[w.io r]? = some o → w'.S[w.io r]? = some o) (l : ∀ i, Lock w' i → i < w'.S.length) (d : ∀ r, r < w.nh → ¬w'.Ow (w.io r)) : HR w' h := by
  have io : ∀ r, r < w.nh → w'.io r = w.io r := m.io
  refine ⟨nh.trans H.nh, fun r o e => ?_, fun r r' a b => ?_, l, fun r a => ?_⟩
  · have hr : r < w.nh := by rw [H.nh]; exact lt_of_get e
    rw [io r hr]
    exact (H.obj r o e).ext m fun i u ei gi => by cases ei; exact g r hr u gi
  · rw [nh] at a b
    rw [io r a, io r' b]
    exact H.inj r r' a b
  · rw [nh] at a
    rw [io r a]; exact d r a
/-- a new object, no ref: a value -/
theorem Snd.new {w : W} {h : QH} {q : Q} {o : TM.PO} (H : HR w h) (r : ∀ w' : W, Mn w w' → w'.S[w.S.length]? = some o → BR w' q (.obj w.S.length) ∧ (¬Lock w' w.S.length → VR w' q (.obj w.S.length))) : Snd w h (RN w.S.length) (.ok q h) (.ok (.obj w.S.length) (w.S ++ [o])) := by
  intro q' h' e
  cases e
  obtain ⟨S, Ow, io, nh⟩ := w
  have := H.nh
  subst this
  have app : ∀ i u, S[i]? = some u → (S ++ [o])[i]? = some u := fun i u g => by rw [List.getElem?_append_left (lt_of_get g)]; exact g
  have ex : Ext S.length ⟨S, Ow, io, h.length⟩ ⟨S ++ [o], Ow, io, h.length⟩ := ⟨by simp, fun _ _ => rfl, Nat.le_refl _, fun _ a b => absurd b (Nat.not_lt.mpr a), fun _ h => .inl h, fun i o' g _ => app i o' g⟩
  have mn : Mn ⟨S, Ow, io, h.length⟩ (lockW ⟨S ++ [o], Ow, io, h.length⟩ S.length) := ⟨fun i o' u g => ⟨fun z => by
      rcases z with (z | z) | z
      · exact u (.inl z)
      · have := lt_of_get g
        simp only at this
        omega
      · exact u (.inr z), app i o' g⟩, fun _ _ => rfl, Nat.le_refl _⟩
  have lt : ∀ i, i < S.length → i < (S ++ [o]).length := fun i l => by rw [List.length_append]; exact Nat.lt_of_lt_of_le l (Nat.le_add_right _ _)
  refine ⟨_, _, io, rfl, ex, H.later ex.mn rfl (fun r _ u g => app _ u g) (fun i l => lt i (H.rng i l)) H.dis, (r _ ex.mn (by simp)).2 (fun l => ?_), fun i ei => ?_⟩
  · exact absurd (H.rng S.length l) (Nat.lt_irrefl _)
  · cases ei
    refine ⟨Nat.le_refl _, (r _ mn (by simp [lockW])).1, H.later mn rfl (fun r _ u g => app _ u g) (fun i l => ?_) fun r a z => ?_⟩
    · rcases l with (l | l) | l
      · exact lt i (H.rng i (.inl l))
      · rw [l]; simp [lockW]
      · exact lt i (H.rng i (.inr l))
    · rcases z with z | z
      · exact H.dis r a z
      · have l9 : io r < S.length := H.rng (io r) (.inr ⟨r, a, rfl⟩)
        have z9 : io r = S.length := z
        omega
theorem Snd.rv {w : W} {h : QH} {L : Nat} {x : PR Q} {y : Res PV} (s : Snd w h (RN L) x y) : Snd w h RV x y := s.imp fun _ _ _ _ r => r.1
/-! ### pure ones -/
mutual
theorem toP_vr {w : W} : ∀ {q : Q} {v p : PV}, toP q = some v → VR w q p → p = v
  | .non, v, p, h, r => by cases r; cases h; rfl
  | .bl _, v, p, h, r => by cases r; cases h; rfl
  | .int _, v, p, h, r => by cases r; cases h; rfl
  | .str _, v, p, h, r => by cases r; cases h; rfl
  | .tup qs, v, p, h, r => by
    cases r with
    | tup l m =>
      simp only [toP, Option.map_eq_some_iff] at h
      obtain ⟨vs, h, rfl⟩ := h
      rw [toPs_vr h (.of_ix l m)]
  | .lst _, v, p, h, r => by cases h
  | .dic _, v, p, h, r => by cases h
  | .ins _ _, v, p, h, r => by cases h
  | .ref _, v, p, h, r => by cases h
theorem toPs_vr {w : W} : ∀ {qs : List Q} {vs ps : List PV}, toPs qs = some vs → VRs w qs ps → ps = vs
  | [], vs, ps, h, r => by cases r; cases h; rfl
  | q :: qs, vs, ps, h, r => by
    cases r with
    | cons r1 r2 =>
      simp only [toPs] at h
      split at h
      · rename_i a b h1 h2
        cases h
        rw [toP_vr h1 r1, toPs_vr h2 r2]
      · cases h
end
mutual
theorem toP_flat : ∀ {q : Q} {v : PV}, toP q = some v → ∀ i, v ≠ .obj i
  | .non, v, h, i => by cases h; simp
  | .bl _, v, h, i => by cases h; simp
  | .int _, v, h, i => by cases h; simp
  | .str _, v, h, i => by cases h; simp
  | .tup qs, v, h, i => by
    simp only [toP, Option.map_eq_some_iff] at h
    obtain ⟨vs, h, rfl⟩ := h
    simp
  | .lst _, v, h, _ => by cases h
  | .dic _, v, h, _ => by cases h
  | .ins _ _, v, h, _ => by cases h
  | .ref _, v, h, _ => by cases h
end
theorem toP_br {w : W} {q : Q} {v p : PV} (h : toP q = some v) (r : BR w q p) : p = v := by
  cases q with
  | lst _ => cases h
  | dic _ => cases h
  | ins _ _ => cases h
  | ref _ => cases h
  | non => exact toP_vr h r
  | bl _ => exact toP_vr h r
  | int _ => exact toP_vr h r
  | str _ => exact toP_vr h r
  | tup _ => exact toP_vr h r
mutual
theorem ofP_vr {w : W} : ∀ {v : PV}, pur v = true → VR w (ofP v) v
  | .non, _ => .non
  | .bl _, _ => .bl
  | .int _, _ => .int
  | .str _, _ => .str
  | .tup xs, h => .tup' (ofPs_vr (by simpa [pur] using h))
  | .obj _, h => by cases h
theorem ofPs_vr {w : W} : ∀ {vs : List PV}, purL vs = true → VRs w (ofPs vs) vs
  | [], _ => .nil
  | v :: vs, h => by
    simp only [purL, Bool.and_eq_true] at h
    exact .cons (ofP_vr h.1) (ofPs_vr h.2)
end
theorem br_int {w : W} {i : Int} {p : PV} (h : BR w (.int i) p) : p = .int i := by have h : VR w _ _ := h; cases h; rfl
theorem br_str {w : W} {i : List Nat} {p : PV} (h : BR w (.str i) p) : p = .str i := by have h : VR w _ _ := h; cases h; rfl
theorem br_bl {w : W} {i : Bool} {p : PV} (h : BR w (.bl i) p) : p = .bl i := by have h : VR w _ _ := h; cases h; rfl
theorem br_non {w : W} {p : PV} (h : BR w .non p) : p = .non := by have h : VR w _ _ := h; cases h; rfl
theorem br_tup {w : W} {i : List Q} {p : PV} (h : BR w (.tup i) p) : ∃ ps, p = .tup ps ∧ VRs w i ps := by have h : VR w _ _ := h; cases h with | tup l m => exact ⟨_, rfl, .of_ix l m⟩
theorem wr_nobj {w : W} {q : Q} {p : PV} (h : WR w q p) (n : ∀ i, p ≠ .obj i) : VR w q p := by
  rcases h with h | ⟨_, i, rfl, _⟩
  · exact h
  · exact absurd rfl (n i)
theorem own_obj {w : W} {q : Q} {p : PV} (h : Own w q p) : (∃ qs, q = .lst qs) ∨ (∃ qs, q = .dic qs) ∨ ∃ c qs, q = .ins c qs := by
  obtain ⟨h, i, rfl, _⟩ := h
  cases q with
  | lst qs => exact .inl ⟨_, rfl⟩
  | dic qs => exact .inr (.inl ⟨_, rfl⟩)
  | ins c qs => exact .inr (.inr ⟨_, _, rfl⟩)
  | ref _ => exact h.elim
  | non => cases h
  | bl _ => cases h
  | int _ => cases h
  | str _ => cases h
  | tup _ => cases h
theorem wr_int {w : W} {i : Int} {p : PV} (h : WR w (.int i) p) : p = .int i := by
  rcases h with h | h
  · cases h; rfl
  · exact br_int h.1
theorem wr_str {w : W} {i : List Nat} {p : PV} (h : WR w (.str i) p) : p = .str i := by
  rcases h with h | h
  · cases h; rfl
  · exact br_str h.1
theorem wr_bl {w : W} {i : Bool} {p : PV} (h : WR w (.bl i) p) : p = .bl i := by
  rcases h with h | h
  · cases h; rfl
  · exact br_bl h.1
end PM

/-! PM, part C: what is asked of values. -/
namespace PM
open PySem TM
variable {w : W} {h : QH}
theorem obj_S {w : W} {q : Q} {i : Nat} (r : BR w q (.obj i)) : (∃ qs ps, q = .lst qs ∧ w.S[i]? = some (.lst ps) ∧ VRs w qs ps) ∨ (∃ qs ps, q = .dic qs ∧ w.S[i]? = some (.dic ps) ∧ VRd w qs ps) ∨ ∃ c qs ps, q = .ins c qs ∧ w.S[i]? = some (.ins c ps) ∧ VRd w qs ps := by
  cases q with
  | lst qs => obtain ⟨j, ps, e, g, r⟩ := r; cases e; exact .inl ⟨_, _, rfl, g, r⟩
  | dic qs => obtain ⟨j, ps, e, g, r⟩ := r; cases e; exact .inr (.inl ⟨_, _, rfl, g, r⟩)
  | ins c qs => obtain ⟨j, ps, e, g, r⟩ := r; cases e; exact .inr (.inr ⟨_, _, _, rfl, g, r⟩)
  | ref _ => exact r.elim
  | non => cases r
  | bl _ => cases r
  | int _ => cases r
  | str _ => cases r
  | tup _ => cases r
theorem truth_ok {q : Q} {p : PV} (r : BR w q p) {b : Bool} (e : truthQ q = some b) : truth w.S p = some b := by
  cases q with
  | lst qs =>
    obtain ⟨i, ps, rfl, g, r⟩ := r
    simp only [truthQ] at e
    simp only [truth, g, ← e, r.nil_iff]
  | dic qs => cases e
  | ins c qs => cases e
  | ref _ => cases e
  | non => rw [br_non r]; exact e
  | bl _ => rw [br_bl r]; exact e
  | int _ => rw [br_int r]; exact e
  | str _ => rw [br_str r]; exact e
  | tup _ =>
    obtain ⟨ps, rfl, r2⟩ := br_tup r
    simp only [truthQ] at e
    simp only [truth, ← e, r2.nil_iff]
theorem truthH_ok (H : HR w h) {q : Q} {p : PV} (r : WR w q p) {b : Bool} (e : truthH h q = some b) : truth w.S p = some b := by
  unfold truthH at e
  cases l : look h q with
  | none => rw [l] at e; cases e
  | some c => rw [l] at e; exact truth_ok (look_br H r l) e
theorem Snd.truth (H : HR w h) {q : Q} {p : PV} (r : WR w q p) : Snd w h RE (PM.ofQ (truthH h q) h) (ofO (TM.truth w.S p) w.S) :=
  .ofQ H fun b e => ⟨b, by rw [truthH_ok H r e]; rfl, rfl⟩
theorem VRs.strs {xs : List Q} {ps : List PV} (r : VRs w xs ps) : ∀ {ys : List (List Nat)}, strsQ xs = some ys → strsOf ps = some ys := by
  induction r with
  | nil => intro ys e; exact e
  | cons a b ih =>
    intro ys e
    cases a <;> simp only [strsQ] at e <;> try cases e
    split at e
    · rename_i l g
      cases e
      simp only [strsOf, ih g]
    · cases e
theorem VRs.ints {xs : List Q} {ps : List PV} (r : VRs w xs ps) : ∀ {ys : List Int}, intsQ xs = some ys → intsOf ps = some ys := by
  induction r with
  | nil => intro ys e; exact e
  | cons a b ih =>
    intro ys e
    cases a <;> simp only [intsQ] at e <;> try cases e
    split at e
    · rename_i l g
      cases e
      simp only [intsOf, ih g]
    · cases e
/-- two contents put together: a value in place, or a new object -/
theorem atI_r2 {a b : Type} {r : a → b → Prop} {xs : List a} {ys : List b} (h : R2 r xs ys) {k : Int} {x : a} (e : L2.atI xs k = some x) : ∃ y, L2.atI ys k = some y ∧ r x y := by
  unfold L2.atI at e ⊢
  rw [← h.len]
  cases hj : L2.ixN xs.length k with
  | none => rw [hj] at e; cases e
  | some j =>
    rw [hj] at e
    exact h.get e
theorem cut_r2 {a b : Type} {r : a → b → Prop} {xs : List a} {ys : List b} (h : R2 r xs ys) (lo hi : Option Int) : R2 r (cutL xs lo hi) (cutL ys lo hi) := by
  unfold cutL
  rw [← h.len]
  exact (h.drop _).take _

theorem Snd.look {a b : Type} {R : W → QH → a → b → Prop} (H : HR w h) {q : Q} {p : PV} (r : WR w q p) {f : Q → PR a} {y : Res b} (k : ∀ c, BR w c p → Snd w h R (f c) y) : Snd w h R (match look h q with | some c => f c | none => .bad) y := by
  cases l : PM.look h q with
  | none => exact .bad
  | some c => exact k c (look_br H r l)
theorem new_lst {w : W} {h : QH} (H : HR w h) {qs : List Q} {ps : List PV} (r : VRs w qs ps) : Snd w h (RN w.S.length) (.ok (.lst qs) h) (.ok (.obj w.S.length) (w.S ++ [.lst ps])) :=
  Snd.new H fun w' m g => ⟨⟨_, _, rfl, g, VRs.mono m r⟩, fun u => .lst' u g (VRs.mono m r)⟩
theorem new_dic {w : W} {h : QH} (H : HR w h) {qs : List (PV × Q)} {ps : List (PV × PV)} (r : VRd w qs ps) : Snd w h (RN w.S.length) (.ok (.dic qs) h) (.ok (.obj w.S.length) (w.S ++ [.dic ps])) :=
  Snd.new H fun w' m g => ⟨⟨_, _, rfl, g, VRd.mono m r⟩, fun u => .dic' u g (VRd.mono m r)⟩
theorem br_cases {q : Q} {p : PV} (r : BR w q p) : (q = .non ∧ p = .non) ∨ (∃ b, q = .bl b ∧ p = .bl b) ∨ (∃ i, q = .int i ∧ p = .int i) ∨ (∃ s, q = .str s ∧ p = .str s) ∨ (∃ qs ps, q = .tup qs ∧ p = .tup ps ∧ VRs w qs ps) ∨ (∃ i qs ps, q = .lst qs ∧ p = .obj i ∧ w.S[i]? = some (.lst ps) ∧ VRs w qs ps) ∨ (∃ i qs ps, q = .dic qs ∧ p = .obj i ∧ w.S[i]? = some (.dic ps) ∧ VRd w qs ps) ∨ ∃ i c qs ps, q = .ins c qs ∧ p = .obj i ∧ w.S[i]? = some (.ins c ps) ∧ VRd w qs ps := by
  cases q with
  | non => exact .inl ⟨rfl, br_non r⟩
  | bl b => exact .inr (.inl ⟨_, rfl, br_bl r⟩)
  | int b => exact .inr (.inr (.inl ⟨_, rfl, br_int r⟩))
  | str b => exact .inr (.inr (.inr (.inl ⟨_, rfl, br_str r⟩)))
  | tup b => obtain ⟨ps, rfl, r2⟩ := br_tup r; exact .inr (.inr (.inr (.inr (.inl ⟨_, _, rfl, rfl, r2⟩))))
  | lst b => obtain ⟨i, ps, rfl, g, r⟩ := r; exact .inr (.inr (.inr (.inr (.inr (.inl ⟨_, _, _, rfl, rfl, g, r⟩)))))
  | dic b => obtain ⟨i, ps, rfl, g, r⟩ := r; exact .inr (.inr (.inr (.inr (.inr (.inr (.inl ⟨_, _, _, rfl, rfl, g, r⟩))))))
  | ins c b => obtain ⟨i, ps, rfl, g, r⟩ := r; exact .inr (.inr (.inr (.inr (.inr (.inr (.inr ⟨_, _, _, _, rfl, rfl, g, r⟩))))))
  | ref _ => exact r.elim
theorem bin_ok (H : HR w h) (o : Op2) {a b : Q} {p q : PV} (ra : WR w a p) (rb : WR w b q) : Snd w h (RN w.S.length) (binH o a b h) (binV o p q w.S) := by
  unfold binH
  cases la : look h a with
  | none => exact .bad
  | some c =>
    cases lb : look h b with
    | none => exact .bad
    | some d =>
      have r1 := look_br H ra la
      have r2 := look_br H rb lb
      simp only
      rcases br_cases r1 with ⟨rfl, rfl⟩ | ⟨x, rfl, rfl⟩ | ⟨x, rfl, rfl⟩ | ⟨x, rfl, rfl⟩ | ⟨xs, xp, rfl, rfl, rx⟩ | ⟨i, xs, xp, rfl, rfl, gx, rx⟩ | ⟨i, xs, xp, rfl, rfl, gx, rx⟩ | ⟨i, c, xs, xp, rfl, rfl, gx, rx⟩ <;>
      rcases br_cases r2 with ⟨rfl, rfl⟩ | ⟨y, rfl, rfl⟩ | ⟨y, rfl, rfl⟩ | ⟨y, rfl, rfl⟩ | ⟨ys, yp, rfl, rfl, ry⟩ | ⟨j, ys, yp, rfl, rfl, gy, ry⟩ | ⟨j, ys, yp, rfl, rfl, gy, ry⟩ | ⟨j, c', ys, yp, rfl, rfl, gy, ry⟩ <;> try exact Snd.bad
      · refine .ofQ H fun z e => ?_
        simp only [binQ, Option.map_eq_some_iff] at e
        obtain ⟨n, e, rfl⟩ := e
        exact ⟨.int n, by simp only [binV, e]; rfl, RN.int⟩
      · refine .ofQ H fun z e => ?_
        cases o <;> simp only [binQ] at e <;> try cases e
        split at e
        · rename_i l
          cases e
          exact ⟨_, by simp only [binV]; rw [if_pos l], RN.str⟩
        · cases e
      · refine .ofQ H fun z e => ?_
        cases o <;> simp only [binQ] at e <;> try cases e
        split at e
        · rename_i l
          cases e
          exact ⟨_, by simp only [binV]; rw [if_pos (by rw [← rx.len, ← ry.len]; exact l)], RN.tup (rx.app ry)⟩
        · cases e
      · cases o <;> simp only [binQ] <;> try exact Snd.bad
        split
        · rename_i l
          simp only [binV, gx]
          rw [if_pos (by rw [← rx.len]; exact l)]
          exact new_lst H (rx.flat _)
        · exact .bad
      · cases o <;> simp only [binQ] <;> try exact Snd.bad
        split
        · rename_i l
          simp only [binV, gx, gy]
          rw [if_pos (by rw [← rx.len, ← ry.len]; exact l)]
          exact new_lst H (rx.app ry)
        · exact .bad

/-! ### comparing -/
theorem eqV_flat {S : Sto} {a b : PV} (ha : ∀ i, a ≠ .obj i) (hb : ∀ i, b ≠ .obj i) : eqV S a b = eqV [] a b := by
  unfold eqV
  split
  · rfl
  · cases a with
    | obj i => exact absurd rfl (ha i)
    | _ => cases b <;> first | rfl | exact absurd rfl (hb _)
theorem eq_ok {a b : Q} {p q : PV} (ra : BR w a p) (rb : BR w b q) {k : Bool} (e : eqQ a b = some k) : eqV w.S p q = some k := by
  have gen : (match toP a, toP b with | some x, some y => eqV [] x y | _, _ => none) = some k → eqV w.S p q = some k := by
    intro e
    split at e
    · rename_i x y h1 h2
      rw [toP_br h1 ra, toP_br h2 rb, eqV_flat (toP_flat h1) (toP_flat h2)]
      exact e
    · cases e
  cases a with
  | lst xs =>
    cases b with
    | lst ys =>
      obtain ⟨i, xp, rfl, g1, r1⟩ := ra
      obtain ⟨j, yp, rfl, g2, r2⟩ := rb
      simp only [eqQ] at e
      split at e
      · rename_i u v h1 h2
        rw [toPs_vr h1 r1] at g1
        rw [toPs_vr h2 r2] at g2
        have s1 : seqOf w.S i = some u := by simp [seqOf, g1]
        have s2 : seqOf w.S j = some v := by simp [seqOf, g2]
        simp only [eqV, eqS, eqD, s1, s2]
        exact e
      · cases e
    | _ => exact gen e
  | _ => exact gen e
theorem inV_flat {S : Sto} {a b : PV} (hb : ∀ i, b ≠ .obj i) : inV S a b = inV [] a b := by
  cases b with
  | obj i => exact absurd rfl (hb i)
  | _ => cases a <;> rfl
theorem in_ok {a b : Q} {p q : PV} (ra : BR w a p) (rb : BR w b q) {k : Bool} (e : inQ a b = some k) : inV w.S p q = some k := by
  unfold inQ at e
  cases h1 : toP a with
  | none => rw [h1] at e; cases e
  | some x =>
    rw [h1] at e
    rw [toP_br h1 ra]
    rcases br_cases rb with ⟨rfl, rfl⟩ | ⟨y, rfl, rfl⟩ | ⟨y, rfl, rfl⟩ | ⟨y, rfl, rfl⟩ | ⟨ys, yp, rfl, rfl, ry⟩ | ⟨j, ys, yp, rfl, rfl, gy, ry⟩ | ⟨j, ys, yp, rfl, rfl, gy, ry⟩ | ⟨j, c', ys, yp, rfl, rfl, gy, ry⟩ <;> simp only at e <;> try cases e
    · rw [inV_flat (by simp)]; exact e
    · split at e
      · rename_i u h2
        rw [toPs_vr h2 ry, inV_flat (by simp)]; exact e
      · cases e
    · split at e
      · rename_i u h2
        rw [toPs_vr h2 ry] at gy
        have s2 : seqOf w.S j = some u := by simp [seqOf, gy]
        rw [← e]
        cases x <;> simp only [inV, s2]
      · cases e
theorem is_ok {a b : Q} {p q : PV} (ra : BR w a p) (rb : BR w b q) {k : Bool} (e : isQ a b = some k) : cmpV .is p q w.S = some k ∧ cmpV .isnot p q w.S = some (!k) := by
  rcases br_cases rb with ⟨rfl, rfl⟩ | ⟨y, rfl, rfl⟩ | ⟨y, rfl, rfl⟩ | ⟨y, rfl, rfl⟩ | ⟨ys, yp, rfl, rfl, ry⟩ | ⟨j, ys, yp, rfl, rfl, gy, ry⟩ | ⟨j, ys, yp, rfl, rfl, gy, ry⟩ | ⟨j, c', ys, yp, rfl, rfl, gy, ry⟩ <;> simp only [isQ] at e <;> try cases e
  · rcases br_cases ra with ⟨rfl, rfl⟩ | ⟨x, rfl, rfl⟩ | ⟨x, rfl, rfl⟩ | ⟨x, rfl, rfl⟩ | ⟨xs, xp, rfl, rfl, rx⟩ | ⟨i, xs, xp, rfl, rfl, gx, rx⟩ | ⟨i, xs, xp, rfl, rfl, gx, rx⟩ | ⟨i, c, xs, xp, rfl, rfl, gx, rx⟩ <;> exact ⟨rfl, rfl⟩
  · rcases br_cases ra with ⟨rfl, rfl⟩ | ⟨x, rfl, rfl⟩ | ⟨x, rfl, rfl⟩ | ⟨x, rfl, rfl⟩ | ⟨xs, xp, rfl, rfl, rx⟩ | ⟨i, xs, xp, rfl, rfl, gx, rx⟩ | ⟨i, xs, xp, rfl, rfl, gx, rx⟩ | ⟨i, c, xs, xp, rfl, rfl, gx, rx⟩ <;> simp only at e <;> cases e
    exact ⟨rfl, rfl⟩
theorem ord_ok {o : Cop} (ho : o = .lt ∨ o = .le ∨ o = .gt ∨ o = .ge) {a b : Q} {p q : PV} (ra : BR w a p) (rb : BR w b q) {k : Bool} (e : ordQ o a b = some k) : cmpV o p q w.S = some k := by
  unfold ordQ at e
  split at e
  · rename_i x y h1 h2
    rw [toP_br h1 ra, toP_br h2 rb, ← e]
    rcases ho with rfl | rfl | rfl | rfl <;> rfl
  · cases e
theorem cmp_ok {o : Cop} {a b : Q} {p q : PV} (ra : BR w a p) (rb : BR w b q) {k : Bool} (e : cmpQ o a b = some k) : cmpV o p q w.S = some k := by
  cases o with
  | eq => exact eq_ok ra rb e
  | ne =>
    simp only [cmpQ, Option.map_eq_some_iff] at e
    obtain ⟨n, e, rfl⟩ := e
    simp only [cmpV, eq_ok ra rb e, Option.map_some]
  | inn => exact in_ok ra rb e
  | notin =>
    simp only [cmpQ, Option.map_eq_some_iff] at e
    obtain ⟨n, e, rfl⟩ := e
    simp only [cmpV, in_ok ra rb e, Option.map_some]
  | is => exact (is_ok ra rb e).1
  | isnot =>
    simp only [cmpQ, Option.map_eq_some_iff] at e
    obtain ⟨n, e, rfl⟩ := e
    exact (is_ok ra rb e).2
  | lt => exact ord_ok (by simp) ra rb e
  | le => exact ord_ok (by simp) ra rb e
  | gt => exact ord_ok (by simp) ra rb e
  | ge => exact ord_ok (by simp) ra rb e
theorem cmpH_ok (H : HR w h) {o : Cop} {a b : Q} {p q : PV} (ra : WR w a p) (rb : WR w b q) {k : Bool} (e : cmpH o a b h = some k) : cmpV o p q w.S = some k := by
  unfold cmpH at e
  split at e
  · rename_i x y h1 h2
    exact cmp_ok (look_br H ra h1) (look_br H rb h2) e
  · cases e
theorem at_ok (H : HR w h) {a b : Q} {p q : PV} (ra : WR w a p) (rb : WR w b q) : Snd w h RV (PM.ofQ (atH a b h) h) (ofO (atV p q w.S) w.S) := by
  refine .ofQ H fun z e => ?_
  unfold atH at e
  split at e
  · rename_i c hc
    have r1 := look_br H ra hc
    cases b with
    | int k =>
      rw [wr_int rb]
      rcases br_cases r1 with ⟨rfl, rfl⟩ | ⟨x, rfl, rfl⟩ | ⟨x, rfl, rfl⟩ | ⟨x, rfl, rfl⟩ | ⟨xs, xp, rfl, rfl, rx⟩ | ⟨i, xs, xp, rfl, rfl, gx, rx⟩ | ⟨i, xs, xp, rfl, rfl, gx, rx⟩ | ⟨i, c, xs, xp, rfl, rfl, gx, rx⟩ <;> simp only [atQ] at e <;> try cases e
      · split at e
        · rename_i l
          simp only [Option.map_eq_some_iff] at e
          obtain ⟨n, e, rfl⟩ := e
          exact ⟨.str [n], by simp only [atV]; rw [if_pos l, e]; rfl, .str⟩
        · cases e
      · obtain ⟨y, e1, e2⟩ := atI_r2 rx e
        exact ⟨y, by simp only [atV, e1]; rfl, e2⟩
      · obtain ⟨y, e1, e2⟩ := atI_r2 rx e
        exact ⟨y, by simp only [atV, seqOf, gx, Option.bind_some, e1]; rfl, e2⟩
    | _ => cases c <;> cases e
  · cases e
theorem cut_ok (H : HR w h) {a : Q} {p : PV} {lo hi : Option Int} (ra : WR w a p) : Snd w h (RN w.S.length) (PM.ofQ (cutH a lo hi h) h) (cutP p lo hi w.S) := by
  unfold cutH
  cases hc : look h a with
  | none => exact .bad
  | some c =>
    have r1 := look_br H ra hc
    simp only
    rcases br_cases r1 with ⟨rfl, rfl⟩ | ⟨x, rfl, rfl⟩ | ⟨x, rfl, rfl⟩ | ⟨x, rfl, rfl⟩ | ⟨xs, xp, rfl, rfl, rx⟩ | ⟨i, xs, xp, rfl, rfl, gx, rx⟩ | ⟨i, xs, xp, rfl, rfl, gx, rx⟩ | ⟨i, c, xs, xp, rfl, rfl, gx, rx⟩ <;> simp only [cutQ] <;> try exact Snd.bad
    · split
      · rename_i l
        simp only [cutP]
        rw [if_pos l]
        exact .ok H RN.str
      · exact .bad
    · simp only [cutP]
      exact .ok H (RN.tup (cut_r2 rx lo hi))
    · simp only [cutP, seqOf, gx]
      exact new_lst H (cut_r2 rx lo hi)
theorem isi1_ok {a : Q} {p : PV} (r : BR w a p) {t : Ty} {k : Bool} (e : isi1 a t = some k) : isiV w.S p t = some k := by
  rcases br_cases r with ⟨rfl, rfl⟩ | ⟨x, rfl, rfl⟩ | ⟨x, rfl, rfl⟩ | ⟨x, rfl, rfl⟩ | ⟨xs, xp, rfl, rfl, rx⟩ | ⟨i, xs, xp, rfl, rfl, gx, rx⟩ | ⟨i, xs, xp, rfl, rfl, gx, rx⟩ | ⟨i, c, xs, xp, rfl, rfl, gx, rx⟩ <;> simp only [isi1] at e <;> try cases e
  all_goals first | rfl | (simp only [isiV, gx])
theorem isi_ok {a : Q} {p : PV} (r : BR w a p) : ∀ {ts : List Ty} {k : Bool}, isiQ a ts = some k → isiL w.S p ts = some k
  | [], k, e => e
  | t :: ts, k, e => by
    simp only [isiQ] at e
    split at e
    · rename_i x y h1 h2
      cases e
      simp only [isiL, isi1_ok r h1, isi_ok r h2]
    · cases e
theorem len_ok {a : Q} {p : PV} (r : BR w a p) {k : Int} (e : lenQ a = some k) : lenV w.S p = some k := by
  rcases br_cases r with ⟨rfl, rfl⟩ | ⟨x, rfl, rfl⟩ | ⟨x, rfl, rfl⟩ | ⟨x, rfl, rfl⟩ | ⟨xs, xp, rfl, rfl, rx⟩ | ⟨i, xs, xp, rfl, rfl, gx, rx⟩ | ⟨i, xs, xp, rfl, rfl, gx, rx⟩ | ⟨i, c, xs, xp, rfl, rfl, gx, rx⟩ <;> simp only [lenQ] at e <;> try cases e
  · exact e
  · simp only [lenV, rx.len]
  · simp only [lenV, seqOf, gx, Option.map_some, rx.len]
theorem pur_get {ps : List PV} (h : ps.all pur = true) : purL ps = true := by
  induction ps with
  | nil => rfl
  | cons p ps ih => simp only [List.all_cons, Bool.and_eq_true] at h; simp [purL, h.1, ih h.2]
theorem insV_mem {a : Type} (le : a → a → Bool) {x y : a} : ∀ {l : List a}, y ∈ insV le x l → y = x ∨ y ∈ l
  | [], h => by simp [insV] at h; exact .inl h
  | z :: l, h => by
    simp only [insV] at h
    split at h
    · simpa using h
    · rcases List.mem_cons.mp h with h | h
      · exact .inr (by simp [h])
      · rcases insV_mem le h with h | h
        · exact .inl h
        · exact .inr (by simp [h])
theorem isort_mem {a : Type} (le : a → a → Bool) {y : a} : ∀ {l : List a}, y ∈ isort le l → y ∈ l
  | [], h => h
  | z :: l, h => by
    rcases insV_mem le h with h | h
    · simp [h]
    · simp [isort_mem le h]
theorem bi1_ok (H : HR w h) {b : BI} {a : Q} {p : PV} (r : BR w a p) : Snd w h (RN w.S.length) (PM.ofQ (bi1 b a) h) (biV b [p] w.S) := by
  rcases br_cases r with ⟨rfl, rfl⟩ | ⟨x, rfl, rfl⟩ | ⟨x, rfl, rfl⟩ | ⟨x, rfl, rfl⟩ | ⟨xs, xp, rfl, rfl, rx⟩ | ⟨i, xs, xp, rfl, rfl, gx, rx⟩ | ⟨i, xs, xp, rfl, rfl, gx, rx⟩ | ⟨i, c, xs, xp, rfl, rfl, gx, rx⟩ <;> cases b <;> simp only [bi1] <;> try exact Snd.bad
  case inr.inl.int => exact .ok H RN.int
  case inr.inr.inl.int => exact .ok H RN.int
  case inr.inr.inl.abs => exact .ok H RN.int
  case inr.inr.inr.inl.len =>
    simp only [lenQ]
    split
    · rename_i l
      simp only [biV, lenV]
      rw [if_pos l]
      exact .ok H RN.int
    · exact .bad
  case inr.inr.inr.inl.list =>
    split
    · rename_i l
      simp only [biV]
      rw [if_pos l]
      refine new_lst H (R2.of_ix (by simp) fun j q p e f => ?_)
      simp only [List.getElem?_map, Option.map_eq_some_iff] at e f
      obtain ⟨c, e, rfl⟩ := e
      obtain ⟨c', f, rfl⟩ := f
      rw [e] at f; cases f
      exact .str
    · exact .bad
  case inr.inr.inr.inr.inl.len => simp only [biV, lenQ, lenV, Option.map_some, ofO_some, ofQ_some, rx.len]; exact .ok H RN.int
  case inr.inr.inr.inr.inl.tuple => exact .ok H (RN.tup rx)
  case inr.inr.inr.inr.inl.list => exact new_lst H rx
  case inr.inr.inr.inr.inr.inl.len => simp only [biV, lenQ, lenV, seqOf, gx, Option.map_some, ofO_some, ofQ_some, rx.len]; exact .ok H RN.int
  case inr.inr.inr.inr.inr.inl.tuple => simp only [biV, gx]; exact .ok H (RN.tup rx)
  case inr.inr.inr.inr.inr.inl.list => simp only [biV, seqOf, gx]; exact new_lst H rx
  case inr.inr.inr.inr.inr.inl.sum =>
    split
    · rename_i ns e
      simp only [biV, seqOf, gx, rx.ints e]
      exact .ok H RN.int
    · exact .bad
  case inr.inr.inr.inr.inr.inl.sorted =>
    cases h1 : toPs xs with
    | none => exact .bad
    | some ps =>
      simp only
      cases h2 : sortV ps with
      | none => exact .bad
      | some ys =>
        have e := toPs_vr h1 rx
        subst e
        simp only [biV, seqOf, gx, h2]
        refine new_lst H (ofPs_vr ?_)
        unfold sortV at h2
        split at h2
        · rename_i hb
          cases h2
          apply pur_get
          rw [List.all_eq_true]
          intro y hy
          simp only [sortB, Bool.and_eq_true] at hb
          exact List.all_eq_true.mp hb.1.1.1.1 y (isort_mem _ hy)
        · cases h2
theorem bi_ok (H : HR w h) {b : BI} {as : List Q} {ps : List PV} (r : R2 (WR w) as ps) : Snd w h (RN w.S.length) (biH b as h) (biV b ps w.S) := by
  cases r with
  | nil => exact .bad
  | cons r1 r2 =>
    cases r2 with
    | nil =>
      simp only [biH]
      exact Snd.look H r1 fun c rc => bi1_ok H rc
    | cons r2 r3 =>
      cases r3 with
      | cons _ _ => exact .bad
      | nil =>
        simp only [biH]
        refine .ofQ H fun z e => ?_
        rename_i x1 y1 x2 y2
        unfold bi2 at e
        split at e
        · cases e; rw [wr_int r1, wr_int r2]; exact ⟨_, rfl, RN.int⟩
        · cases e; rw [wr_int r1, wr_int r2]; exact ⟨_, rfl, RN.int⟩
        · cases e
/-! ### methods -/
theorem row_ok {c : Q} {p : PV} (r : BR w c p) {xs : List Q} (e : rowQ c = some xs) : ∃ ps, seqV w.S p = some ps ∧ VRs w xs ps := by
  rcases br_cases r with ⟨rfl, rfl⟩ | ⟨x, rfl, rfl⟩ | ⟨x, rfl, rfl⟩ | ⟨x, rfl, rfl⟩ | ⟨xs, xp, rfl, rfl, rx⟩ | ⟨i, xs, xp, rfl, rfl, gx, rx⟩ | ⟨i, xs, xp, rfl, rfl, gx, rx⟩ | ⟨i, c, xs, xp, rfl, rfl, gx, rx⟩ <;> simp only [rowQ] at e <;> cases e
  · exact ⟨xp, rfl, rx⟩
  · exact ⟨xp, by simp only [seqV, seqOf, gx], rx⟩
theorem meS_ok (H : HR w h) {m : ME} {a : List Nat} {as : List Q} {ps : List PV} (r : R2 (WR w) as ps) : Snd w h RV (PM.ofQ (meS m a as h) h) (if meOk m .str then meV m .str (.str a) ps w.S else .bad) := by
  cases r with
  | nil => exact .bad
  | cons r1 r2 =>
    cases r2 with
    | cons _ _ => exact .bad
    | nil =>
      refine .ofQ H fun z e => ?_
      rename_i x p
      simp only [meS] at e
      cases l : look h x with
      | none => rw [l] at e; cases e
      | some c =>
        rw [l] at e
        have rc := look_br H r1 l
        cases m with
        | join =>
          simp only at e
          split at e
          · rename_i xs h1
            split at e
            · rename_i ys h2
              split at e
              · rename_i h3
                cases e
                obtain ⟨ps, g1, g2⟩ := row_ok rc h1
                refine ⟨_, ?_, .str⟩
                show meJoin (.str a) [p] w.S = _
                simp only [meJoin, g1, g2.strs h2]
                rw [if_pos h3]
              · cases e
            · cases e
          · cases e
        | startswith => cases c <;> simp only at e <;> cases e; rw [br_str rc]; exact ⟨_, rfl, .bl⟩
        | endswith => cases c <;> simp only at e <;> cases e; rw [br_str rc]; exact ⟨_, rfl, .bl⟩
        | count =>
          cases c with
          | str b =>
            rw [br_str rc]
            match b, e with
            | [x], e => cases e; exact ⟨_, rfl, .int⟩
          | _ => cases e
        | index =>
          cases c with
          | str b =>
            rw [br_str rc]
            match b, e with
            | [x], e =>
              simp only [Option.map_eq_some_iff] at e
              obtain ⟨j, e, rfl⟩ := e
              refine ⟨.int (j : Nat), ?_, .int⟩
              show ofO (meIxS a [x]) w.S = _
              simp only [meIxS]; rw [show idxS x a = some j by assumption]; rfl
          | _ => cases e
        | append => cases c <;> cases e
        | pop => cases c <;> cases e
        | remove => cases c <;> cases e
theorem meL_ok (H : HR w h) {m : ME} {xs : List Q} {i : Nat} {xp : List PV} (gx : w.S[i]? = some (.lst xp)) (rx : VRs w xs xp) {as : List Q} {ps : List PV} (r : R2 (WR w) as ps) : Snd w h RV (PM.ofQ (meL m xs as) h) (if meOk m .lst then meV m .lst (.obj i) ps w.S else .bad) := by
  cases r with
  | nil => cases m <;> exact .bad
  | cons r1 r2 =>
    cases r2 with
    | cons _ _ => cases m <;> simp only [meL] <;> first | exact .bad | (split <;> first | exact .bad | (rename_i e; cases e))
    | nil =>
      refine .ofQ H fun z e => ?_
      rename_i x p
      cases m <;> simp only [meL] at e <;> try cases e
      cases x <;> simp only at e <;> try cases e
      rw [wr_str r1]
      split at e
      · rename_i ys h1
        simp only [Option.map_eq_some_iff] at e
        obtain ⟨j, e, rfl⟩ := e
        refine ⟨.int (j : Nat), ?_, .int⟩
        show meIxL (.obj i) [.str _] w.S = _
        simp only [meIxL, seqOf, gx, rx.strs h1, e]; rfl
      · cases e
/-- what a change of a list does -/
theorem meM_ok {m : ME} {xs : List Q} {i : Nat} {xp : List PV} (gx : w.S[i]? = some (.lst xp)) (rx : VRs w xs xp) {as : List Q} {ps : List PV} (r : VRs w as ps) {y : Q} {ys : List Q} (e : meM m xs as = some (y, ys)) :
    ∃ yp ysp, meOk m .lst = true ∧ meV m .lst (.obj i) ps w.S = .ok yp (w.S.set i (.lst ysp)) ∧ VR w y yp ∧ VRs w ys ysp := by
  cases m <;> simp only [meM] at e <;> try cases e
  case append =>
    cases r with
    | nil => cases e
    | cons r1 r2 =>
      cases r2 with
      | cons _ _ => cases e
      | nil =>
        simp only at e
        split at e
        · rename_i l
          cases e
          refine ⟨.non, _, rfl, ?_, .non, rx.app (.cons r1 .nil)⟩
          show meAppend (.obj i) [_] w.S = _
          simp only [meAppend, gx]
          rw [if_pos (by rw [← rx.len]; exact l)]
        · cases e
  case pop =>
    cases r with
    | cons _ _ => cases e
    | nil =>
      simp only at e
      split at e
      · rename_i z hz
        cases e
        obtain ⟨zp, g1, g2⟩ := rx.get hz
        refine ⟨zp, _, rfl, ?_, g2, rx.dropLast⟩
        show mePop (.obj i) [] w.S = _
        simp only [mePop, gx, ← rx.len, g1]
      · cases e
  case remove =>
    cases r with
    | nil => cases e
    | cons r1 r2 =>
      cases r2 with
      | cons _ _ => cases r1 <;> cases e
      | nil =>
        cases r1 <;> simp only at e <;> try cases e
        split at e
        · rename_i us h1
          split at e
          · rename_i rs h2
            cases e
            refine ⟨.non, rs.map .str, rfl, ?_, .non, ?_⟩
            · show meRemove (.obj i) [.str _] w.S = _
              simp only [meRemove, gx, rx.strs h1, h2]
            · refine R2.of_ix (by simp) fun j q p e f => ?_
              simp only [List.getElem?_map, Option.map_eq_some_iff] at e f
              obtain ⟨c, e, rfl⟩ := e
              obtain ⟨c', f, rfl⟩ := f
              rw [e] at f; cases f
              exact .str
          · cases e
        · cases e
/-! ### dicts, instances -/
theorem VRd.val {kvs : List (PV × Q)} {kps : List (PV × PV)} (r : VRd w kvs kps) (k : PV) : (∀ q, valQ k kvs = some q → ∃ p, valD k kps = some p ∧ VR w q p) ∧ (valQ k kvs = none → valD k kps = none) := by
  induction r with
  | nil => exact ⟨(fun _ e => nomatch e), fun _ => rfl⟩
  | cons a b ih =>
    rename_i x y xs ys
    obtain ⟨x1, x2⟩ := x
    obtain ⟨y1, y2⟩ := y
    obtain ⟨a1, a2⟩ := a
    simp only at a1 a2
    subst a1
    simp only [valQ, valD]
    split
    · exact ⟨(fun _ e => by cases e; exact ⟨_, rfl, a2⟩), (fun e => by cases e)⟩
    · exact ih
theorem VRd.has {kvs : List (PV × Q)} {kps : List (PV × PV)} (r : VRd w kvs kps) (k : PV) : hasQ k kvs = hasD k kps := by
  induction r with
  | nil => rfl
  | cons a b ih =>
    simp only [hasQ, hasD, List.any_cons] at ih ⊢
    rw [ih, a.1]
theorem VRd.put {kvs : List (PV × Q)} {kps : List (PV × PV)} (r : VRd w kvs kps) (k : PV) {q : Q} {p : PV} (s : VR w q p) : VRd w (putQ k q kvs) (putD k p kps) := by
  unfold putQ putD
  rw [r.has]
  split
  · refine R2.map r fun x y e => ?_
    obtain ⟨x1, x2⟩ := x
    obtain ⟨y1, y2⟩ := y
    obtain ⟨a1, a2⟩ := e
    simp only at a1 a2
    subst a1
    simp only
    split
    · exact ⟨rfl, s⟩
    · exact ⟨rfl, a2⟩
  · exact r.app (.cons ⟨rfl, s⟩ .nil)
theorem VRd.look {kvs : List (Str × Q)} {kps : List (Str × PV)} (r : VRd w kvs kps) (k : Str) : (∀ q, kvs.lookup k = some q → ∃ p, kps.lookup k = some p ∧ VR w q p) ∧ (kvs.lookup k = none → kps.lookup k = none) := by
  induction r with
  | nil => exact ⟨(fun _ e => nomatch e), fun _ => rfl⟩
  | cons a b ih =>
    rename_i x y xs ys
    obtain ⟨x1, x2⟩ := x
    obtain ⟨y1, y2⟩ := y
    obtain ⟨a1, a2⟩ := a
    simp only at a1 a2
    subst a1
    simp only [List.lookup_cons]
    split
    · exact ⟨(fun _ e => by cases e; exact ⟨_, rfl, a2⟩), (fun e => by cases e)⟩
    · exact ih
theorem VRd.putI {kvs : List (Str × Q)} {kps : List (Str × PV)} (r : VRd w kvs kps) (k : Str) {q : Q} {p : PV} (s : VR w q p) : VRd w (PM.putI k q kvs) (putF k p kps) := by
  induction r with
  | nil => exact .cons ⟨rfl, s⟩ .nil
  | cons a b ih =>
    rename_i x y xs ys
    obtain ⟨x1, x2⟩ := x
    obtain ⟨y1, y2⟩ := y
    obtain ⟨a1, a2⟩ := a
    simp only at a1 a2
    subst a1
    simp only [PM.putI, putF]
    split
    · exact .cons ⟨rfl, s⟩ b
    · exact .cons ⟨rfl, a2⟩ ih
theorem key_ok {q : Q} {p k : PV} (r : WR w q p) (e : keyQ q = some k) : p = k ∧ isK p = true := by
  cases q <;> cases e
  · rw [wr_int r]; exact ⟨rfl, rfl⟩
  · rw [wr_str r]; exact ⟨rfl, rfl⟩
theorem dic_ok (H : HR w h) {q : Q} {p : PV} (r : WR w q p) {kvs : List (PV × Q)} (e : dicQ h q = some kvs) : ∃ i kps, p = .obj i ∧ w.S[i]? = some (.dic kps) ∧ VRd w kvs kps ∧ dicV w.S p = some kps := by
  unfold dicQ at e
  split at e
  · rename_i l h1
    cases e
    obtain ⟨i, ps, rfl, g, r⟩ := look_br H r h1
    exact ⟨i, ps, rfl, g, r, by simp only [dicV, g]⟩
  · cases e
theorem ins_ok (H : HR w h) {q : Q} {p : PV} (r : WR w q p) {c : Nat} {fs : List (Str × Q)} (e : insQ h q = some (c, fs)) : ∃ i fps, p = .obj i ∧ w.S[i]? = some (.ins c fps) ∧ VRd w fs fps := by
  unfold insQ at e
  split at e
  · rename_i c' fs' h1
    cases e
    obtain ⟨i, ps, rfl, g, r⟩ := look_br H r h1
    exact ⟨i, ps, rfl, g, r⟩
  · cases e
theorem isc_ok (H : HR w h) {q : Q} {p : PV} (r : WR w q p) {c : Nat} {b : Bool} (e : iscQ h q c = some b) : iscV w.S p c = some b := by
  unfold iscQ at e
  cases l : look h q with
  | none => rw [l] at e; cases e
  | some d =>
    rw [l] at e
    rcases br_cases (look_br H r l) with ⟨rfl, rfl⟩ | ⟨x, rfl, rfl⟩ | ⟨x, rfl, rfl⟩ | ⟨x, rfl, rfl⟩ | ⟨xs, xp, rfl, rfl, rx⟩ | ⟨i, xs, xp, rfl, rfl, gx, rx⟩ | ⟨i, xs, xp, rfl, rfl, gx, rx⟩ | ⟨i, c, xs, xp, rfl, rfl, gx, rx⟩ <;> simp only at e <;> try exact e
    · simp only [iscV, gx]; exact e
    · cases e
    · simp only [iscV, gx]; exact e
theorem txts_ok (H : HR w h) {q : Q} {p : PV} (r : WR w q p) {ys : List (List Nat)} (e : txtsQ h q = some ys) : txtsOf w.S p = some ys := by
  unfold txtsQ at e
  split at e
  · rename_i d h1
    split at e
    · rename_i xs h2
      obtain ⟨ps, g1, g2⟩ := row_ok (look_br H r h1) h2
      unfold txtsOf
      rw [g1]
      exact g2.strs e
    · cases e
  · cases e
theorem strs_new (H : HR w h) (ys : List (List Nat)) : Snd w h (RN w.S.length) (.ok (.lst (ys.map .str)) h) (.ok (.obj w.S.length) (w.S ++ [.lst (ys.map .str)])) :=
  new_lst H (R2.map (R2.same (r := fun a b => a = b) fun _ _ => rfl) fun x y e => by subst e; exact .str)
theorem toC_ok {v : PV} {q : Q} (e : toC v = some q) : VR w q v := by
  cases v <;> cases e
  · exact .non
  · exact .bl
  · exact .int
  · exact .str
end PM

/-! PM, part D: expressions. -/
namespace PM
open TM
/-! which names' values are handed on -/
def isV : E → Bool
  | .var _ => true
  | _ => false
def bor (a : E) (l : List Nat) : List Nat := if isV a then [] else l
mutual
def escE (ge : Nat → List Nat) : E → List Nat
  | .never => []
  | .var i => [i]
  | .cst _ => []
  | .glob _ => []
  | .bin _ a b => bor a (escE ge a) ++ bor b (escE ge b)
  | .neg a => bor a (escE ge a)
  | .idx a b => bor a (escE ge a) ++ bor b (escE ge b)
  | .slc a lo hi => bor a (escE ge a) ++ escO ge lo ++ escO ge hi
  | .cmp _ a b => bor a (escE ge a) ++ bor b (escE ge b)
  | .chain _ _ a b c => bor a (escE ge a) ++ bor b (escE ge b) ++ bor c (escE ge c)
  | .andv a b => escE ge a ++ escE ge b
  | .orv a b => escE ge a ++ escE ge b
  | .notv a => bor a (escE ge a)
  | .ife t a b => escT ge t ++ escE ge a ++ escE ge b
  | .call _ as => escEs ge as
  | .bi _ as => borEs ge as
  | .isi a _ => bor a (escE ge a)
  | .me m o as => bor o (escE ge o) ++ (if isM m then escEs ge as else borEs ge as)
  | .lst as => escEs ge as
  | .tup as => escEs ge as
  | .gcall g => ge g
  | .fld o _ ds => if ds.all (fun d => d.2.isNone) then bor o (escE ge o) else escE ge o
  | .mcall o _ _ as => escE ge o ++ escEs ge as
  | .make _ _ as => escEs ge as
  | .isc a _ => bor a (escE ge a)
  | .sset a => bor a (escE ge a)
  | .lset a => bor a (escE ge a)
  | .dnew => []
  | .dget d k x => bor d (escE ge d) ++ bor k (escE ge k) ++ escE ge x
  | .didx d k => bor d (escE ge d) ++ bor k (escE ge k)
  | .din _ k d => bor k (escE ge k) ++ bor d (escE ge d)
  | .leni a _ => escE ge a
  | .oeq a b _ => escE ge a ++ escE ge b
def escEs (ge : Nat → List Nat) : List E → List Nat
  | [] => []
  | a :: as => escE ge a ++ escEs ge as
def borEs (ge : Nat → List Nat) : List E → List Nat
  | [] => []
  | a :: as => bor a (escE ge a) ++ borEs ge as
def escO (ge : Nat → List Nat) : Option E → List Nat
  | none => []
  | some a => bor a (escE ge a)
def escT (ge : Nat → List Nat) : T → List Nat
  | .e e => bor e (escE ge e)
  | .and a b => escT ge a ++ escT ge b
  | .or a b => escT ge a ++ escT ge b
  | .not t => escT ge t
end
/-- the names -/
structure ER (w : W) (O : List Nat) (penv : QE) (env : Env) : Prop where
  len : penv.length = env.length
  get : ∀ j q, penv[j]? = some (some q) → ∃ p, env[j]? = some (some p) ∧ (VR w q p ∨ (j ∈ O ∧ Own w q p))
theorem ER.ext {w w' : W} {O : List Nat} {penv : QE} {env : Env} (r : ER w O penv env) (e : Ext w.S.length w w') : ER w' O penv env :=
  ⟨r.len, fun j q g => by
    obtain ⟨p, h1, h2⟩ := r.get j q g
    exact ⟨p, h1, h2.imp (·.mono e.mn) fun h => ⟨h.1, h.2.ext e⟩⟩⟩
/-- the two machines' surroundings agree -/
structure CS (C : PC) (D : Ctx) (ge : Nat → List Nat) : Prop where
  cf : ∀ f (w : W) h qs ps, HR w h → VRs w qs ps → Snd w h RV (C.cf f qs h) (D.cf f ps w.S)
  ci : ∀ c f (w : W) h qs ps, HR w h → VRs w qs ps → Snd w h RV (C.ci c f qs h) ((D.cf f (.obj w.S.length :: ps) (w.S ++ [.ins c []])).bind fun r S' => match r with
    | .non => .ok (.obj w.S.length) S'
    | _ => .bad)
  gl : C.gl = D.gl
  gf : ∀ g (w : W) O h penv env, HR w h → ER w O penv env → (∀ j ∈ O, j ∉ ge g) → Snd w h (RN w.S.length) (C.gf g penv h) (D.gf g env w.S)
/-- an expression is sound -/
def SE (C : PC) (D : Ctx) (l : List Nat) (a : E) : Prop := ∀ (w : W) O h penv env, HR w h → ER w O penv env → (∀ j ∈ O, j ∉ l) → Snd w h RV (pe C a penv h) (ev D a env w.S)
theorem nin_l {O a b : List Nat} (h : ∀ j ∈ O, j ∉ a ++ b) : ∀ j ∈ O, j ∉ a := fun j m z => h j m (List.mem_append_left _ z)
theorem nin_r {O a b : List Nat} (h : ∀ j ∈ O, j ∉ a ++ b) : ∀ j ∈ O, j ∉ b := fun j m z => h j m (List.mem_append_right _ z)
theorem SE.bor {C : PC} {D : Ctx} {a : E} {l : List Nat} (s : SE C D l a) {w : W} {O : List Nat} {h : QH} {penv : QE} {env : Env} (H : HR w h) (r : ER w O penv env) (n : ∀ j ∈ O, j ∉ bor a l) : Snd w h RW (pe C a penv h) (ev D a env w.S) := by
  cases hv : isV a with
  | false =>
    have : PM.bor a l = l := by simp [PM.bor, hv]
    rw [this] at n
    exact (s w O h penv env H r n).imp fun _ _ _ _ x => .inl x
  | true =>
    cases a <;> cases hv
    rename_i i
    rw [pe, ev]
    cases g : penv[i]? with
    | none => exact .bad
    | some o =>
      cases o with
      | none => exact .bad
      | some q =>
        obtain ⟨p, g1, g2⟩ := r.get i q g
        rw [g1]
        exact .ok H (g2.imp id (·.2))
theorem SE.neg {C : PC} {D : Ctx} {a : E} : True := trivial
theorem nox_ok {a : Type} {y : Res a} {p : a} {S : Sto} (h : y = .ok p S) : y.nox = .ok p S := by rw [h]; rfl
theorem Snd.nox {a b : Type} {w : W} {h : QH} {R : W → QH → a → b → Prop} {x : PR a} {y : Res b} (s : Snd w h R x y) : Snd w h R x y.nox := by
  intro q h' e
  obtain ⟨p, S1, io1, e1, e2⟩ := s q h' e
  exact ⟨p, S1, io1, nox_ok e1, e2⟩
section
variable {C : PC} {D : Ctx} {ge : Nat → List Nat}
mutual
theorem pe_snd (K : CS C D ge) : ∀ a : E, SE C D (escE ge a) a
  | .never => fun w O h penv env H r n => .bad
  | .var i => fun w O h penv env H r n => by
    rw [pe, ev]
    cases g : penv[i]? with
    | none => exact .bad
    | some o =>
      cases o with
      | none => exact .bad
      | some q =>
        obtain ⟨p, g1, g2⟩ := r.get i q g
        rw [g1]
        rcases g2 with g2 | ⟨g2, _⟩
        · exact .ok H g2
        · exact absurd (by simp [escE]) (n i g2)
  | .cst c => fun w O h penv env H r n => by
    rw [pe, ev]
    exact .ofQ H fun q e => ⟨c, rfl, toC_ok e⟩
  | .glob g => fun w O h penv env H r n => by
    rw [pe, ev, K.gl]
    exact .ofQ H fun q e => ⟨_, rfl, toC_ok e⟩
  | .bin o a b => fun w O h penv env H r n => by
    rw [pe, ev]
    refine (SE.bor (pe_snd K a) H r (nin_l n)).bind fun q p w1 h1 o1 e1 H1 r1 => ?_
    refine (SE.bor (pe_snd K b) H1 (r.ext e1) (nin_r n)).bind fun q2 p2 w2 h2 o2 e2 H2 r2 => ?_
    exact (bin_ok H2 o (r1.ext e2) r2).rv
  | .neg a => fun w O h penv env H r n => by
    rw [pe, ev]
    refine (SE.bor (pe_snd K a) H r n).bind fun q p w1 h1 o1 e1 H1 r1 => ?_
    cases q <;> try exact Snd.bad
    rw [wr_int r1]
    exact .ok H1 .int
  | .idx a b => fun w O h penv env H r n => by
    rw [pe, ev]
    refine (SE.bor (pe_snd K a) H r (nin_l n)).bind fun q p w1 h1 o1 e1 H1 r1 => ?_
    refine (SE.bor (pe_snd K b) H1 (r.ext e1) (nin_r n)).bind fun q2 p2 w2 h2 o2 e2 H2 r2 => ?_
    exact at_ok H2 (r1.ext e2) r2
  | .slc a lo hi => fun w O h penv env H r n => by
    rw [pe, ev]
    refine (SE.bor (pe_snd K a) H r (nin_l (nin_l n))).bind fun q p w1 h1 o1 e1 H1 r1 => ?_
    refine (peO_snd K lo w1 O h1 penv env H1 (r.ext e1) (nin_r (nin_l n))).bind fun q2 p2 w2 h2 o2 e2 H2 r2 => ?_
    refine (peO_snd K hi w2 O h2 penv env H2 ((r.ext e1).ext e2) (nin_r n)).bind fun q3 p3 w3 h3 o3 e3 H3 r3 => ?_
    cases r2
    cases r3
    exact (cut_ok H3 ((r1.ext e2).ext e3)).rv
  | .cmp o a b => fun w O h penv env H r n => by
    rw [pe, ev]
    refine (SE.bor (pe_snd K a) H r (nin_l n)).bind fun q p w1 h1 o1 e1 H1 r1 => ?_
    refine (SE.bor (pe_snd K b) H1 (r.ext e1) (nin_r n)).bind fun q2 p2 w2 h2 o2 e2 H2 r2 => ?_
    refine .ofQ H2 fun z e => ?_
    simp only [Option.map_eq_some_iff] at e
    obtain ⟨k, e, rfl⟩ := e
    exact ⟨.bl k, by rw [cmpH_ok H2 (r1.ext e2) r2 e]; rfl, .bl⟩
  | .chain o o' a b c => fun w O h penv env H r n => by
    rw [pe, ev]
    refine (SE.bor (pe_snd K a) H r (nin_l (nin_l n))).bind fun q p w1 h1 o1 e1 H1 r1 => ?_
    refine (SE.bor (pe_snd K b) H1 (r.ext e1) (nin_r (nin_l n))).bind fun q2 p2 w2 h2 o2 e2 H2 r2 => ?_
    refine Snd.bind (R := RE) (.ofQ H2 fun z e => ⟨z, by rw [cmpH_ok H2 (r1.ext e2) r2 e]; rfl, rfl⟩) fun k k' w3 h3 o3 e3 H3 r3 => ?_
    cases r3
    cases k with
    | false => exact .ok H3 .bl
    | true =>
      refine (SE.bor (pe_snd K c) H3 (((r.ext e1).ext e2).ext e3) (nin_r n)).bind fun q4 p4 w4 h4 o4 e4 H4 r4 => ?_
      refine .ofQ H4 fun z e => ?_
      simp only [Option.map_eq_some_iff] at e
      obtain ⟨k, e, rfl⟩ := e
      exact ⟨.bl k, by rw [cmpH_ok H4 ((r2.ext e3).ext e4) r4 e]; rfl, .bl⟩
  | .andv a b => fun w O h penv env H r n => by
    rw [pe, ev]
    refine (pe_snd K a w O h penv env H r (nin_l n)).bind fun q p w1 h1 o1 e1 H1 r1 => ?_
    refine (Snd.truth H1 (.inl r1)).bind fun k k' w3 h3 o3 e3 H3 r3 => ?_
    cases r3
    cases k with
    | false => exact .ok H3 (r1.mono e3.mn)
    | true => exact pe_snd K b w3 O h3 penv env H3 ((r.ext e1).ext e3) (nin_r n)
  | .orv a b => fun w O h penv env H r n => by
    rw [pe, ev]
    refine (pe_snd K a w O h penv env H r (nin_l n)).bind fun q p w1 h1 o1 e1 H1 r1 => ?_
    refine (Snd.truth H1 (.inl r1)).bind fun k k' w3 h3 o3 e3 H3 r3 => ?_
    cases r3
    cases k with
    | true => exact .ok H3 (r1.mono e3.mn)
    | false => exact pe_snd K b w3 O h3 penv env H3 ((r.ext e1).ext e3) (nin_r n)
  | .notv a => fun w O h penv env H r n => by
    rw [pe, ev]
    refine (SE.bor (pe_snd K a) H r n).bind fun q p w1 h1 o1 e1 H1 r1 => ?_
    refine .ofQ H1 fun z e => ?_
    simp only [Option.map_eq_some_iff] at e
    obtain ⟨k, e, rfl⟩ := e
    exact ⟨.bl (!k), by rw [truthH_ok H1 r1 e]; rfl, .bl⟩
  | .ife t a b => fun w O h penv env H r n => by
    rw [pe, ev]
    refine (peT_snd K t w O h penv env H r (nin_l (nin_l n))).bind fun k k' w1 h1 o1 e1 H1 r1 => ?_
    cases r1
    cases k with
    | true => exact pe_snd K a w1 O h1 penv env H1 (r.ext e1) (nin_r (nin_l n))
    | false => exact pe_snd K b w1 O h1 penv env H1 (r.ext e1) (nin_r n)
  | .call f as => fun w O h penv env H r n => by
    rw [pe, ev]
    refine (pes_snd K as w O h penv env H r n).bind fun q p w1 h1 o1 e1 H1 r1 => ?_
    exact K.cf f w1 h1 q p H1 r1
  | .bi b as => fun w O h penv env H r n => by
    rw [pe, ev]
    refine (pws_snd K as w O h penv env H r n).bind fun q p w1 h1 o1 e1 H1 r1 => ?_
    exact (bi_ok H1 r1).rv
  | .isi a ts => fun w O h penv env H r n => by
    rw [pe, ev]
    refine (SE.bor (pe_snd K a) H r n).bind fun q p w1 h1 o1 e1 H1 r1 => ?_
    refine Snd.look H1 r1 fun c rc => .ofQ H1 fun z e => ?_
    simp only [Option.map_eq_some_iff] at e
    obtain ⟨k, e, rfl⟩ := e
    exact ⟨.bl k, by rw [isi_ok rc e]; rfl, .bl⟩
  | .me m o as => fun w O h penv env H r n => by
    rw [pe, ev]
    refine (SE.bor (pe_snd K o) H r (nin_l n)).bind fun q p w1 h1 o1 e1 H1 r1 => ?_
    have n2 := nin_r n
    have nw : isM m = false → Snd w1 h1 (fun w _ => R2 (WR w)) (pes C as penv h1) (evs D as env w1.S) := fun z => by
      rw [z] at n2
      exact pws_snd K as w1 O h1 penv env H1 (r.ext e1) n2
    have nv : isM m = true → Snd w1 h1 (fun w _ => VRs w) (pes C as penv h1) (evs D as env w1.S) := fun z => by
      rw [z] at n2
      exact pes_snd K as w1 O h1 penv env H1 (r.ext e1) n2
    have na : Snd w1 h1 (fun w _ => R2 (WR w)) (pes C as penv h1) (evs D as env w1.S) := by
      cases z : isM m with
      | false => exact nw z
      | true => exact (nv z).imp fun _ _ _ _ x => R2.imp x fun _ _ _ y => .inl y
    cases q with
    | str a =>
      rw [wr_str r1]
      simp only [TM.mty]
      cases hm : meOk m .str with
      | false =>
        simp only [Bool.false_eq_true, if_false]
        intro q' h' e
        cases hp : pes C as penv h1 with
        | bad => rw [hp] at e; cases e
        | ok qs h2 =>
          rw [hp] at e
          obtain ⟨ps, S2, io2, g1, g2, g3, g4⟩ := na qs h2 hp
          have := meS_ok g3 (m := m) (a := a) g4
          rw [hm] at this
          obtain ⟨_, _, _, z, _⟩ := this q' h' e
          cases z
      | true =>
        simp only [if_true]
        refine na.bind fun qs ps w2 h2 o2 e2 H2 r2 => ?_
        have := meS_ok H2 (m := m) (a := a) r2
        rw [hm] at this
        exact this
    | lst xs =>
      have hx : ∃ i xp, p = .obj i ∧ w1.S[i]? = some (.lst xp) ∧ ∀ w2 : W, Ext w1.S.length w1 w2 → w2.S[i]? = some (.lst xp) ∧ VRs w2 xs xp := by
        rcases r1 with r1 | ⟨r1, i', e', n'⟩
        · cases r1 with
          | lst u g l m' => exact ⟨_, _, rfl, g, fun w2 e2 => ⟨e2.keep _ _ g (.inr u), VRs.mono e2.mn (.of_ix l m')⟩⟩
        · obtain ⟨i, xp, rfl, g, rx⟩ := r1
          cases e'
          exact ⟨_, _, rfl, g, fun w2 e2 => ⟨e2.keep _ _ g (.inl ⟨lt_of_get g, n'⟩), VRs.mono e2.mn rx⟩⟩
      obtain ⟨i, xp, rfl, gx, hk⟩ := hx
      simp only [TM.mty, gx]
      cases hm : meOk m .lst with
      | false =>
        simp only [Bool.false_eq_true, if_false]
        intro q' h' e
        cases hp : pes C as penv h1 with
        | bad => rw [hp] at e; cases e
        | ok qs h2 =>
          rw [hp] at e
          obtain ⟨ps, S2, io2, g1, g2, g3, g4⟩ := na qs h2 hp
          have := meL_ok g3 (m := m) (hk _ g2).1 (hk _ g2).2 g4
          rw [hm] at this
          obtain ⟨_, _, _, z, _⟩ := this q' h' e
          cases z
      | true =>
        simp only [if_true]
        refine na.bind fun qs ps w2 h2 o2 e2 H2 r2 => ?_
        have := meL_ok H2 (m := m) (hk _ e2).1 (hk _ e2).2 r2
        rw [hm] at this
        exact this
    | ref rr =>
      have hrr : rr < w1.nh ∧ p = .obj (w1.io rr) := by
        rcases r1 with r1 | ⟨r1, _⟩
        · cases r1 with
          | ref hr => exact ⟨hr, rfl⟩
        · exact r1.elim
      obtain ⟨hr, rfl⟩ := hrr
      simp only
      cases g0 : h1[rr]? with
      | none => exact .bad
      | some o0 =>
        cases o0 <;> try exact Snd.bad
        obtain ⟨i, xp0, ei, gx0, rx0⟩ := H1.obj _ _ g0
        cases ei
        simp only [TM.mty, gx0]
        intro q' h' e
        cases hp : pes C as penv h1 with
        | bad => rw [hp] at e; cases e
        | ok qs h2 =>
          rw [hp] at e
          simp only [PR.bind_ok] at e
          cases g5 : h2[rr]? with
          | none => rw [g5] at e; cases e
          | some o5 =>
            rw [g5] at e
            cases o5 <;> try cases e
            rename_i xs
            simp only at e
            cases hM : isM m with
            | true =>
              obtain ⟨ps, S2, io2, g1, g2, g3, g4⟩ := nv hM qs h2 hp
              rw [hM] at e
              simp only [if_true] at e
              split at e
              · rename_i y ys hmm
                cases e
                obtain ⟨i, xp, ei, gx, rx⟩ := g3.obj _ _ g5
                cases ei
                obtain ⟨yp, ysp, m1, m2, m3, m4⟩ := meM_ok gx rx g4 hmm
                have io1 := g2.io rr hr
                simp only at io1
                rw [m1]
                simp only [if_true, g1, Res.bind_ok]
                rw [← io1]
                have rl : rr < h2.length := lt_of_get g5
                have mn : Mn ⟨S2, w1.Ow, io2, h2.length⟩ ⟨S2.set (io2 rr) (.lst ysp), w1.Ow, io2, (h2.set rr (.lst ys)).length⟩ := by
                  refine ⟨fun i o u g => ⟨fun z => u ?_, ?_⟩, fun _ _ => rfl, by simp⟩
                  · rcases z with z | ⟨r', z1, z2⟩
                    · exact .inl z
                    · exact .inr ⟨r', by simpa using z1, z2⟩
                  · show (S2.set (io2 rr) (.lst ysp))[i]? = _
                    rw [List.getElem?_set_ne (fun z => u (.inr ⟨rr, rl, z⟩))]; exact g
                refine ⟨yp, S2.set (io2 rr) (.lst ysp), io2, m2, ?_, ?_, m3.mono mn⟩
                · refine ⟨by simpa using g2.len, g2.io, by simpa using g2.nh, fun r a b => g2.new r a (by simpa using b), g2.own, fun i o g c => ?_⟩
                  show (S2.set (io2 rr) (.lst ysp))[i]? = _
                  rw [List.getElem?_set_ne (fun z => ?_)]
                  · exact g2.keep i o g c
                  · have rf : isRf w1 i := ⟨rr, hr, by rw [← io1]; exact z⟩
                    rcases c with ⟨_, c⟩ | c
                    · exact c rf
                    · exact c (.inr rf)
                · refine ⟨rfl, fun r' o' g' => ?_, fun r' r'' a b => g3.inj r' r'' (by simpa using a) (by simpa using b), fun i z => ?_, fun r' a => g3.dis r' (by simpa using a)⟩
                  · by_cases c : r' = rr
                    · subst c
                      rw [List.getElem?_set_self rl] at g'
                      cases g'
                      refine ⟨_, ysp, rfl, ?_, VRs.mono mn m4⟩
                      show (S2.set (io2 r') (.lst ysp))[io2 r']? = _
                      rw [List.getElem?_set_self (lt_of_get gx)]
                    · rw [List.getElem?_set_ne (fun z => c z.symm)] at g'
                      refine (g3.obj r' o' g').ext mn fun i o ei g => ?_
                      cases ei
                      show (S2.set (io2 rr) (.lst ysp))[io2 r']? = _
                      rw [List.getElem?_set_ne (fun z => c (g3.inj rr r' rl (lt_of_get g') z).symm)]; exact g
                  · have := g3.rng i (by
                      rcases z with z | ⟨r', z1, z2⟩
                      · exact .inl z
                      · exact .inr ⟨r', by simpa using z1, z2⟩)
                    show i < (S2.set (io2 rr) (.lst ysp)).length
                    rw [List.length_set]
                    exact this
              · cases e
            | false =>
              obtain ⟨ps, S2, io2, g1, g2, g3, g4⟩ := nw hM qs h2 hp
              rw [hM] at e
              simp only [Bool.false_eq_true, if_false] at e
              obtain ⟨i, xp, ei, gx, rx⟩ := g3.obj _ _ g5
              cases ei
              have io1 := g2.io rr hr
              simp only at io1
              have := meL_ok g3 (m := m) gx rx g4
              obtain ⟨p9, S9, io9, z1, z2, z3, z4⟩ := this q' h' e
              cases hm : meOk m .lst with
              | false => rw [hm] at z1; cases z1
              | true =>
                rw [hm] at z1
                simp only [if_true] at z1
                simp only [if_true, g1, Res.bind_ok]
                rw [← io1]
                exact ⟨p9, S9, io9, z1, g2.trans z2 g2.len, z3, z4⟩
    | _ => exact .bad
  | .lst as => fun w O h penv env H r n => by
    rw [pe, ev]
    refine (pes_snd K as w O h penv env H r n).bind fun q p w1 h1 o1 e1 H1 r1 => ?_
    split
    · rename_i l
      rw [if_pos (by rw [← R2.len r1]; exact l)]
      exact (new_lst H1 r1).rv
    · exact .bad
  | .tup as => fun w O h penv env H r n => by
    rw [pe, ev]
    refine (pes_snd K as w O h penv env H r n).bind fun q p w1 h1 o1 e1 H1 r1 => ?_
    split
    · rename_i l
      rw [if_pos (by rw [← R2.len r1]; exact l)]
      exact .ok H1 (.tup' r1)
    · exact .bad
  | .gcall g => fun w O h penv env H r n => by
    rw [pe, ev]
    exact (K.gf g w O h penv env H r n).rv
  | .fld o x ds => fun w O h penv env H r n => by
    rw [pe, ev]
    rw [escE] at n
    have key : ∀ (w1 : W) h1 q p, HR w1 h1 → (WR w1 q p) → (ds.all (fun d => d.2.isNone) = false → VR w1 q p) → Snd w1 h1 RV (match insQ h1 q with
        | some (c, fs) => match ds.lookup c with
          | some (some f) => C.cf f [q] h1
          | some none => PM.ofQ (fs.lookup x) h1
          | none => .bad
        | none => .bad) (fldV D.cf x ds p w1.S) := by
      intro w1 h1 q p H1 r1 v1
      cases hi : insQ h1 q with
      | none => exact .bad
      | some cf =>
        obtain ⟨c, fs⟩ := cf
        obtain ⟨i, fps, rfl, gi, ri⟩ := ins_ok H1 r1 hi
        simp only [fldV, gi]
        cases hl : ds.lookup c with
        | none => exact .bad
        | some fo =>
          cases fo with
          | none =>
            refine .ofQ H1 fun z e => ?_
            obtain ⟨y, a1, a2⟩ := (ri.look x).1 z e
            exact ⟨y, by rw [a1]; rfl, a2⟩
          | some f =>
            have hv : ds.all (fun d => d.2.isNone) = false := by
              have : ∀ l : List (Nat × Option Nat), l.lookup c = some (some f) → l.all (fun d => d.2.isNone) = false := by
                intro l
                induction l with
                | nil => intro z; cases z
                | cons d l ih =>
                  obtain ⟨d1, d2⟩ := d
                  intro z
                  rw [List.lookup_cons] at z
                  split at z
                  · cases z; simp
                  · simp [ih z]
              exact this ds hl
            have := (K.cf f w1 h1 [q] [.obj i] H1 (.cons (v1 hv) .nil)).nox
            exact this
    cases ha : ds.all (fun d => d.2.isNone) with
    | true =>
      rw [ha] at n
      refine (SE.bor (pe_snd K o) H r n).bind fun q p w1 h1 o1 e1 H1 r1 => ?_
      exact key w1 h1 q p H1 r1 fun z => by rw [ha] at z; cases z
    | false =>
      rw [ha] at n
      refine (pe_snd K o w O h penv env H r n).bind fun q p w1 h1 o1 e1 H1 r1 => ?_
      exact key w1 h1 q p H1 (.inl r1) fun _ => r1
  | .mcall o x ds as => fun w O h penv env H r n => by
    rw [pe, ev]
    refine (pe_snd K o w O h penv env H r (nin_l n)).bind fun q p w1 h1 o1 e1 H1 r1 => ?_
    cases hi : insQ h1 q with
    | none => exact .bad
    | some cf =>
      obtain ⟨c, fs⟩ := cf
      obtain ⟨i, fps, rfl, gi, ri⟩ := ins_ok H1 (.inl r1) hi
      simp only [mclF, gi]
      cases hl : fs.lookup x with
      | some _ => exact .bad
      | none =>
        rw [(ri.look x).2 hl]
        simp only
        cases hd : ds.lookup c with
        | none => exact .bad
        | some f =>
          refine (pes_snd K as w1 O h1 penv env H1 (r.ext e1) (nin_r n)).bind fun q2 p2 w2 h2 o2 e2 H2 r2 => ?_
          exact K.cf f w2 h2 _ _ H2 (.cons (r1.mono e2.mn) r2)
  | .make c f as => fun w O h penv env H r n => by
    rw [pe, ev]
    refine (pes_snd K as w O h penv env H r n).bind fun q p w1 h1 o1 e1 H1 r1 => ?_
    exact K.ci c f w1 h1 q p H1 r1
  | .isc a c => fun w O h penv env H r n => by
    rw [pe, ev]
    refine (SE.bor (pe_snd K a) H r n).bind fun q p w1 h1 o1 e1 H1 r1 => ?_
    refine .ofQ H1 fun z e => ?_
    simp only [Option.map_eq_some_iff] at e
    obtain ⟨k, e, rfl⟩ := e
    exact ⟨.bl k, by rw [isc_ok H1 r1 e]; rfl, .bl⟩
  | .sset a => fun w O h penv env H r n => by
    rw [pe, ev]
    refine (SE.bor (pe_snd K a) H r n).bind fun q p w1 h1 o1 e1 H1 r1 => ?_
    cases ht : txtsQ h1 q with
    | none => exact .bad
    | some ys =>
      simp only [ssetV, txts_ok H1 r1 ht]
      split
      · exact (strs_new H1 _).rv
      · exact .bad
  | .lset a => fun w O h penv env H r n => by
    rw [pe, ev]
    refine (SE.bor (pe_snd K a) H r n).bind fun q p w1 h1 o1 e1 H1 r1 => ?_
    cases ht : txtsQ h1 q with
    | none => exact .bad
    | some ys =>
      simp only [lsetV, txts_ok H1 r1 ht]
      split
      · exact .ok H1 .int
      · exact .bad
  | .dnew => fun w O h penv env H r n => by
    rw [pe, ev]
    exact (new_dic H .nil).rv
  | .dget d k x => fun w O h penv env H r n => by
    rw [pe, ev]
    refine (SE.bor (pe_snd K d) H r (nin_l (nin_l n))).bind fun q p w1 h1 o1 e1 H1 r1 => ?_
    cases hd : dicQ h1 q with
    | none => exact .bad
    | some kvs =>
      obtain ⟨i, kps, _, _, _, g4⟩ := dic_ok H1 r1 hd
      rw [g4]
      simp only
      refine (SE.bor (pe_snd K k) H1 (r.ext e1) (nin_r (nin_l n))).bind fun q2 p2 w2 h2 o2 e2 H2 r2 => ?_
      refine (pe_snd K x w2 O h2 penv env H2 ((r.ext e1).ext e2) (nin_r n)).bind fun q3 p3 w3 h3 o3 e3 H3 r3 => ?_
      cases hd3 : dicQ h3 q with
      | none => exact .bad
      | some kvs3 =>
        cases hk : keyQ q2 with
        | none => exact .bad
        | some kk =>
          obtain ⟨i, kps, _, _, g3, g4⟩ := dic_ok H3 ((r1.ext e2).ext e3) hd3
          obtain ⟨rfl, ik⟩ := key_ok r2 hk
          rw [g4]
          simp only [ik, if_true]
          cases hv : valQ p2 kvs3 with
          | none =>
            rw [(g3.val p2).2 hv]
            exact .ok H3 r3
          | some z =>
            obtain ⟨y, a1, a2⟩ := (g3.val p2).1 z hv
            rw [a1]
            exact .ok H3 a2
  | .didx d k => fun w O h penv env H r n => by
    rw [pe, ev]
    refine (SE.bor (pe_snd K d) H r (nin_l n)).bind fun q p w1 h1 o1 e1 H1 r1 => ?_
    refine (SE.bor (pe_snd K k) H1 (r.ext e1) (nin_r n)).bind fun q2 p2 w2 h2 o2 e2 H2 r2 => ?_
    cases hd3 : dicQ h2 q with
    | none => exact .bad
    | some kvs3 =>
      cases hk : keyQ q2 with
      | none => exact .bad
      | some kk =>
        obtain ⟨i, kps, _, _, g3, g4⟩ := dic_ok H2 (r1.ext e2) hd3
        obtain ⟨rfl, ik⟩ := key_ok r2 hk
        rw [g4]
        simp only [ik, if_true]
        refine .ofQ H2 fun z e => ?_
        obtain ⟨y, a1, a2⟩ := (g3.val p2).1 z e
        exact ⟨y, by rw [a1]; rfl, a2⟩
  | .din neg k d => fun w O h penv env H r n => by
    rw [pe, ev]
    refine (SE.bor (pe_snd K k) H r (nin_l n)).bind fun q2 p2 w1 h1 o1 e1 H1 r1 => ?_
    refine (SE.bor (pe_snd K d) H1 (r.ext e1) (nin_r n)).bind fun q p w2 h2 o2 e2 H2 r2 => ?_
    cases hd3 : dicQ h2 q with
    | none => exact .bad
    | some kvs3 =>
      cases hk : keyQ q2 with
      | none => exact .bad
      | some kk =>
        obtain ⟨i, kps, _, _, g3, g4⟩ := dic_ok H2 r2 hd3
        obtain ⟨rfl, ik⟩ := key_ok r1 hk
        rw [g4]
        simp only [ik, if_true]
        have : (valQ p2 kvs3).isSome = (valD p2 kps).isSome := by
          cases hv : valQ p2 kvs3 with
          | none => rw [(g3.val p2).2 hv]; rfl
          | some z => obtain ⟨y, a1, a2⟩ := (g3.val p2).1 z hv; rw [a1]; rfl
        rw [this]
        exact .ok H2 .bl
  | .leni a ds => fun w O h penv env H r n => by
    rw [pe, ev]
    refine (pe_snd K a w O h penv env H r n).bind fun q p w1 h1 o1 e1 H1 r1 => ?_
    cases hi : insQ h1 q with
    | none => exact .bad
    | some cf =>
      obtain ⟨c, fs⟩ := cf
      obtain ⟨i, fps, rfl, gi, ri⟩ := ins_ok H1 (.inl r1) hi
      simp only [gi]
      cases hd : ds.lookup c with
      | none => exact .bad
      | some f =>
        refine (K.cf f w1 h1 [q] [.obj i] H1 (.cons r1 .nil)).nox.bind fun q2 p2 w2 h2 o2 e2 H2 r2 => ?_
        cases q2 <;> try exact Snd.bad
        cases r2
        rename_i n9
        show Snd w2 h2 RV (if (decide (0 ≤ n9) && decide (n9 < 4611686018427387904)) = true then PR.ok (Q.int n9) h2 else PR.bad) (if (decide (0 ≤ n9) && decide (n9 < 4611686018427387904)) = true then Res.ok (PV.int n9) w2.S else Res.bad)
        by_cases l : (decide (0 ≤ n9) && decide (n9 < 4611686018427387904)) = true
        · rw [if_pos l, if_pos l]; exact .ok H2 .int
        · rw [if_neg l]; exact .bad
  | .oeq a b ds => fun w O h penv env H r n => by
    rw [pe, ev]
    refine (pe_snd K a w O h penv env H r (nin_l n)).bind fun q p w1 h1 o1 e1 H1 r1 => ?_
    refine (pe_snd K b w1 O h1 penv env H1 (r.ext e1) (nin_r n)).bind fun q2 p2 w2 h2 o2 e2 H2 r2 => ?_
    cases hi : insQ h2 q with
    | none => exact .bad
    | some cf =>
      obtain ⟨c, fs⟩ := cf
      have r1' := r1.mono e2.mn
      obtain ⟨i, fps, rfl, gi, ri⟩ := ins_ok H2 (.inl r1') hi
      simp only [gi]
      cases hd : ds.lookup c with
      | none => exact .bad
      | some f =>
        cases hs : iscQ h2 q2 c with
        | none => exact .bad
        | some b =>
          rw [isc_ok H2 (.inl r2) hs]
          simp only
          refine (K.cf f w2 h2 [q, q2] [.obj i, p2] H2 (.cons r1' (.cons r2 .nil))).nox.bind fun q3 p3 w3 h3 o3 e3 H3 r3 => ?_
          cases q3 <;> try exact Snd.bad
          cases r3
          exact .ok H3 .bl
theorem pes_snd (K : CS C D ge) : ∀ as : List E, ∀ (w : W) O h penv env, HR w h → ER w O penv env → (∀ j ∈ O, j ∉ escEs ge as) → Snd w h (fun w _ => VRs w) (pes C as penv h) (evs D as env w.S)
  | [], w, O, h, penv, env, H, r, n => by
    rw [pes, evs]
    exact .ok H .nil
  | a :: as, w, O, h, penv, env, H, r, n => by
    rw [pes, evs]
    refine (pe_snd K a w O h penv env H r (nin_l n)).bind fun q p w1 h1 o1 e1 H1 r1 => ?_
    refine (pes_snd K as w1 O h1 penv env H1 (r.ext e1) (nin_r n)).bind fun q2 p2 w2 h2 o2 e2 H2 r2 => ?_
    exact .ok H2 (.cons (r1.mono e2.mn) r2)
theorem pws_snd (K : CS C D ge) : ∀ as : List E, ∀ (w : W) O h penv env, HR w h → ER w O penv env → (∀ j ∈ O, j ∉ borEs ge as) → Snd w h (fun w _ => R2 (WR w)) (pes C as penv h) (evs D as env w.S)
  | [], w, O, h, penv, env, H, r, n => by
    rw [pes, evs]
    exact .ok H .nil
  | a :: as, w, O, h, penv, env, H, r, n => by
    rw [pes, evs]
    refine (SE.bor (pe_snd K a) H r (nin_l n)).bind fun q p w1 h1 o1 e1 H1 r1 => ?_
    refine (pws_snd K as w1 O h1 penv env H1 (r.ext e1) (nin_r n)).bind fun q2 p2 w2 h2 o2 e2 H2 r2 => ?_
    exact .ok H2 (.cons (r1.ext e2) r2)
theorem peO_snd (K : CS C D ge) : ∀ a : Option E, ∀ (w : W) O h penv env, HR w h → ER w O penv env → (∀ j ∈ O, j ∉ escO ge a) → Snd w h RE (peO C a penv h) (evO D a env w.S)
  | none, w, O, h, penv, env, H, r, n => by
    rw [peO, evO]
    exact .ok H rfl
  | some a, w, O, h, penv, env, H, r, n => by
    rw [peO, evO]
    refine (SE.bor (pe_snd K a) H r n).bind fun q p w1 h1 o1 e1 H1 r1 => ?_
    cases q <;> try exact Snd.bad
    rw [wr_int r1]
    exact .ok H1 rfl
theorem peT_snd (K : CS C D ge) : ∀ a : T, ∀ (w : W) O h penv env, HR w h → ER w O penv env → (∀ j ∈ O, j ∉ escT ge a) → Snd w h RE (peT C a penv h) (evT D a env w.S)
  | .e a, w, O, h, penv, env, H, r, n => by
    rw [peT, evT]
    refine (SE.bor (pe_snd K a) H r n).bind fun q p w1 h1 o1 e1 H1 r1 => ?_
    exact Snd.truth H1 r1
  | .and a b, w, O, h, penv, env, H, r, n => by
    rw [peT, evT]
    refine (peT_snd K a w O h penv env H r (nin_l n)).bind fun k k' w1 h1 o1 e1 H1 r1 => ?_
    cases r1
    cases k with
    | false => exact .ok H1 rfl
    | true => exact peT_snd K b w1 O h1 penv env H1 (r.ext e1) (nin_r n)
  | .or a b, w, O, h, penv, env, H, r, n => by
    rw [peT, evT]
    refine (peT_snd K a w O h penv env H r (nin_l n)).bind fun k k' w1 h1 o1 e1 H1 r1 => ?_
    cases r1
    cases k with
    | true => exact .ok H1 rfl
    | false => exact peT_snd K b w1 O h1 penv env H1 (r.ext e1) (nin_r n)
  | .not t, w, O, h, penv, env, H, r, n => by
    rw [peT, evT]
    refine (peT_snd K t w O h penv env H r n).bind fun k k' w1 h1 o1 e1 H1 r1 => ?_
    cases r1
    exact .ok H1 rfl
end
end
end PM

/-! PM, part E: walks, comprehensions. -/
namespace PM
open TM
def escI (ge : Nat → List Nat) : It → List Nat
  | .e e => escE ge e
  | .rng1 a => bor a (escE ge a)
  | .rng2 a b => bor a (escE ge a) ++ bor b (escE ge b)
  | .enum e => bor e (escE ge e)
  | .zip a b => escE ge a ++ escE ge b
def escTs (ge : Nat → List Nat) : List T → List Nat
  | [] => []
  | t :: ts => escT ge t ++ escTs ge ts
def escCl (ge : Nat → List Nat) (c : Cl) : List Nat := escI ge c.it ++ escTs ge c.ts
def escG (ge : Nat → List Nat) (γ : Gen) : List Nat := escCl ge γ.c ++ (γ.c2.flatMap (escCl ge) ++ (escE ge γ.e ++ escE ge γ.v))
def geN (gs : List Gen) : Nat → Nat → List Nat
  | 0, _ => []
  | n + 1, g => match gs[g]? with
    | some γ => escG (geN gs n) γ
    | none => []
/-- what a walk gives from its place k on -/
def WkA (w : W) (k : Nat) (xs : List Q) (wk : Wk) : Prop := ∀ w', Mn w w' → ∀ j, (∀ q, xs[j]? = some q → ∃ p, wk.at (k + j) w'.S = some (some p) ∧ VR w' q p) ∧ (xs[j]? = none → wk.at (k + j) w'.S = some none)
theorem WkA.mono {w w' : W} {k : Nat} {xs : List Q} {wk : Wk} (a : WkA w k xs wk) (m : Mn w w') : WkA w' k xs wk := fun w2 m2 => a w2 (m.trans m2)
theorem WkA.tail {w : W} {k : Nat} {x : Q} {xs : List Q} {wk : Wk} (a : WkA w k (x :: xs) wk) : WkA w (k + 1) xs wk := fun w2 m2 j => by
  have := a w2 m2 (j + 1)
  rw [show k + 1 + j = k + (j + 1) from by omega]
  simpa using this
theorem WkA.head {w : W} {k : Nat} {x : Q} {xs : List Q} {wk : Wk} (a : WkA w k (x :: xs) wk) : ∃ p, wk.at k w.S = some (some p) ∧ VR w x p := (a w .refl 0).1 x rfl
theorem WkA.nil {w : W} {k : Nat} {wk : Wk} (a : WkA w k [] wk) : wk.at k w.S = some none := (a w .refl 0).2 rfl
theorem wk_seq {w : W} {xs : List Q} {ps : List PV} (h : VRs w xs ps) : WkA w 0 xs (.seq ps) := fun w' m j => by
  rw [Nat.zero_add]
  refine ⟨fun q e => ?_, fun e => ?_⟩
  · obtain ⟨p, g, r⟩ := h.get e
    exact ⟨p, by simp only [Wk.at, g], r.mono m⟩
  · have : ps[j]? = none := by rw [List.getElem?_eq_none_iff] at e ⊢; rw [← h.len]; exact e
    simp only [Wk.at, this]
theorem wk_obj {w : W} {xs : List Q} {ps : List PV} {i : Nat} (u : ¬Lock w i) (g : w.S[i]? = some (.lst ps)) (h : VRs w xs ps) : WkA w 0 xs (.obj i) := fun w' m j => by
  rw [Nat.zero_add]
  have s : seqOf w'.S i = some ps := by simp [seqOf, (m.keep i _ u g).2]
  refine ⟨fun q e => ?_, fun e => ?_⟩
  · obtain ⟨p, g, r⟩ := h.get e
    exact ⟨p, by simp only [Wk.at, s, g], r.mono m⟩
  · have : ps[j]? = none := by rw [List.getElem?_eq_none_iff] at e ⊢; rw [← h.len]; exact e
    simp only [Wk.at, s, this]
theorem zipQ_get : ∀ {xs ys : List Q} {j : Nat}, (zipQ xs ys)[j]? = match xs[j]?, ys[j]? with
    | some x, some y => some (.tup [x, y])
    | _, _ => none
  | [], ys, j => by simp [zipQ]
  | x :: xs, [], j => by simp [zipQ]
  | x :: xs, y :: ys, 0 => by simp [zipQ]
  | x :: xs, y :: ys, j + 1 => by simp [zipQ, zipQ_get (xs := xs) (ys := ys)]
theorem wk_zip {w : W} {xs ys : List Q} {ps us : List PV} {i k : Nat} (u : ¬Lock w i) (g : w.S[i]? = some (.lst ps)) (h : VRs w xs ps) (u2 : ¬Lock w k) (g2 : w.S[k]? = some (.lst us)) (h2 : VRs w ys us) : WkA w 0 (zipQ xs ys) (.zip i k) := fun w' m j => by
  rw [Nat.zero_add]
  have s : seqOf w'.S i = some ps := by simp [seqOf, (m.keep i _ u g).2]
  have s2 : seqOf w'.S k = some us := by simp [seqOf, (m.keep k _ u2 g2).2]
  rw [zipQ_get]
  simp only [Wk.at, s, s2]
  cases a : xs[j]? with
  | none =>
    have : ps[j]? = none := by rw [List.getElem?_eq_none_iff] at a ⊢; rw [← h.len]; exact a
    rw [this]
    exact ⟨(fun q e => by cases e), fun _ => rfl⟩
  | some x =>
    obtain ⟨p, a1, a2⟩ := h.get a
    rw [a1]
    cases b : ys[j]? with
    | none =>
      have : us[j]? = none := by rw [List.getElem?_eq_none_iff] at b ⊢; rw [← h2.len]; exact b
      rw [this]
      exact ⟨(fun q e => by cases e), fun _ => rfl⟩
    | some y =>
      obtain ⟨p2, b1, b2⟩ := h2.get b
      rw [b1]
      exact ⟨(fun q e => by cases e; exact ⟨_, rfl, .tup' (.cons (a2.mono m) (.cons (b2.mono m) .nil))⟩), (fun e => by cases e)⟩
theorem zipQ_vr {w : W} : ∀ {xs ys : List Q} {ps us : List PV}, VRs w xs ps → VRs w ys us → VRs w (zipQ xs ys) (zipL ps us)
  | _, _, _, _, .nil, _ => .nil
  | _, _, _, _, .cons _ _, .nil => .nil
  | _, _, _, _, .cons a b, .cons c d => .cons (.tup' (.cons a (.cons c .nil))) (zipQ_vr b d)
theorem chars_vr {w : W} (cs : List Nat) : VRs w (cs.map fun c => .str [c]) (cs.map fun c => .str [c]) :=
  R2.map (R2.same (r := fun a b => a = b) fun _ _ => rfl) fun x y e => by subst e; exact .str
theorem enumQ_vr {w : W} : ∀ (i : Nat) (cs : List Nat), VRs w (enumQ i cs) (enumL i cs)
  | _, [] => .nil
  | i, c :: cs => .cons (.tup' (.cons .int (.cons .str .nil))) (enumQ_vr (i + 1) cs)
theorem wk_rng {w : W} (lo : Int) (n : Nat) : WkA w 0 (rngQ lo n) (.rng lo n) := fun w' m j => by
  rw [Nat.zero_add]
  simp only [Wk.at, rngQ, List.getElem?_map]
  by_cases c : j < n
  · rw [List.getElem?_range c, if_pos c]
    exact ⟨(fun q e => by cases e; exact ⟨_, rfl, .int⟩), (fun e => by cases e)⟩
  · rw [List.getElem?_eq_none (by simpa using c), if_neg c]
    exact ⟨(fun q e => by cases e), fun _ => rfl⟩
abbrev RK : W → QH → List Q → Wk → Prop := fun w _ xs wk => WkA w 0 xs wk ∧ xs.length ≤ LINE
theorem short_ok {w : W} {h : QH} {xs : List Q} {y : Res Wk} {wk : Wk} (H : HR w h) (e : y = .ok wk w.S) (a : WkA w 0 xs wk) : Snd w h RK (shortQ xs h) y := by
  unfold shortQ
  split
  · rw [e]; exact .ok H ⟨a, by assumption⟩
  · exact .bad
section
variable {C : PC} {D : Ctx} {ge : Nat → List Nat}
theorem peI_snd (K : CS C D ge) (it : It) (w : W) (O : List Nat) (h : QH) (penv : QE) (env : Env) (H : HR w h) (r : ER w O penv env) (n : ∀ j ∈ O, j ∉ escI ge it) : Snd w h RK (peI C it penv h) (evI D it env w.S) := by
  cases it with
  | e a =>
    rw [peI, evI]
    refine (pe_snd K a w O h penv env H r n).bind fun q p w1 h1 o1 e1 H1 r1 => ?_
    cases r1 with
    | tup l m => exact short_ok H1 rfl (wk_seq (.of_ix l m))
    | lst u g l m => exact short_ok H1 (by simp [wkOf, seqOf, g]) (wk_obj u g (.of_ix l m))
    | str => exact short_ok H1 rfl (wk_seq (chars_vr _))
    | _ => exact .bad
  | enum a =>
    rw [peI, evI]
    refine (SE.bor (pe_snd K a) H r n).bind fun q p w1 h1 o1 e1 H1 r1 => ?_
    cases q <;> try exact Snd.bad
    rw [wr_str r1]
    exact short_ok H1 rfl (wk_seq (enumQ_vr _ _))
  | zip a b =>
    rw [peI, evI]
    refine (pe_snd K a w O h penv env H r (nin_l n)).bind fun q p w1 h1 o1 e1 H1 r1 => ?_
    refine (pe_snd K b w1 O h1 penv env H1 (r.ext e1) (nin_r n)).bind fun q2 p2 w2 h2 o2 e2 H2 r2 => ?_
    replace r1 := r1.mono e2.mn
    cases r1 <;> cases r2 <;> try exact Snd.bad
    · exact short_ok H2 rfl (wk_seq (zipQ_vr (chars_vr _) (chars_vr _)))
    · rename_i l m _ _ l2 m2
      exact short_ok H2 rfl (wk_seq (zipQ_vr (.of_ix l m) (.of_ix l2 m2)))
    · rename_i u g l m _ _ _ u2 g2 l2 m2
      exact short_ok H2 (by simp [zipW, seqOf, g, g2]) (wk_zip u g (.of_ix l m) u2 g2 (.of_ix l2 m2))
  | rng1 a =>
    rw [peI, evI]
    refine (SE.bor (pe_snd K a) H r n).bind fun q p w1 h1 o1 e1 H1 r1 => ?_
    cases q <;> try exact Snd.bad
    rw [wr_int r1]
    rename_i j
    show Snd w1 h1 RK (if (decide (-P62 ≤ j) && decide (j ≤ LINE)) = true then .ok (rngQ 0 j.toNat) h1 else .bad) (if (decide (-P62 ≤ j) && decide (j < P62)) = true then .ok (.rng 0 j.toNat) w1.S else .bad)
    by_cases l : (decide (-P62 ≤ j) && decide (j ≤ LINE)) = true
    · rw [if_pos l]
      simp only [Bool.and_eq_true, decide_eq_true_eq] at l
      rw [if_pos (by simp only [Bool.and_eq_true, decide_eq_true_eq]; unfold P62; unfold LINE at l; unfold P62 at l; omega)]
      refine .ok H1 ⟨wk_rng _ _, ?_⟩
      simp only [rngQ, List.length_map, List.length_range]
      omega
    · rw [if_neg l]; exact .bad
  | rng2 a b =>
    rw [peI, evI]
    refine (SE.bor (pe_snd K a) H r (nin_l n)).bind fun q p w1 h1 o1 e1 H1 r1 => ?_
    refine (SE.bor (pe_snd K b) H1 (r.ext e1) (nin_r n)).bind fun q2 p2 w2 h2 o2 e2 H2 r2 => ?_
    cases q <;> try exact Snd.bad
    cases q2 <;> try exact Snd.bad
    rw [wr_int r1, wr_int r2]
    rename_i i j
    show Snd w2 h2 RK (if (decide (-P62 ≤ i) && decide (i < P62) && decide (-P62 ≤ j) && decide (j < P62) && decide ((j - i).toNat ≤ LINE)) = true then .ok (rngQ i (j - i).toNat) h2 else .bad) (if (decide (-P62 ≤ i) && decide (i < P62) && decide (-P62 ≤ j) && decide (j < P62)) = true then .ok (.rng i (j - i).toNat) w2.S else .bad)
    by_cases l : (decide (-P62 ≤ i) && decide (i < P62) && decide (-P62 ≤ j) && decide (j < P62) && decide ((j - i).toNat ≤ LINE)) = true
    · rw [if_pos l]
      rw [Bool.and_eq_true] at l
      rw [if_pos l.1]
      refine .ok H2 ⟨wk_rng _ _, ?_⟩
      simp only [rngQ, List.length_map, List.length_range]
      exact of_decide_eq_true l.2
    · rw [if_neg l]; exact .bad
theorem peTs_snd (K : CS C D ge) : ∀ (ts : List T) (w : W) (O : List Nat) (h : QH) (penv : QE) (env : Env), HR w h → ER w O penv env → (∀ j ∈ O, j ∉ escTs ge ts) → Snd w h RE (peTs C ts penv h) (evTs D ts env w.S)
  | [], w, O, h, penv, env, H, r, n => .ok H rfl
  | t :: ts, w, O, h, penv, env, H, r, n => by
    rw [peTs, evTs]
    refine (peT_snd K t w O h penv env H r (nin_l n)).bind fun k k' w1 h1 o1 e1 H1 r1 => ?_
    cases r1
    cases k with
    | false => exact .ok H1 rfl
    | true => exact peTs_snd K ts w1 O h1 penv env H1 (r.ext e1) (nin_r n)
end
/-! ### names within a comprehension: own things stand below lim -/
structure EL (lim : Nat) (w : W) (O : List Nat) (penv : QE) (env : Env) : Prop where
  len : penv.length = env.length
  get : ∀ j q, penv[j]? = some (some q) → ∃ p, env[j]? = some (some p) ∧ (VR w q p ∨ (j ∈ O ∧ Own w q p ∧ ∀ i, p = .obj i → i < lim))
theorem EL.er {lim : Nat} {w : W} {O : List Nat} {penv : QE} {env : Env} (r : EL lim w O penv env) : ER w O penv env :=
  ⟨r.len, fun j q e => let ⟨p, a, b⟩ := r.get j q e; ⟨p, a, b.imp id fun c => ⟨c.1, c.2.1⟩⟩⟩
theorem ER.el {w : W} {O : List Nat} {penv : QE} {env : Env} (r : ER w O penv env) : EL w.S.length w O penv env :=
  ⟨r.len, fun j q e => let ⟨p, a, b⟩ := r.get j q e; ⟨p, a, b.imp id fun c => ⟨c.1, c.2, fun i ei => by subst ei; exact c.2.1.lt⟩⟩⟩
/-- all stays but refs and the object d -/
structure ExtX (d : Nat) (w w' : W) : Prop where
  len : w.S.length ≤ w'.S.length
  io : ∀ r, r < w.nh → w'.io r = w.io r
  nh : w.nh ≤ w'.nh
  new : ∀ r, w.nh ≤ r → r < w'.nh → w.S.length ≤ w'.io r
  own : w'.Ow = w.Ow
  dw : w.Ow d
  keep : ∀ i o, w.S[i]? = some o → i ≠ d → ¬isRf w i → w'.S[i]? = some o
theorem ExtX.rf {d : Nat} {w w' : W} (e : ExtX d w w') {i : Nat} (l : i < w.S.length) (h : isRf w' i) : isRf w i := by
  obtain ⟨r, hr, e2⟩ := h
  by_cases c : r < w.nh
  · exact ⟨r, c, by rw [← e.io r c]; exact e2⟩
  · have := e.new r (by omega) hr
    omega
theorem ExtX.mn {d : Nat} {w w' : W} (e : ExtX d w w') : Mn w w' :=
  ⟨fun i o u g => ⟨fun z => u (by
      rcases z with z | z
      · rw [e.own] at z; exact .inl z
      · exact .inr (e.rf (lt_of_get g) z)), e.keep i o g (fun z => u (.inl (z ▸ e.dw))) fun z => u (.inr z)⟩, e.io, e.nh⟩
theorem ExtX.refl {d : Nat} {w : W} (h : w.Ow d) : ExtX d w w := ⟨Nat.le_refl _, fun _ _ => rfl, Nat.le_refl _, fun _ a b => absurd b (Nat.not_lt.mpr a), rfl, h, fun _ _ g _ _ => g⟩
theorem ExtX.trans {d : Nat} {w w1 w2 : W} (a : ExtX d w w1) (b : ExtX d w1 w2) : ExtX d w w2 := by
  refine ⟨Nat.le_trans a.len b.len, fun r hr => (b.io r (Nat.lt_of_lt_of_le hr a.nh)).trans (a.io r hr), Nat.le_trans a.nh b.nh, ?_, b.own.trans a.own, a.dw, fun i o g n u => b.keep i o (a.keep i o g n u) n fun z => u (a.rf (lt_of_get g) z)⟩
  intro r h1 h2
  by_cases c : r < w1.nh
  · rw [b.io r c]; exact a.new r h1 c
  · have := b.new r (by omega) h2
    have := a.len
    omega
theorem Ext.x {d : Nat} {w w' : W} (e : Ext w.S.length w w') (o : w'.Ow = w.Ow) (h : w.Ow d) : ExtX d w w' :=
  ⟨e.len, e.io, e.nh, e.new, o, h, fun i o g n u => e.keep i o g (.inl ⟨lt_of_get g, u⟩)⟩
theorem Own.extx {d : Nat} {w w' : W} (e : ExtX d w w') {q : Q} {p : PV} (h : Own w q p) (n : p ≠ .obj d) : Own w' q p := by
  obtain ⟨h1, i, rfl, h2⟩ := h
  exact ⟨h1.ext e.mn fun j o ej g => by cases ej; exact e.keep _ _ g (fun z => n (by rw [z])) h2, i, rfl, fun z => h2 (e.rf h1.lt z)⟩
theorem EL.ext {d lim : Nat} {w w' : W} {O : List Nat} {penv : QE} {env : Env} (r : EL lim w O penv env) (e : ExtX d w w') (l : lim ≤ d) : EL lim w' O penv env :=
  ⟨r.len, fun j q g => let ⟨p, a, b⟩ := r.get j q g; ⟨p, a, b.imp (·.mono e.mn) fun c => ⟨c.1, c.2.1.extx e (fun z => by have := c.2.2 d z; omega), c.2.2⟩⟩⟩
theorem EL.bind1 {lim : Nat} {w : W} {O : List Nat} {penv : QE} {env : Env} (r : EL lim w O penv env) {q : Q} {p : PV} (v : VR w q p) (i : Nat) : EL lim w O (penv.set i (some q)) (env.set i (some p)) := by
  refine ⟨by simp [r.len], fun j x g => ?_⟩
  by_cases c : i = j
  · subst c
    have l : i < penv.length := by
      have := lt_of_get g
      simpa using this
    rw [List.getElem?_set_self l] at g
    cases g
    exact ⟨p, by rw [List.getElem?_set_self (by rw [← r.len]; exact l)], .inl v⟩
  · rw [List.getElem?_set_ne c] at g
    rw [List.getElem?_set_ne c]
    exact r.get j x g
mutual
theorem EL.bind {lim : Nat} {w : W} {O : List Nat} : ∀ (pt : Pat) {penv penv' : QE} {env : Env} {q : Q} {p : PV}, EL lim w O penv env → VR w q p → bindQ pt q penv = some penv' → ∃ env', bindP pt p env = some env' ∧ EL lim w O penv' env'
  | .nm i, penv, penv', env, q, p, r, v, e => by
    rw [bindQ] at e
    split at e
    · rename_i l
      cases e
      exact ⟨_, by rw [bindP, if_pos (by rw [← r.len]; exact l)], r.bind1 v i⟩
    · cases e
  | .tup pts, penv, penv', env, q, p, r, v, e => by
    cases v with
    | tup l m =>
      rw [bindQ] at e
      obtain ⟨env', a, b⟩ := EL.binds pts r (.of_ix l m) e
      exact ⟨env', by rw [bindP]; exact a, b⟩
    | _ => simp [bindQ] at e
theorem EL.binds {lim : Nat} {w : W} {O : List Nat} : ∀ (pts : List Pat) {penv penv' : QE} {env : Env} {qs : List Q} {ps : List PV}, EL lim w O penv env → VRs w qs ps → bindQs pts qs penv = some penv' → ∃ env', bindPs pts ps env = some env' ∧ EL lim w O penv' env'
  | [], penv, penv', env, qs, ps, r, v, e => by
    cases v with
    | nil => rw [bindQs] at e; cases e; exact ⟨env, by rw [bindPs], r⟩
    | cons _ _ => simp [bindQs] at e
  | pt :: pts, penv, penv', env, qs, ps, r, v, e => by
    cases v with
    | nil => simp [bindQs] at e
    | cons v1 v2 =>
      rw [bindQs] at e
      split at e
      · rename_i penv1 h1
        obtain ⟨env1, a, b⟩ := EL.bind pt r v1 h1
        obtain ⟨env2, a2, b2⟩ := EL.binds pts b v2 e
        exact ⟨env2, by rw [bindPs, a]; exact a2, b2⟩
      · cases e
end
theorem EL.wipe {lim : Nat} {w : W} {O : List Nat} {penv : QE} {env : Env} (r : EL lim w O penv env) : ∀ l : List Nat, EL lim w O (wipeQ penv l) (wipeE env l)
  | [] => r
  | v :: vs => by
    have ih := EL.wipe r vs
    rw [wipeQ, wipeE]
    refine ⟨by simp [ih.len], fun j x g => ?_⟩
    by_cases c : v = j
    · subst c
      have l : v < (wipeQ penv vs).length := by
        have := lt_of_get g
        simpa using this
      rw [List.getElem?_set_self l] at g
      cases g
    · rw [List.getElem?_set_ne c] at g
      rw [List.getElem?_set_ne c]
      exact ih.get j x g
theorem EL.more {lim : Nat} {w : W} {O : List Nat} {penv : QE} {env : Env} (r : EL lim w O penv env) (k : Nat) : EL lim w O (penv ++ List.replicate k none) (env ++ List.replicate k none) := by
  refine ⟨by simp [r.len], fun j x g => ?_⟩
  rw [List.getElem?_append] at g ⊢
  rw [← r.len]
  split at g
  · rename_i l; rw [if_pos l]; exact r.get j x g
  · rw [List.getElem?_replicate] at g
    split at g <;> cases g
/-- what is made in a comprehension -/
def LX {a : Type} (d : Nat) (AR : W → a → Prop) (w : W) (x : PR a) (y : Res Unit) : Prop :=
  ∀ acc h', x = .ok acc h' → ∃ S' io', y = .ok () S' ∧ ExtX d w ⟨S', w.Ow, io', h'.length⟩ ∧ HR ⟨S', w.Ow, io', h'.length⟩ h' ∧ AR ⟨S', w.Ow, io', h'.length⟩ acc
theorem W.eta {w : W} {h : QH} (H : HR w h) : (⟨w.S, w.Ow, w.io, h.length⟩ : W) = w := by rw [← H.nh]
theorem lc_snd {a : Type} {d lim : Nat} (AR : W → a → Prop) (ARx : ∀ w w' acc, AR w acc → Ext w.S.length w w' → w'.Ow = w.Ow → w.Ow d → ¬isRf w d → AR w' acc) {O : List Nat} {pt : Pat} {tst : QE → QH → PR Bool} {tstT : Env → Sto → Res Bool} {turn : a → QE → QH → PR a} {turnT : Env → Sto → Res Unit} (ll : lim ≤ d)
    (ts : ∀ (w : W) h penv env, w.Ow d → HR w h → EL lim w O penv env → Snd w h RE (tst penv h) (tstT env w.S))
    (tu : ∀ acc (w : W) h penv env, w.Ow d → HR w h → EL lim w O penv env → AR w acc → LX d AR w (turn acc penv h) (turnT env w.S)) {wk : Wk} :
    ∀ (xs : List Q) (n k : Nat) (w : W) (h : QH) (acc : a) (penv : QE) (env : Env), w.Ow d → HR w h → EL lim w O penv env → AR w acc → WkA w k xs wk → xs.length < n → LX d AR w (lcQ pt penv tst turn xs acc h) (lcN wk pt tstT turnT n k env w.S)
  | [], n, k, w, h, acc, penv, env, dw, H, r, ar, wa, l => by
    intro acc' h' e
    rw [lcQ] at e
    cases e
    cases n with
    | zero => simp at l
    | succ n =>
      rw [lcN, wa.nil]
      refine ⟨w.S, w.io, rfl, ?_⟩
      rw [W.eta H]
      exact ⟨.refl dw, H, ar⟩
  | x :: xs, n, k, w, h, acc, penv, env, dw, H, r, ar, wa, l => by
    intro acc' h' e
    cases n with
    | zero => simp at l
    | succ n =>
      rw [lcQ] at e
      obtain ⟨p, e1, v1⟩ := wa.head
      cases hb : bindQ pt x penv with
      | none => rw [hb] at e; cases e
      | some penv1 =>
        rw [hb] at e
        simp only at e
        obtain ⟨env1, e2, r1⟩ := r.bind pt v1 hb
        rw [lcN, e1]
        simp only [e2]
        cases ht : tst penv1 h with
        | bad => rw [ht] at e; cases e
        | ok b h1 =>
          rw [ht] at e
          simp only [PR.bind_ok] at e
          obtain ⟨b', S1, io1, t1, t2, t3, t4⟩ := ts w h penv1 env1 dw H r1 b h1 ht
          cases t4
          rw [nox_ok t1]
          simp only [Res.bind_ok]
          have x1 : ExtX d w ⟨S1, w.Ow, io1, h1.length⟩ := t2.x rfl dw
          have ar1 := ARx _ _ _ ar t2 rfl dw (fun ⟨r, a, b⟩ => H.dis r a (b ▸ dw))
          cases b with
          | false =>
            simp only [Bool.false_eq_true, if_false] at e ⊢
            obtain ⟨S2, io2, g1, g2, g3, g4⟩ := lc_snd AR ARx ll ts tu xs n (k + 1) ⟨S1, w.Ow, io1, h1.length⟩ h1 acc penv env dw t3 (r.ext x1 ll) ar1 (wa.tail.mono x1.mn) (by simpa using l) acc' h' e
            exact ⟨S2, io2, g1, x1.trans g2, g3, g4⟩
          | true =>
            simp only [if_true] at e ⊢
            cases hu : turn acc penv1 h1 with
            | bad => rw [hu] at e; cases e
            | ok acc1 h2 =>
              rw [hu] at e
              simp only [PR.bind_ok] at e
              obtain ⟨S2, io2, u1, u2, u3, u4⟩ := tu acc ⟨S1, w.Ow, io1, h1.length⟩ h1 penv1 env1 dw t3 (r1.ext x1 ll) ar1 acc1 h2 hu
              rw [nox_ok u1]
              simp only [Res.bind_ok]
              obtain ⟨S3, io3, g1, g2, g3, g4⟩ := lc_snd AR ARx ll ts tu xs n (k + 1) ⟨S2, w.Ow, io2, h2.length⟩ h2 acc1 penv env dw u3 ((r.ext x1 ll).ext u2 ll) u4 ((wa.tail.mono x1.mn).mono u2.mn) (by simpa using l) acc' h' e
              exact ⟨S3, io3, g1, (x1.trans u2).trans g2, g3, g4⟩
def ARl (d : Nat) (w : W) (acc : List Q) : Prop := ∃ ps, w.S[d]? = some (.lst ps) ∧ VRs w acc ps
def ARd (d : Nat) (w : W) (acc : List (PV × Q)) : Prop := ∃ ps, w.S[d]? = some (.dic ps) ∧ VRd w acc ps
/-- the object d put anew -/
theorem put_d {d : Nat} {w : W} {h : QH} {o : TM.PO} (H : HR w h) (dw : w.Ow d) (l : d < w.S.length) : ExtX d w ⟨w.S.set d o, w.Ow, w.io, h.length⟩ ∧ HR ⟨w.S.set d o, w.Ow, w.io, h.length⟩ h := by
  have nr : ¬isRf w d := fun ⟨r, a, b⟩ => H.dis r a (b ▸ dw)
  have x : ExtX d w ⟨w.S.set d o, w.Ow, w.io, h.length⟩ := ⟨by simp, fun _ _ => rfl, by rw [H.nh]; exact Nat.le_refl _, fun r a b => by rw [H.nh] at a; exact absurd b (Nat.not_lt.mpr a), rfl, dw, fun i u g n _ => by
    show (w.S.set d o)[i]? = _
    rw [List.getElem?_set_ne (fun z => n z.symm)]; exact g⟩
  refine ⟨x, H.later x.mn H.nh.symm (fun r a u g => ?_) (fun i z => ?_) fun r a => H.dis r a⟩
  · show (w.S.set d o)[w.io r]? = _
    rw [List.getElem?_set_ne (fun z => nr ⟨r, a, z.symm⟩)]; exact g
  · have := H.rng i (z.imp id fun ⟨r, a, b⟩ => ⟨r, by rw [H.nh]; exact a, b⟩)
    show i < (w.S.set d o).length
    simpa using this
section
variable {C : PC} {D : Ctx} {ge : Nat → List Nat}
theorem elt_snd (K : CS C D ge) {d lim : Nat} {e : E} {O : List Nat} (n : ∀ j ∈ O, j ∉ escE ge e) (acc : List Q) (w : W) (h : QH) (penv : QE) (env : Env) (dw : w.Ow d) (H : HR w h) (r : EL lim w O penv env) (ar : ARl d w acc) : LX d (ARl d) w (eltQ C e acc penv h) (eltD D e d env w.S) := by
  intro acc' h' e'
  unfold eltQ at e'
  unfold eltD
  cases hp : pe C e penv h with
  | bad => rw [hp] at e'; cases e'
  | ok q h1 =>
    rw [hp] at e'
    simp only [PR.bind_ok] at e'
    obtain ⟨p, S1, io1, t1, t2, t3, t4⟩ := pe_snd K e w O h penv env H r.er n q h1 hp
    rw [t1]
    simp only [Res.bind_ok]
    split at e'
    · rename_i l
      cases e'
      obtain ⟨ps, a1, a2⟩ := ar
      have nr : ¬isRf w d := fun ⟨r, a, b⟩ => H.dis r a (b ▸ dw)
      have g1 := t2.keep d _ a1 (.inl ⟨lt_of_get a1, nr⟩)
      obtain ⟨x1, x2⟩ := put_d (w := ⟨S1, w.Ow, io1, _⟩) (o := .lst (ps ++ [p])) t3 dw (lt_of_get g1)
      refine ⟨S1.set d (.lst (ps ++ [p])), io1, ?_, (t2.x rfl dw).trans x1, x2, ps ++ [p], ?_, VRs.mono x1.mn ((VRs.mono t2.mn a2).app (.cons t4 .nil))⟩
      · unfold appD
        simp only at g1
        simp only [g1]
        rw [if_pos (by rw [← a2.len]; exact l)]
      · show (S1.set d (.lst (ps ++ [p])))[d]? = _
        rw [List.getElem?_set_self (lt_of_get g1)]
    · cases e'
theorem eltk_snd (K : CS C D ge) {d lim : Nat} {e v : E} {O : List Nat} (n : ∀ j ∈ O, j ∉ escE ge e ++ escE ge v) (acc : List (PV × Q)) (w : W) (h : QH) (penv : QE) (env : Env) (dw : w.Ow d) (H : HR w h) (r : EL lim w O penv env) (ll : lim ≤ d) (ar : ARd d w acc) : LX d (ARd d) w (eltK C e v acc penv h) (eltP D e v d env w.S) := by
  intro acc' h' e'
  unfold eltK at e'
  unfold eltP
  cases hp : pe C e penv h with
  | bad => rw [hp] at e'; cases e'
  | ok q h1 =>
    rw [hp] at e'
    simp only [PR.bind_ok] at e'
    obtain ⟨p, S1, io1, t1, t2, t3, t4⟩ := pe_snd K e w O h penv env H r.er (nin_l n) q h1 hp
    rw [t1]
    simp only [Res.bind_ok]
    cases hv : pe C v penv h1 with
    | bad => rw [hv] at e'; cases e'
    | ok x h2 =>
      rw [hv] at e'
      simp only [PR.bind_ok] at e'
      have x0 : ExtX d w ⟨S1, w.Ow, io1, h1.length⟩ := t2.x rfl dw
      obtain ⟨px, S2, io2, s1, s2, s3, s4⟩ := pe_snd K v ⟨S1, w.Ow, io1, h1.length⟩ O h1 penv env t3 (r.ext x0 ll).er (nin_r n) x h2 hv
      simp only at s1
      rw [s1]
      simp only [Res.bind_ok]
      cases hk : keyQ q with
      | none => rw [hk] at e'; cases e'
      | some kk =>
        rw [hk] at e'
        simp only at e'
        obtain ⟨rfl, ik⟩ := key_ok (.inl t4) hk
        split at e'
        · rename_i l
          cases e'
          obtain ⟨ps, a1, a2⟩ := ar
          have nr : ¬isRf w d := fun ⟨r, a, b⟩ => H.dis r a (b ▸ dw)
          have tt := t2.trans s2 t2.len
          have g1 := tt.keep d _ a1 (.inl ⟨lt_of_get a1, nr⟩)
          obtain ⟨x1, x2⟩ := put_d (w := ⟨S2, w.Ow, io2, _⟩) (o := .dic (putD p px ps)) s3 dw (lt_of_get g1)
          refine ⟨S2.set d (.dic (putD p px ps)), io2, ?_, (tt.x rfl dw).trans x1, x2, putD p px ps, ?_, VRd.mono x1.mn (VRd.put (VRd.mono tt.mn a2) p s4)⟩
          · unfold putT
            simp only at g1
            simp only [g1]
            rw [if_pos (by rw [ik, ← a2.len]; simpa using l)]
          · show (S2.set d (.dic (putD p px ps)))[d]? = _
            rw [List.getElem?_set_self (lt_of_get g1)]
        · cases e'
theorem LX.of {a : Type} {d : Nat} {AR : W → a → Prop} {w w1 : W} {x : PR a} {y : Res Unit} (s : LX d AR w1 x y) (e : ExtX d w w1) : LX d AR w x y := by
  intro acc h' e'
  obtain ⟨S', io', a, b, c, f⟩ := s acc h' e'
  have := e.own
  rw [this] at b c f
  exact ⟨S', io', a, e.trans b, c, f⟩
theorem ARl.ext (d : Nat) : ∀ (w w' : W) (acc : List Q), ARl d w acc → Ext w.S.length w w' → w'.Ow = w.Ow → w.Ow d → ¬isRf w d → ARl d w' acc :=
  fun w w' acc ⟨ps, a, b⟩ e _ _ nr => ⟨ps, e.keep d _ a (.inl ⟨lt_of_get a, nr⟩), VRs.mono e.mn b⟩
theorem ARd.ext (d : Nat) : ∀ (w w' : W) (acc : List (PV × Q)), ARd d w acc → Ext w.S.length w w' → w'.Ow = w.Ow → w.Ow d → ¬isRf w d → ARd d w' acc :=
  fun w w' acc ⟨ps, a, b⟩ e _ _ nr => ⟨ps, e.keep d _ a (.inl ⟨lt_of_get a, nr⟩), VRd.mono e.mn b⟩
theorem lc2_snd (K : CS C D ge) {d lim : Nat} {c2 : Cl} {e : E} {O : List Nat} (n : ∀ j ∈ O, j ∉ escCl ge c2 ++ escE ge e) (ll : lim ≤ d) (acc : List Q) (w : W) (h : QH) (penv : QE) (env : Env) (dw : w.Ow d) (H : HR w h) (r : EL lim w O penv env) (ar : ARl d w acc) : LX d (ARl d) w (lc2Q C c2 e acc penv h) (lc2T D c2 e d env w.S) := by
  unfold lc2Q lc2T
  cases hp : peI C c2.it penv h with
  | bad => intro _ _ z; cases z
  | ok xs h1 =>
    obtain ⟨wk, S1, io1, t1, t2, t3, t4⟩ := peI_snd K c2.it w O h penv env H r.er (nin_l (nin_l n)) xs h1 hp
    rw [t1]
    simp only [PR.bind_ok, Res.bind_ok]
    have x0 : ExtX d w ⟨S1, w.Ow, io1, h1.length⟩ := t2.x rfl dw
    have nr : ¬isRf w d := fun ⟨r, a, b⟩ => H.dis r a (b ▸ dw)
    refine LX.of (lc_snd (ARl d) (ARl.ext d) ll (O := O) (fun w h penv env _ H r => peTs_snd K c2.ts w O h penv env H r.er (nin_r (nin_l n))) (fun acc w h penv env dw H r ar => elt_snd K (nin_r n) acc w h penv env dw H r ar) xs FU 0 ⟨S1, w.Ow, io1, h1.length⟩ h1 acc _ _ dw t3 ((r.ext x0 ll).wipe _) (ARl.ext d _ _ _ ar t2 rfl dw nr) t4.1 (by have := t4.2; unfold FU; unfold LINE at this; omega)) x0
/-- the new list or dict of a comprehension -/
theorem dest_ok {a : Type} {AR : W → a → Prop} {mk : a → Q} {w : W} {h : QH} {o : TM.PO} {O : List Nat} {penv : QE} {env : Env} (H : HR w h) (r : ER w O penv env) {x : PR a} {y : Res Unit}
    (s : ∀ w1 : W, w1.S = w.S ++ [o] → w1.Ow w.S.length → w1.S.length = w.S.length + 1 → Mn w w1 → HR w1 h → EL w.S.length w1 O penv env → LX w.S.length AR w1 x y)
    (fin : ∀ w' acc, AR w' acc → BR w' (mk acc) (.obj w.S.length) ∧ ∀ w2 : W, Mn w' w2 → w2.S = w'.S → ¬Lock w2 w.S.length → VR w2 (mk acc) (.obj w.S.length)) :
    Snd w h (RN w.S.length) (x.bind fun acc h => .ok (mk acc) h) (y.bind fun _ S' => .ok (.obj w.S.length) S') := by
  obtain ⟨S, Ow, io, nh⟩ := w
  have hn := H.nh
  subst hn
  simp only at s fin ⊢
  have app : ∀ i u, S[i]? = some u → (S ++ [o])[i]? = some u := fun i u g => by rw [List.getElem?_append_left (lt_of_get g)]; exact g
  have mn : Mn ⟨S, Ow, io, h.length⟩ ⟨S ++ [o], fun k => Ow k ∨ k = S.length, io, h.length⟩ := ⟨fun i o' u g => ⟨fun z => by
      rcases z with (z | z) | z
      · exact u (.inl z)
      · have := lt_of_get g
        simp only at this
        omega
      · exact u (.inr z), app i o' g⟩, fun _ _ => rfl, Nat.le_refl _⟩
  have lt : ∀ i, i < S.length → i < (S ++ [o]).length := fun i l => by rw [List.length_append]; exact Nat.lt_of_lt_of_le l (Nat.le_add_right _ _)
  have H1 : HR ⟨S ++ [o], fun k => Ow k ∨ k = S.length, io, h.length⟩ h := by
    refine H.later mn rfl (fun r _ u g => app _ u g) (fun i l => ?_) fun r a z => ?_
    · rcases l with (l | l) | l
      · exact lt i (H.rng i (.inl l))
      · rw [l]; simp
      · exact lt i (H.rng i (.inr l))
    · rcases z with z | z
      · exact H.dis r a z
      · have l9 : io r < S.length := H.rng (io r) (.inr ⟨r, a, rfl⟩)
        have z9 : io r = S.length := z
        omega
  have r1 : EL S.length ⟨S ++ [o], fun k => Ow k ∨ k = S.length, io, h.length⟩ O penv env := by
    refine ⟨r.len, fun j q g => ?_⟩
    obtain ⟨p, a, b⟩ := r.el.get j q g
    refine ⟨p, a, b.imp (·.mono mn) fun c => ⟨c.1, ?_, c.2.2⟩⟩
    obtain ⟨c1, i, rfl, c2⟩ := c.2.1
    exact ⟨c1.ext mn fun j o ej g => by cases ej; exact app _ _ g, i, rfl, c2⟩
  have L := s ⟨S ++ [o], fun k => Ow k ∨ k = S.length, io, h.length⟩ rfl (.inr rfl) (by simp) mn H1 r1
  intro q h' e
  cases hx : x with
  | bad => rw [hx] at e; cases e
  | ok acc h1 =>
    rw [hx] at e
    simp only [PR.bind_ok] at e
    cases e
    obtain ⟨S', io', e1, e2, e3, e4⟩ := L acc h' hx
    obtain ⟨f1, f2⟩ := fin _ _ e4
    have mn2 : Mn ⟨S', fun k => Ow k ∨ k = S.length, io', h'.length⟩ ⟨S', Ow, io', h'.length⟩ := ⟨fun i o u g => ⟨fun z => u (z.imp .inl id), g⟩, fun _ _ => rfl, Nat.le_refl _⟩
    have ln : S.length + 1 ≤ S'.length := by have := e2.len; simpa using this
    have ex : Ext S.length ⟨S, Ow, io, h.length⟩ ⟨S', Ow, io', h'.length⟩ := by
      refine ⟨by show S.length ≤ S'.length; omega, e2.io, e2.nh, fun r a b => ?_, fun _ z => .inl z, fun i u g c => ?_⟩
      · have := e2.new r a b
        simp at this
        show S.length ≤ io' r
        omega
      · refine e2.keep i u (app i u g) (fun z => by have := lt_of_get g; simp only at this; omega) fun z => ?_
        rcases c with ⟨_, c⟩ | c
        · exact c z
        · exact c (.inr z)
    have nd : ¬Lock ⟨S', Ow, io', h'.length⟩ S.length := by
      intro z
      rcases z with z | ⟨r, a, b⟩
      · exact absurd (H.rng S.length (.inl z)) (Nat.lt_irrefl _)
      · exact e3.dis r a (.inr b)
    refine ⟨.obj S.length, S', io', by rw [e1]; rfl, ex, ⟨rfl, fun r o g => (e3.obj r o g).ext mn2 fun _ _ _ g => g, e3.inj, fun i z => e3.rng i (z.imp .inl id), fun r a z => e3.dis r a (.inl z)⟩, f2 _ mn2 rfl nd, fun i ei => ?_⟩
    cases ei
    exact ⟨Nat.le_refl _, f1, e3⟩
theorem gen_snd {O : List Nat} {pt : Pat} {b : Bool} {elt : QE → QH → PR Q} {eltT : Env → Sto → Res PV} (es : ∀ (w : W) h penv env, HR w h → ER w O penv env → Snd w h RV (elt penv h) (eltT env w.S)) {wk : Wk} :
    ∀ (xs : List Q) (n k : Nat) (w : W) (h : QH) (penv : QE) (env : Env), HR w h → ER w O penv env → WkA w k xs wk → xs.length < n → Snd w h (RN w.S.length) (genQ pt b elt xs penv h) (genN wk pt b eltT n k env w.S)
  | [], n, k, w, h, penv, env, H, r, wa, l => by
    cases n with
    | zero => simp at l
    | succ n =>
      rw [genQ, genN, wa.nil]
      exact .ok H RN.bl
  | x :: xs, n, k, w, h, penv, env, H, r, wa, l => by
    cases n with
    | zero => simp at l
    | succ n =>
      rw [genQ, genN]
      obtain ⟨p, e1, v1⟩ := wa.head
      rw [e1]
      simp only
      cases hb : bindQ pt x penv with
      | none => exact .bad
      | some penv1 =>
        simp only
        obtain ⟨env1, e2, r1⟩ := r.el.bind pt v1 hb
        rw [e2]
        simp only
        intro q h' e
        cases ht : elt penv1 h with
        | bad => rw [ht] at e; cases e
        | ok c h1 =>
          rw [ht] at e
          cases c <;> try cases e
          rename_i c
          simp only at e
          obtain ⟨b', S1, io1, t1, t2, t3, t4⟩ := es w h penv1 env1 H r1.er _ h1 ht
          cases t4
          rw [t1]
          simp only
          by_cases cb : c = b
          · rw [if_pos cb] at e ⊢
            obtain ⟨p', S2, io2, g1, g2, g3, g4⟩ := gen_snd es xs n (k + 1) ⟨S1, w.Ow, io1, h1.length⟩ h1 penv1 env1 t3 (r1.er.ext t2) (wa.tail.mono t2.mn) (by simpa using l) q h' e
            exact ⟨p', S2, io2, g1, t2.trans g2 t2.len, g3, g4.le t2.len⟩
          · rw [if_neg cb] at e ⊢
            cases e
            exact ⟨_, S1, io1, rfl, t2, t3, RN.bl⟩
theorem peG_snd (K : CS C D ge) (γ : Gen) (w : W) (O : List Nat) (h : QH) (penv : QE) (env : Env) (H : HR w h) (r : ER w O penv env) (n : ∀ j ∈ O, j ∉ escG ge γ) : Snd w h (RN w.S.length) (peG C γ penv h) (evG D γ env w.S) := by
  have nI := nin_l (nin_l n)
  have nT := nin_r (nin_l n)
  have n2 := nin_l (nin_r n)
  have nE := nin_l (nin_r (nin_r n))
  have nEV := nin_r (nin_r n)
  have fu : ∀ {xs : List Q}, xs.length ≤ LINE → xs.length < FU := fun l => by unfold FU; unfold LINE at l; omega
  have A : ∀ b, Snd w h (RN w.S.length) (peA C b γ penv h) (evA D b γ env w.S) := by
    intro b
    unfold peA evA
    refine (peI_snd K γ.c.it w O h penv env H r nI).bind fun xs wk w1 h1 o1 e1 H1 r1 => ?_
    refine (gen_snd (O := O) (fun w h penv env H r => pe_snd K γ.e w O h penv env H r nE) xs FU 0 w1 h1 _ _ H1 ((r.ext e1).el.more _).er r1.1 (fu r1.2)).imp fun _ _ _ _ x => x.le e1.len
  have fl : ∀ (d : Nat) (w' : W) acc, ARl d w' acc → BR w' (.lst acc) (.obj d) ∧ ∀ w2 : W, Mn w' w2 → w2.S = w'.S → ¬Lock w2 d → VR w2 (.lst acc) (.obj d) := fun d w' acc ⟨ps, a, b⟩ => ⟨⟨d, ps, rfl, a, b⟩, fun w2 m s u => .lst' u (by rw [s]; exact a) (VRs.mono m b)⟩
  unfold peG evG
  cases γ.kd with
  | all => exact A true
  | any => exact A false
  | lst =>
    cases h2 : γ.c2 with
    | nil =>
      unfold peL1 evL1
      refine (peI_snd K γ.c.it w O h penv env H r nI).bind fun xs wk w1 h1 o1 e1 H1 r1 => ?_
      refine (dest_ok (AR := ARl w1.S.length) (mk := .lst) (o := .lst []) (O := O) H1 (r.ext e1) (fun w2 a1 a2 a3 a4 a5 a6 => ?_) (fl _)).imp fun _ _ _ _ x => x.le e1.len
      rw [← a1]
      exact lc_snd (ARl _) (ARl.ext _) (Nat.le_refl _) (O := O) (fun w h penv env _ H r => peTs_snd K γ.c.ts w O h penv env H r.er nT) (fun acc w h penv env dw H r ar => elt_snd K nE acc w h penv env dw H r ar) xs FU 0 w2 h1 [] _ _ a2 a5 (a6.wipe _) ⟨[], by rw [a1]; simp, .nil⟩ (r1.1.mono a4) (fu r1.2)
    | cons c2 t =>
      cases t with
      | cons _ _ => exact .bad
      | nil =>
        rw [h2] at n2
        unfold peL2 evL2
        refine (peI_snd K γ.c.it w O h penv env H r nI).bind fun xs wk w1 h1 o1 e1 H1 r1 => ?_
        refine (dest_ok (AR := ARl w1.S.length) (mk := .lst) (o := .lst []) (O := O) H1 (r.ext e1) (fun w2 a1 a2 a3 a4 a5 a6 => ?_) (fl _)).imp fun _ _ _ _ x => x.le e1.len
        rw [← a1]
        refine lc_snd (ARl _) (ARl.ext _) (Nat.le_refl _) (O := O) (fun w h penv env _ H r => peTs_snd K γ.c.ts w O h penv env H r.er nT) (fun acc w h penv env dw H r ar => lc2_snd K (fun j m z => ?_) (Nat.le_refl _) acc w h penv env dw H r ar) xs FU 0 w2 h1 [] _ _ a2 a5 (a6.wipe _) ⟨[], by rw [a1]; simp, .nil⟩ (r1.1.mono a4) (fu r1.2)
        rcases List.mem_append.mp z with z | z
        · exact n2 j m (by simpa using z)
        · exact nE j m z
  | dct =>
    cases h2 : γ.c2 with
    | cons _ _ => exact .bad
    | nil =>
      unfold peD1 evD1
      refine (peI_snd K γ.c.it w O h penv env H r nI).bind fun xs wk w1 h1 o1 e1 H1 r1 => ?_
      refine (dest_ok (AR := ARd w1.S.length) (mk := .dic) (o := .dic []) (O := O) H1 (r.ext e1) (fun w2 a1 a2 a3 a4 a5 a6 => ?_) (fun w' acc ⟨ps, a, b⟩ => ⟨⟨_, ps, rfl, a, b⟩, fun w2 m s u => .dic' u (by rw [s]; exact a) (VRd.mono m b)⟩)).imp fun _ _ _ _ x => x.le e1.len
      rw [← a1]
      exact lc_snd (ARd _) (ARd.ext _) (Nat.le_refl _) (O := O) (fun w h penv env _ H r => peTs_snd K γ.c.ts w O h penv env H r.er nT) (fun acc w h penv env dw H r ar => eltk_snd K nEV acc w h penv env dw H r (Nat.le_refl _) ar) xs FU 0 w2 h1 [] _ _ a2 a5 (a6.wipe _) ⟨[], by rw [a1]; simp, .nil⟩ (r1.1.mono a4) (fu r1.2)
end
end PM

/-! PM, part F: statements; which names own what they hold. -/
namespace PM
open TM
def del (O l : List Nat) : List Nat := O.filter fun j => !l.contains j
def subl (a b : List Nat) : Bool := a.all fun j => b.contains j
mutual
def patN : Pat → List Nat
  | .nm i => [i]
  | .tup ps => patNs ps
def patNs : List Pat → List Nat
  | [] => []
  | p :: ps => patN p ++ patNs ps
end
def freshE : E → Bool
  | .lst _ => true
  | .bi .list [_] => true
  | .bi .sorted [_] => true
  | .slc _ _ _ => true
  | .bin _ _ _ => true
  | .gcall _ => true
  | .dnew => true
  | .sset _ => true
  | _ => false
def setO (p : Pat) (e : E) (O : List Nat) : List Nat := match p with
  | .nm m => if freshE e && m != 0 then m :: del O [m] else del O [m]
  | p => del O (patN p)
/-- what an expression at a statement's head does with the own names -/
def exO (ge : Nat → List Nat) (ow : Nat → Bool) (e : E) (O : List Nat) : Option (List Nat) := match mutE e with
  | some (_, i, as) => let O1 := del O (escEs ge as); if !ow i || O1.contains i then some O1 else none
  | none => some (del O (escE ge e))
def isVarE : E → Option Nat
  | .var m => some m
  | _ => none
/-- a name or not: what is handed on -/
def escV (ge : Nat → List Nat) (d : E) : List Nat := match isVarE d with
  | some _ => []
  | none => escE ge d
def okV (ow : Nat → Bool) (d : E) (O : List Nat) : Bool := match isVarE d with
  | some m => !ow m || O.contains m
  | none => true
mutual
def esS (ge : Nat → List Nat) : TM.S → List Nat
  | .set p e => escE ge e ++ (match p with
    | .nm m => if freshE e then [] else [m]
    | p => patN p)
  | .seti o i e => escE ge e ++ escE ge i
  | .setf o x cs e => escE ge e
  | .dset d k e => escE ge e ++ escE ge k ++ escV ge d
  | .aug i o e => escE ge e
  | .expr e => match mutE e with
    | some (_, _, as) => escEs ge as
    | none => escE ge e
  | .ret e => []
  | .ite t a b => escT ge t ++ esB ge a ++ esB ge b
  | .whl t b => escT ge t ++ esB ge b
  | .for p it b => escI ge it ++ patN p ++ esB ge b
  | _ => []
def esB (ge : Nat → List Nat) : List TM.S → List Nat
  | [] => []
  | s :: ss => esS ge s ++ esB ge ss
end
mutual
def chS (ge : Nat → List Nat) (ow : Nat → Bool) (L : Option (List Nat)) : TM.S → List Nat → Option (List Nat)
  | .never, O => some O
  | .pass, O => some O
  | .brk, O => match L with
    | some l => if subl l O then some O else none
    | none => none
  | .cnt, O => match L with
    | some l => if subl l O then some O else none
    | none => none
  | .set p e, O => match mutE e with
    | some _ => (exO ge ow e O).map fun O => del O (patN p)
    | none => some (setO p e (del O (escE ge e)))
  | .seti o i e, O => let O1 := del O (escE ge e ++ bor i (escE ge i)); if okV ow o O1 then some O1 else none
  | .setf o x cs e, O => let O1 := del O (escE ge e); if okV ow o O1 then some O1 else none
  | .dset d k e, O => let O1 := del O (escE ge e ++ escV ge d ++ bor k (escE ge k)); if okV ow d O1 then some O1 else none
  | .aug i o e, O => some (del O (bor e (escE ge e)))
  | .expr e, O => exO ge ow e O
  | .ret e, O => some (del O (escE ge e))
  | .retn, O => some O
  | .ite t a b, O => let O1 := del O (escT ge t); match chB ge ow L a O1, chB ge ow L b O1 with
    | some x, some y => some (x.filter fun j => y.contains j)
    | _, _ => none
  | .whl t b, O => let O1 := del (del O (escT ge t)) (esB ge b); match chB ge ow (some O1) b O1 with
    | some x => if subl O1 x then some O1 else none
    | none => none
  | .for p it b, O => let O1 := del (del O (escI ge it ++ patN p)) (esB ge b); match chB ge ow (some O1) b O1 with
    | some x => if subl O1 x then some O1 else none
    | none => none
def chB (ge : Nat → List Nat) (ow : Nat → Bool) (L : Option (List Nat)) : List TM.S → List Nat → Option (List Nat)
  | [], O => some O
  | s :: ss, O => match chS ge ow L s O with
    | some O => chB ge ow L ss O
    | none => none
end
theorem del_mem {O l : List Nat} {j : Nat} : j ∈ del O l ↔ j ∈ O ∧ j ∉ l := by
  simp [del]
theorem del_nin {O l : List Nat} : ∀ j ∈ del O l, j ∉ l := fun j h => (del_mem.mp h).2
theorem del_sub {O l : List Nat} : ∀ j ∈ del O l, j ∈ O := fun j h => (del_mem.mp h).1
theorem subl_mem {a b : List Nat} (h : subl a b = true) : ∀ j ∈ a, j ∈ b := fun j m => by
  have := List.all_eq_true.mp h j m
  simpa using this
/-- a name that owns: a plain value, or an object of this frame -/
def SO (base : Nat) (w : W) (q : Q) (p : PV) : Prop := (VR w q p ∧ ∀ i, p ≠ .obj i) ∨ ∃ i, p = .obj i ∧ base ≤ i ∧ ¬isRf w i ∧ BR w q p
structure FR (base : Nat) (Ow0 : Nat → Prop) (A : Nat) (w : W) (O : List Nat) (penv : QE) (env : Env) : Prop where
  len : penv.length = env.length
  get : ∀ (j : Nat) q, penv[j]? = some (some q) → ∃ p, env[j]? = some (some p) ∧ (j ∈ O → SO base w q p) ∧ (j ∉ O → VR w q p)
  own : ∀ i, w.Ow i ↔ Ow0 i ∨ ∃ j, j ∈ O ∧ env[j]? = some (some (.obj i))
  dst : ∀ (j j' : Nat) i, j ∈ O → j' ∈ O → env[j]? = some (some (.obj i)) → env[j']? = some (some (.obj i)) → j = j'
  anc : 0 ∈ O → env[0]? = some (some (.obj A))
  bas : base ≤ w.S.length
  old : ∀ i, Ow0 i → i < base
section
variable {base A : Nat} {Ow0 : Nat → Prop} {w : W} {h : QH} {O : List Nat} {penv : QE} {env : Env}
theorem SO.wr {q : Q} {p : PV} (s : SO base w q p) : VR w q p ∨ Own w q p := by
  rcases s with s | ⟨i, rfl, _, n, b⟩
  · exact .inl s.1
  · exact .inr ⟨b, i, rfl, n⟩
theorem SO.ext {w' : W} {q : Q} {p : PV} (s : SO base w q p) (m : Mn w w') (rf : ∀ i, i < w.S.length → isRf w' i → isRf w i) (k : ∀ i o, p = .obj i → ¬isRf w i → w.S[i]? = some o → w'.S[i]? = some o) : SO base w' q p := by
  rcases s with s | ⟨i, rfl, b, n, r⟩
  · exact .inl ⟨s.1.mono m, s.2⟩
  · exact .inr ⟨i, rfl, b, fun z => n (rf i r.lt z), r.ext m fun j o ej g => k j o ej (by cases ej; exact n) g⟩
theorem BR.vr {i : Nat} {q : Q} (b : BR w q (.obj i)) (u : ¬Lock w i) : VR w q (.obj i) := by
  rcases obj_S b with ⟨qs, ps, rfl, g, r⟩ | ⟨qs, ps, rfl, g, r⟩ | ⟨c, qs, ps, rfl, g, r⟩
  · exact .lst' u g r
  · exact .dic' u g r
  · exact .ins' u g r
theorem FR.er (r : FR base Ow0 A w O penv env) : ER w O penv env :=
  ⟨r.len, fun j q e => by
    obtain ⟨p, a, b, c⟩ := r.get j q e
    by_cases m : j ∈ O
    · exact ⟨p, a, (b m).wr.imp id fun x => ⟨m, x⟩⟩
    · exact ⟨p, a, .inl (c m)⟩⟩
theorem FR.ext {w' : W} (r : FR base Ow0 A w O penv env) (e : Ext w.S.length w w') (o : w'.Ow = w.Ow) : FR base Ow0 A w' O penv env :=
  ⟨r.len, fun j q g => by
    obtain ⟨p, a, b, c⟩ := r.get j q g
    exact ⟨p, a, fun m => (b m).ext e.mn (fun i l z => e.rf l z) (fun i o ei n g => e.keep i o g (.inl ⟨lt_of_get g, n⟩)), fun m => (c m).mono e.mn⟩, by rw [o]; exact r.own, r.dst, r.anc, Nat.le_trans r.bas e.len, r.old⟩
/-- fewer names own -/
theorem FR.frz (r : FR base Ow0 A w O penv env) (H : HR w h) {O2 : List Nat} (s : ∀ j ∈ O2, j ∈ O) : ∃ w2 : W, w2.S = w.S ∧ FR base Ow0 A w2 O2 penv env ∧ HR w2 h ∧ Ext base w w2 := by
  have sub : ∀ i, (Ow0 i ∨ ∃ j, j ∈ O2 ∧ env[j]? = some (some (.obj i))) → w.Ow i := fun i z => (r.own i).mpr (z.imp id fun ⟨j, a, b⟩ => ⟨j, s j a, b⟩)
  have mn : Mn w ⟨w.S, fun i => Ow0 i ∨ ∃ j, j ∈ O2 ∧ env[j]? = some (some (.obj i)), w.io, w.nh⟩ := ⟨fun i o u g => ⟨fun z => u (z.imp (sub i) id), g⟩, fun _ _ => rfl, Nat.le_refl _⟩
  refine ⟨⟨w.S, fun i => Ow0 i ∨ ∃ j, j ∈ O2 ∧ env[j]? = some (some (.obj i)), w.io, w.nh⟩, rfl, ⟨r.len, fun j q g => ?_, fun i => Iff.rfl, fun j j' i a b => r.dst j j' i (s j a) (s j' b), fun z => r.anc (s 0 z), r.bas, r.old⟩, H.later mn rfl (fun _ _ _ g => g) (fun i z => H.rng i (z.imp (sub i) id)) fun k a z => H.dis k a (sub _ z), ⟨Nat.le_refl _, fun _ _ => rfl, Nat.le_refl _, fun k a b => absurd b (Nat.not_lt.mpr a), fun i z => .inl (sub i z), fun i o g _ => g⟩⟩
  obtain ⟨p, a, b, c⟩ := r.get j q g
  refine ⟨p, a, fun m => (b (s j m)).ext mn (fun i _ z => z) (fun i o _ _ g => g), fun m => ?_⟩
  by_cases mo : j ∈ O
  · rcases b mo with b | ⟨i, rfl, b1, b2, b3⟩
    · exact b.1.mono mn
    · refine BR.vr (b3.ext mn fun _ _ _ g => g) fun z => ?_
      rcases z with (z | ⟨j', z1, z2⟩) | z
      · have := r.old i z; omega
      · have := r.dst j' j i (s j' z1) mo z2 a
        exact m (this ▸ z1)
      · exact b2 z
  · exact (c mo).mono mn
theorem FR.set1 (r : FR base Ow0 A w O penv env) {q : Q} {p : PV} (v : VR w q p) {i : Nat} (n : i ∉ O) : FR base Ow0 A w O (penv.set i (some q)) (env.set i (some p)) := by
  have ne : ∀ j, j ∈ O → (env.set i (some p))[j]? = env[j]? := fun j m => List.getElem?_set_ne (fun z => n (by rw [z]; exact m))
  refine ⟨by simp [r.len], fun j x g => ?_, fun k => ?_, fun j j' k a b => by rw [ne j a, ne j' b]; exact r.dst j j' k a b, fun z => by rw [ne 0 z]; exact r.anc z, r.bas, r.old⟩
  · by_cases c : i = j
    · subst c
      have l : i < penv.length := by have := lt_of_get g; simpa using this
      rw [List.getElem?_set_self l] at g
      cases g
      exact ⟨p, by rw [List.getElem?_set_self (by rw [← r.len]; exact l)], fun m => absurd m n, fun _ => v⟩
    · rw [List.getElem?_set_ne c] at g ⊢
      exact r.get j x g
  · rw [r.own k]
    constructor
    · rintro (z | ⟨j, a, b⟩)
      · exact .inl z
      · exact .inr ⟨j, a, by rw [ne j a]; exact b⟩
    · rintro (z | ⟨j, a, b⟩)
      · exact .inl z
      · exact .inr ⟨j, a, by rw [ne j a] at b; exact b⟩
mutual
theorem FR.bind : ∀ (pt : Pat) {penv penv' : QE} {env : Env} {q : Q} {p : PV}, FR base Ow0 A w O penv env → VR w q p → (∀ j ∈ O, j ∉ patN pt) → bindQ pt q penv = some penv' → ∃ env', bindP pt p env = some env' ∧ FR base Ow0 A w O penv' env'
  | .nm i, penv, penv', env, q, p, r, v, n, e => by
    rw [bindQ] at e
    split at e
    · rename_i l
      cases e
      exact ⟨_, by rw [bindP, if_pos (by rw [← r.len]; exact l)], r.set1 v fun z => n i z (by simp [patN])⟩
    · cases e
  | .tup pts, penv, penv', env, q, p, r, v, n, e => by
    cases v with
    | tup l m =>
      rw [bindQ] at e
      obtain ⟨env', a, b⟩ := FR.binds pts r (.of_ix l m) (by rw [patN] at n; exact n) e
      exact ⟨env', by rw [bindP]; exact a, b⟩
    | _ => simp [bindQ] at e
theorem FR.binds : ∀ (pts : List Pat) {penv penv' : QE} {env : Env} {qs : List Q} {ps : List PV}, FR base Ow0 A w O penv env → VRs w qs ps → (∀ j ∈ O, j ∉ patNs pts) → bindQs pts qs penv = some penv' → ∃ env', bindPs pts ps env = some env' ∧ FR base Ow0 A w O penv' env'
  | [], penv, penv', env, qs, ps, r, v, n, e => by
    cases v with
    | nil => rw [bindQs] at e; cases e; exact ⟨env, by rw [bindPs], r⟩
    | cons _ _ => simp [bindQs] at e
  | pt :: pts, penv, penv', env, qs, ps, r, v, n, e => by
    cases v with
    | nil => simp [bindQs] at e
    | cons v1 v2 =>
      rw [patNs] at n
      rw [bindQs] at e
      split at e
      · rename_i penv1 h1
        obtain ⟨env1, a, b⟩ := FR.bind pt r v1 (nin_l n) h1
        obtain ⟨env2, a2, b2⟩ := FR.binds pts b v2 (nin_r n) e
        exact ⟨env2, by rw [bindPs, a]; exact a2, b2⟩
      · cases e
end
/-- a fresh object to a name -/
theorem FR.own1 (r : FR base Ow0 A w O penv env) (H : HR w h) {w3 : W} {h3 : QH} (e : Ext w.S.length w w3) (o : w3.Ow = w.Ow) (H3 : HR w3 h3) {q : Q} {p : PV} (v : RN w.S.length w3 h3 q p) {m : Nat} (m0 : m ≠ 0) (n : m ∉ O) (lm : m < env.length) :
    ∃ w4 : W, w4.S = w3.S ∧ Ext base w w4 ∧ HR w4 h3 ∧ FR base Ow0 A w4 (m :: O) (penv.set m (some q)) (env.set m (some p)) := by
  have r3 := r.ext e o
  have ne : ∀ j, j ∈ O → (env.set m (some p))[j]? = env[j]? := fun j z => List.getElem?_set_ne (fun y => n (by rw [y]; exact z))
  -- the common part
  have key : ∀ w4 : W, w4.S = w3.S → w4.io = w3.io → w4.nh = w3.nh → (∀ i, w4.Ow i ↔ w.Ow i ∨ p = .obj i) → HR w4 h3 → (VR w4 q p ∧ (∀ i, p ≠ .obj i) ∨ ∃ i, p = .obj i ∧ w.S.length ≤ i ∧ ¬isRf w4 i ∧ BR w4 q p) → ∃ w4 : W, w4.S = w3.S ∧ Ext base w w4 ∧ HR w4 h3 ∧ FR base Ow0 A w4 (m :: O) (penv.set m (some q)) (env.set m (some p)) := by
    intro w4 hS hio hnh hOw H4 hs
    have new : ∀ i, p = .obj i → w.S.length ≤ i := fun i ei => (v.2 i ei).1
    have rf : ∀ i, i < w.S.length → isRf w4 i → isRf w i := fun i l ⟨k, a, b⟩ => e.rf l ⟨k, by rw [← hnh]; exact a, by rw [← hio]; exact b⟩
    have x4 : Ext base w w4 := by
      refine ⟨by rw [hS]; exact e.len, fun k a => by rw [hio]; exact e.io k a, by rw [hnh]; exact e.nh, fun k a b => by rw [hio]; exact e.new k a (by rw [← hnh]; exact b), fun i z => ?_, fun i u g c => ?_⟩
      · rcases (hOw i).mp z with z | z
        · exact .inl z
        · exact .inr (new i z)
      · rw [hS]
        refine e.keep i u g ?_
        rcases c with ⟨_, c⟩ | c
        · exact .inl ⟨lt_of_get g, c⟩
        · exact .inr c
    refine ⟨w4, hS, x4, H4, ⟨by simp [r.len], fun j x g => ?_, fun k => ?_, fun j j' k a b c d => ?_, fun z => ?_, by rw [hS]; exact Nat.le_trans r.bas e.len, r.old⟩⟩
    · by_cases c : m = j
      · subst c
        have l : m < penv.length := by have := lt_of_get g; simpa using this
        rw [List.getElem?_set_self l] at g
        cases g
        refine ⟨p, by rw [List.getElem?_set_self (by rw [← r.len]; exact l)], fun _ => ?_, fun z => absurd (by simp) z⟩
        rcases hs with hs | ⟨i, rfl, a, b, c⟩
        · exact .inl hs
        · exact .inr ⟨i, rfl, Nat.le_trans r.bas a, b, c⟩
      · rw [List.getElem?_set_ne c] at g ⊢
        obtain ⟨p', a, b, d⟩ := r.get j x g
        refine ⟨p', a, fun z => ?_, fun z => (d fun y => z (by simp [y])).mono x4.mn⟩
        rcases List.mem_cons.mp z with z | z
        · exact absurd z.symm c
        · refine (b z).ext x4.mn rf fun i u ei nr g => ?_
          rw [hS]
          exact e.keep i u g (.inl ⟨lt_of_get g, nr⟩)
    · rw [hOw k, r.own k]
      constructor
      · rintro ((z | ⟨j, a, b⟩) | z)
        · exact .inl z
        · exact .inr ⟨j, by simp [a], by rw [ne j a]; exact b⟩
        · exact .inr ⟨m, by simp, by rw [List.getElem?_set_self lm, z]⟩
      · rintro (z | ⟨j, a, b⟩)
        · exact .inl (.inl z)
        · rcases List.mem_cons.mp a with a | a
          · subst a
            have l : j < env.length := by have := lt_of_get b; simpa using this
            rw [List.getElem?_set_self l] at b
            cases b
            exact .inr rfl
          · rw [ne j a] at b
            exact .inl (.inr ⟨j, a, b⟩)
    · have own : ∀ j, j ∈ O → env[j]? = some (some (.obj k)) → k < w.S.length := fun j z y => H.rng k (.inl ((r.own k).mpr (.inr ⟨j, z, y⟩)))
      have isp : (env.set m (some p))[m]? = some (some (.obj k)) → w.S.length ≤ k := fun y => by
        have l : m < env.length := by have := lt_of_get y; simpa using this
        rw [List.getElem?_set_self l] at y
        cases y
        exact new k rfl
      rcases List.mem_cons.mp a with a1 | a1 <;> rcases List.mem_cons.mp b with b1 | b1
      · rw [a1, b1]
      · rw [a1] at c
        rw [ne j' b1] at d
        have := own j' b1 d
        have := isp c
        omega
      · rw [b1] at d
        rw [ne j a1] at c
        have := own j a1 c
        have := isp d
        omega
      · rw [ne j a1] at c
        rw [ne j' b1] at d
        exact r.dst j j' k a1 b1 c d
    · rcases List.mem_cons.mp z with z | z
      · exact absurd z.symm m0
      · rw [ne 0 z]; exact r.anc z
  by_cases hp : ∃ i, p = .obj i
  · obtain ⟨i, rfl⟩ := hp
    obtain ⟨v1, v2, v3⟩ := v.2 i rfl
    refine key (lockW w3 i) rfl rfl rfl (fun k => ?_) v3 (.inr ⟨i, rfl, v1, fun z => ?_, v2⟩)
    · show w3.Ow k ∨ k = i ↔ _
      rw [o]
      exact or_congr Iff.rfl ⟨fun z => by rw [z], fun z => by cases z; rfl⟩
    · obtain ⟨k, a, b⟩ := z
      exact v3.dis k a (.inr b)
  · have np : ∀ i, p ≠ .obj i := fun i z => hp ⟨i, z⟩
    refine key w3 rfl rfl rfl (fun k => ?_) H3 (.inl ⟨v.1, np⟩)
    rw [o]
    exact ⟨.inl, fun z => z.elim id fun y => absurd y (np k)⟩
/-- an own object changed -/
theorem FR.mut (r : FR base Ow0 A w O penv env) (H : HR w h) {m i : Nat} (mo : m ∈ O) {q0 : Q} (hq : penv[m]? = some (some q0)) (he : env[m]? = some (some (.obj i))) {q : Q} {o : TM.PO}
    (b : ∀ w' : W, Mn w w' → w'.S[i]? = some o → BR w' q (.obj i)) : ∃ w' : W, w'.S = w.S.set i o ∧ Ext base w w' ∧ HR w' h ∧ FR base Ow0 A w' O (penv.set m (some q)) env := by
  have oi : w.Ow i := (r.own i).mpr (.inr ⟨m, mo, he⟩)
  have li : i < w.S.length := H.rng i (.inl oi)
  have nr : ¬isRf w i := fun ⟨k, a, c⟩ => H.dis k a (by rw [c]; exact oi)
  have bi : base ≤ i := by
    obtain ⟨p, a, c, d⟩ := r.get m q0 hq
    rw [he] at a
    cases a
    rcases c mo with c | ⟨j, ej, c, _⟩
    · exact absurd rfl (c.2 i)
    · cases ej; exact c
  have ne : ∀ k : Nat, k ≠ i → (w.S.set i o)[k]? = w.S[k]? := fun k z => List.getElem?_set_ne (fun y => z y.symm)
  have mn : Mn w ⟨w.S.set i o, w.Ow, w.io, w.nh⟩ := ⟨fun k u hu g => ⟨hu, by show (w.S.set i o)[k]? = _; rw [ne k (fun z => hu (.inl (by rw [z]; exact oi)))]; exact g⟩, fun _ _ => rfl, Nat.le_refl _⟩
  refine ⟨⟨w.S.set i o, w.Ow, w.io, w.nh⟩, rfl, ⟨by simp, fun _ _ => rfl, Nat.le_refl _, fun k a b => absurd b (Nat.not_lt.mpr a), fun _ z => .inl z, fun k u g c => ?_⟩, H.later mn rfl (fun k a u g => ?_) (fun k z => ?_) H.dis, ⟨by simp [r.len], fun j x g => ?_, r.own, r.dst, r.anc, by simpa using r.bas, r.old⟩⟩
  · show (w.S.set i o)[k]? = _
    rw [ne k (fun z => ?_)]
    · exact g
    · rcases c with c | c
      · omega
      · exact c (.inl (by rw [z]; exact oi))
  · show (w.S.set i o)[w.io k]? = _
    rw [ne _ (fun z => nr ⟨k, a, z⟩)]; exact g
  · have := H.rng k z
    simpa using this
  · by_cases c : m = j
    · subst c
      have l : m < penv.length := by have := lt_of_get g; simpa using this
      rw [List.getElem?_set_self l] at g
      cases g
      refine ⟨.obj i, he, fun _ => .inr ⟨i, rfl, bi, nr, b _ mn ?_⟩, fun z => absurd mo z⟩
      show (w.S.set i o)[i]? = _
      rw [List.getElem?_set_self li]
    · rw [List.getElem?_set_ne c] at g
      obtain ⟨p, a, b1, b2⟩ := r.get j x g
      refine ⟨p, a, fun z => (b1 z).ext mn (fun _ _ z => z) fun k u ek _ g => ?_, fun z => (b2 z).mono mn⟩
      show (w.S.set i o)[k]? = _
      rw [ne k (fun y => ?_)]
      · exact g
      · subst y
        subst ek
        exact c (r.dst m j k mo z he a)
/-- a plain value to a name that owns or not -/
theorem FR.flat (r : FR base Ow0 A w O penv env) {m : Nat} {p0 p : PV} {q : Q} (he : env[m]? = some (some p0)) (n0 : ∀ i, p0 ≠ .obj i) (v : VR w q p) (n : ∀ i, p ≠ .obj i) : FR base Ow0 A w O (penv.set m (some q)) (env.set m (some p)) := by
  have lm := lt_of_get he
  have ob : ∀ (j k : Nat), (env.set m (some p))[j]? = some (some (.obj k)) ↔ env[j]? = some (some (.obj k)) := fun j k => by
    by_cases c : m = j
    · subst c
      rw [List.getElem?_set_self lm, he]
      exact ⟨fun z => by cases z; exact absurd rfl (n k), fun z => by cases z; exact absurd rfl (n0 k)⟩
    · rw [List.getElem?_set_ne c]
  refine ⟨by simp [r.len], fun j x g => ?_, fun k => ?_, fun j j' k a b => by rw [ob, ob]; exact r.dst j j' k a b, fun z => by rw [ob]; exact r.anc z, r.bas, r.old⟩
  · by_cases c : m = j
    · subst c
      have l : m < penv.length := by have := lt_of_get g; simpa using this
      rw [List.getElem?_set_self l] at g
      cases g
      exact ⟨p, by rw [List.getElem?_set_self lm], fun _ => .inl ⟨v, n⟩, fun _ => v⟩
    · rw [List.getElem?_set_ne c] at g ⊢
      exact r.get j x g
  · rw [r.own k]
    exact or_congr Iff.rfl ⟨fun ⟨j, a, b⟩ => ⟨j, a, (ob j k).mpr b⟩, fun ⟨j, a, b⟩ => ⟨j, a, (ob j k).mp b⟩⟩
/-- a ref's object changed -/
theorem HR.mut (H : HR w h) {k : Nat} {old : Q} (hk : h[k]? = some old) {q : Q} {o : TM.PO} (b : ∀ w' : W, Mn w w' → w'.S[w.io k]? = some o → BR w' q (.obj (w.io k))) :
    Ext w.S.length w ⟨w.S.set (w.io k) o, w.Ow, w.io, (h.set k q).length⟩ ∧ HR ⟨w.S.set (w.io k) o, w.Ow, w.io, (h.set k q).length⟩ (h.set k q) := by
  have kl : k < h.length := lt_of_get hk
  have kn : k < w.nh := by rw [H.nh]; exact kl
  have hl : (h.set k q).length = w.nh := by rw [List.length_set, H.nh]
  rw [hl]
  have ne : ∀ j : Nat, j ≠ w.io k → (w.S.set (w.io k) o)[j]? = w.S[j]? := fun j z => List.getElem?_set_ne (fun y => z y.symm)
  have mn : Mn w ⟨w.S.set (w.io k) o, w.Ow, w.io, w.nh⟩ := ⟨fun i u hu g => ⟨hu, by show (w.S.set (w.io k) o)[i]? = _; rw [ne i (fun z => hu (.inr ⟨k, kn, z.symm⟩))]; exact g⟩, fun _ _ => rfl, Nat.le_refl _⟩
  refine ⟨⟨by simp, fun _ _ => rfl, Nat.le_refl _, fun k a b => absurd b (Nat.not_lt.mpr a), fun _ z => .inl z, fun i u g c => ?_⟩, ⟨by rw [hl], fun r u g => ?_, H.inj, fun i z => by have := H.rng i z; simpa using this, H.dis⟩⟩
  · show (w.S.set (w.io k) o)[i]? = _
    rw [ne i (fun z => ?_)]
    · exact g
    · have rf : isRf w i := ⟨k, kn, z.symm⟩
      rcases c with ⟨_, c⟩ | c
      · exact c rf
      · exact c (.inr rf)
  · by_cases c : r = k
    · subst c
      rw [List.getElem?_set_self kl] at g
      cases g
      refine b _ mn ?_
      show (w.S.set (w.io r) o)[w.io r]? = _
      rw [List.getElem?_set_self (H.rng _ (.inr ⟨r, kn, rfl⟩))]
    · rw [List.getElem?_set_ne (fun z => c z.symm)] at g
      refine (H.obj r u g).ext mn fun i o' ei g' => ?_
      cases ei
      show (w.S.set (w.io k) o)[w.io r]? = _
      rw [ne _ (fun z => c (H.inj r k (by rw [H.nh]; exact lt_of_get g) kn z))]
      exact g'
end
end PM

/-! PM, part G: statements are sound. -/
namespace PM
open TM
/-- how a run of statements stands to the other machine's -/
def SR (base : Nat) (Ow0 : Nat → Prop) (A : Nat) (w : W) (ON OL : List Nat) (x : PM.PO) (y : Out) : Prop := match x with
  | .nx penv h => ∃ env w', y = .nx env w'.S ∧ Ext base w w' ∧ HR w' h ∧ FR base Ow0 A w' ON penv env
  | .brk penv h => ∃ env w', y = .brk env w'.S ∧ Ext base w w' ∧ HR w' h ∧ FR base Ow0 A w' OL penv env
  | .cnt penv h => ∃ env w', y = .cnt env w'.S ∧ Ext base w w' ∧ HR w' h ∧ FR base Ow0 A w' OL penv env
  | .ret q h => ∃ p w', y = .ret p w'.S ∧ Ext base w w' ∧ HR w' h ∧ w'.Ow = Ow0 ∧ VR w' q p
  | .bad => True
section
variable {base A : Nat} {Ow0 : Nat → Prop} {w : W} {h : QH} {O ON OL : List Nat} {penv : QE} {env : Env}
theorem SR.pre {w1 : W} {x : PM.PO} {y : Out} (s : SR base Ow0 A w1 ON OL x y) (e : Ext base w w1) : SR base Ow0 A w ON OL x y := by
  cases x with
  | bad => trivial
  | nx _ _ => obtain ⟨env, w', a, b, c⟩ := s; exact ⟨env, w', a, e.trans b (Nat.le_refl _), c⟩
  | brk _ _ => obtain ⟨env, w', a, b, c⟩ := s; exact ⟨env, w', a, e.trans b (Nat.le_refl _), c⟩
  | cnt _ _ => obtain ⟨env, w', a, b, c⟩ := s; exact ⟨env, w', a, e.trans b (Nat.le_refl _), c⟩
  | ret _ _ => obtain ⟨p, w', a, b, c⟩ := s; exact ⟨p, w', a, e.trans b (Nat.le_refl _), c⟩
theorem SR.sub {ON2 : List Nat} {x : PM.PO} {y : Out} (s : SR base Ow0 A w ON OL x y) (l : ∀ j ∈ ON2, j ∈ ON) : SR base Ow0 A w ON2 OL x y := by
  cases x with
  | bad => trivial
  | nx _ _ =>
    obtain ⟨env, w', a, b, c, d⟩ := s
    obtain ⟨w2, e1, e2, e3, e4⟩ := d.frz c l
    exact ⟨env, w2, by rw [e1]; exact a, b.trans e4 (Nat.le_refl _), e3, e2⟩
  | brk _ _ => exact s
  | cnt _ _ => exact s
  | ret _ _ => exact s
theorem Snd.out {a b : Type} {R : W → QH → a → b → Prop} {x : PR a} {y : Res b} {f : a → QH → PM.PO} {g : b → Sto → Out} (s : Snd w h R x y) (hb : base ≤ w.S.length)
    (k : ∀ q p (w1 : W) h1, w1.Ow = w.Ow → Ext w.S.length w w1 → HR w1 h1 → R w1 h1 q p → SR base Ow0 A w1 ON OL (f q h1) (g p w1.S)) : SR base Ow0 A w ON OL (x.out f) (y.out g) := by
  cases x with
  | bad => trivial
  | ok q1 h1 =>
    obtain ⟨p, S1, io1, e1, e2, e3, e4⟩ := s q1 h1 rfl
    have := k q1 p ⟨S1, w.Ow, io1, h1.length⟩ h1 rfl e2 e3 e4
    rw [e1]
    exact this.pre (e2.weak hb)
theorem SR.seq {x : PM.PO} {y : Out} {f : QE → QH → PM.PO} {g : Env → Sto → Out} {O1 : List Nat} (s : SR base Ow0 A w O1 OL x y)
    (k : ∀ penv env (w1 : W) h1, HR w1 h1 → FR base Ow0 A w1 O1 penv env → SR base Ow0 A w1 ON OL (f penv h1) (g env w1.S)) : SR base Ow0 A w ON OL (x.seq f) (y.seq g) := by
  cases x with
  | bad => trivial
  | nx _ _ => obtain ⟨env, w', rfl, b, c, d⟩ := s; exact (k _ _ w' _ c d).pre b
  | brk _ _ => obtain ⟨env, w', rfl, b, c⟩ := s; exact ⟨env, w', rfl, b, c⟩
  | cnt _ _ => obtain ⟨env, w', rfl, b, c⟩ := s; exact ⟨env, w', rfl, b, c⟩
  | ret _ _ => obtain ⟨p, w', rfl, b, c⟩ := s; exact ⟨p, w', rfl, b, c⟩
/-- an expression after names have been let go -/
theorem FR.go {a b : Type} {R : W → QH → a → b → Prop} {x : PR a} {f : a → QH → PM.PO} {y : Sto → Res b} {g : b → Sto → Out} (r : FR base Ow0 A w O penv env) (H : HR w h) (l : List Nat)
    (s : ∀ w2 : W, HR w2 h → FR base Ow0 A w2 (del O l) penv env → Snd w2 h R x (y w2.S))
    (k : ∀ q p (w2 w1 : W) h1, HR w2 h → FR base Ow0 A w2 (del O l) penv env → w1.Ow = w2.Ow → Ext w2.S.length w2 w1 → HR w1 h1 → R w1 h1 q p → FR base Ow0 A w1 (del O l) penv env → SR base Ow0 A w1 ON OL (f q h1) (g p w1.S)) : SR base Ow0 A w ON OL (x.out f) ((y w.S).out g) := by
  obtain ⟨w2, e1, e2, e3, e4⟩ := r.frz H (O2 := del O l) del_sub
  rw [← e1]
  refine (Snd.out (s w2 e3 e2) e2.bas fun q p w1 h1 o1 x1 H1 r1 => k q p w2 w1 h1 e3 e2 o1 x1 H1 r1 (e2.ext x1 o1)).pre e4
end
/-- what of a fresh expression comes is new -/
theorem fresh_snd {C : PC} {D : Ctx} {ge : Nat → List Nat} (K : CS C D ge) (a : E) (hf : freshE a = true) (w : W) (O : List Nat) (h : QH) (penv : QE) (env : Env) (H : HR w h) (r : ER w O penv env) (n : ∀ j ∈ O, j ∉ escE ge a) : Snd w h (RN w.S.length) (pe C a penv h) (ev D a env w.S) := by
  cases a <;> simp only [freshE, Bool.false_eq_true] at hf
  case lst as =>
    rw [pe, ev]
    refine (pes_snd K as w O h penv env H r n).bind fun q p w1 h1 o1 e1 H1 r1 => ?_
    split
    · rename_i l
      rw [if_pos (by rw [← R2.len r1]; exact l)]
      exact (new_lst H1 r1).imp fun _ _ _ _ x => x.le e1.len
    · exact .bad
  case bi b as =>
    rw [pe, ev]
    refine (pws_snd K as w O h penv env H r n).bind fun q p w1 h1 o1 e1 H1 r1 => ?_
    exact (bi_ok H1 r1).imp fun _ _ _ _ x => x.le e1.len
  case slc a lo hi =>
    rw [pe, ev]
    refine (SE.bor (pe_snd K a) H r (nin_l (nin_l n))).bind fun q p w1 h1 o1 e1 H1 r1 => ?_
    refine (peO_snd K lo w1 O h1 penv env H1 (r.ext e1) (nin_r (nin_l n))).bind fun q2 p2 w2 h2 o2 e2 H2 r2 => ?_
    refine (peO_snd K hi w2 O h2 penv env H2 ((r.ext e1).ext e2) (nin_r n)).bind fun q3 p3 w3 h3 o3 e3 H3 r3 => ?_
    cases r2
    cases r3
    exact (cut_ok H3 ((r1.ext e2).ext e3)).imp fun _ _ _ _ x => x.le (Nat.le_trans e1.len (Nat.le_trans e2.len e3.len))
  case bin o a b =>
    rw [pe, ev]
    refine (SE.bor (pe_snd K a) H r (nin_l n)).bind fun q p w1 h1 o1 e1 H1 r1 => ?_
    refine (SE.bor (pe_snd K b) H1 (r.ext e1) (nin_r n)).bind fun q2 p2 w2 h2 o2 e2 H2 r2 => ?_
    exact (bin_ok H2 o (r1.ext e2) r2).imp fun _ _ _ _ x => x.le (Nat.le_trans e1.len e2.len)
  case gcall g =>
    rw [pe, ev]
    exact K.gf g w O h penv env H r n
  case dnew =>
    rw [pe, ev]
    exact new_dic H .nil
  case sset a =>
    rw [pe, ev]
    refine (SE.bor (pe_snd K a) H r n).bind fun q p w1 h1 o1 e1 H1 r1 => ?_
    cases ht : txtsQ h1 q with
    | none => exact .bad
    | some ys =>
      simp only [ssetV, txts_ok H1 r1 ht]
      split
      · exact (strs_new H1 _).imp fun _ _ _ _ x => x.le e1.len
      · exact .bad
section
variable {C : PC} {D : Ctx} {ge : Nat → List Nat}
variable {base A : Nat} {Ow0 : Nat → Prop} {w : W} {h : QH} {O ON OL : List Nat} {penv : QE} {env : Env}
/-- an expression at a statement's head -/
theorem pexpr_snd (K : CS C D ge) {e : E} {O O1 : List Nat} {f : Q → QE → QH → PM.PO} {g : PV → Sto → Out} (hx : exO ge C.own e O = some O1) (r : FR base Ow0 A w O penv env) (H : HR w h)
    (k : ∀ q p (w1 : W) h1 penv1, HR w1 h1 → VR w1 q p → FR base Ow0 A w1 O1 penv1 env → SR base Ow0 A w1 ON OL (f q penv1 h1) (g p w1.S)) : SR base Ow0 A w ON OL (pexpr C e penv h f) ((ev D e env w.S).out g) := by
  unfold pexpr
  cases hm : mutE e with
  | none =>
    simp only [exO, hm, Option.some.injEq] at hx
    subst hx
    exact r.go H (escE ge e) (R := RV) (y := fun S => ev D e env S) (fun w2 H2 r2 => pe_snd K e w2 _ h penv env H2 r2.er del_nin) fun q p w2 w1 h1 _ _ _ _ H1 v r1 => k q p w1 h1 penv H1 v r1
  | some t =>
    obtain ⟨m, i, as⟩ := t
    have he : e = .me m (.var i) as ∧ isM m = true := by
      cases e <;> simp only [mutE, reduceCtorEq] at hm
      rename_i m' o as'
      cases o <;> simp only [reduceCtorEq] at hm
      split at hm
      · cases hm; exact ⟨rfl, by assumption⟩
      · cases hm
    obtain ⟨rfl, hM⟩ := he
    simp only [exO, hm] at hx
    have hc : (!C.own i || (del O (escEs ge as)).contains i) = true ∧ del O (escEs ge as) = O1 := by
      split at hx
      · cases hx; exact ⟨by assumption, rfl⟩
      · cases hx
    obtain ⟨hc, rfl⟩ := hc
    simp only
    cases hR : isRefQ penv i with
    | true =>
      simp only [if_true]
      have es : escE ge (.me m (.var i) as) = escEs ge as := by simp [escE, bor, isV, hM]
      exact r.go H (escEs ge as) (R := RV) (y := fun S => ev D (.me m (.var i) as) env S) (fun w2 H2 r2 => pe_snd K _ w2 _ h penv env H2 r2.er (by rw [es]; exact del_nin)) fun q p w2 w1 h1 _ _ _ _ H1 v r1 => k q p w1 h1 penv H1 v r1
    | false =>
      simp only [Bool.false_eq_true, if_false]
      unfold pmut
      by_cases ho : C.own i = true
      · rw [if_pos ho]
        rw [ho] at hc
        have io : i ∈ del O (escEs ge as) := by simpa using hc
        cases hq : penv[i]? with
        | none => trivial
        | some o =>
          cases o with
          | none => trivial
          | some q0 =>
            cases q0 <;> try trivial
            rename_i xs
            simp only
            obtain ⟨w2, e1, e2, e3, e4⟩ := r.frz H (O2 := del O (escEs ge as)) del_sub
            obtain ⟨p0, g1, g2, _⟩ := e2.get i _ hq
            rcases g2 io with g2 | ⟨a, rfl, b1, b2, b3⟩
            · obtain ⟨v, n⟩ := g2
              cases v
              exact absurd rfl (n _)
            · obtain ⟨a', xp0, ea, gx0, rx0⟩ := b3
              cases ea
              rw [ev, ev, g1, ← e1]
              simp only [Res.bind_ok, TM.mty, gx0]
              cases hp : pes C as penv h with
              | bad => trivial
              | ok qs h1 =>
                obtain ⟨ps, S1, io1, t1, t2, t3, t4⟩ := pes_snd K as w2 _ h penv env e3 e2.er del_nin qs h1 hp
                simp only [PR.out_ok]
                cases hmm : meM m xs qs with
                | none => trivial
                | some t =>
                  obtain ⟨y, ys⟩ := t
                  have r3 := e2.ext t2 rfl
                  obtain ⟨p3, g3, g4, _⟩ := r3.get i _ hq
                  rw [g1] at g3
                  cases g3
                  have gx : S1[a]? = some (.lst xp0) := t2.keep a _ gx0 (.inl ⟨lt_of_get gx0, b2⟩)
                  obtain ⟨yp, ysp, m1, m2, m3, m4⟩ := meM_ok (w := ⟨S1, w2.Ow, io1, h1.length⟩) gx (VRs.mono t2.mn rx0) t4 hmm
                  rw [m1]
                  simp only [if_true, t1, Res.bind_ok]
                  simp only at m2
                  rw [m2]
                  simp only [Res.out_ok]
                  obtain ⟨w4, f1, f2, f3, f4⟩ := r3.mut t3 io hq g1 (q := .lst ys) (o := .lst ysp) fun w' mn g => ⟨a, ysp, rfl, g, VRs.mono mn m4⟩
                  have := k y yp w4 h1 _ f3 (m3.mono f2.mn) f4
                  rw [f1] at this
                  exact (this.pre f2).pre (((t2.weak e2.bas).trans .refl (Nat.le_refl _))) |>.pre e4
      · rw [if_neg ho]; trivial
end
end PM

/-! PM, part H: all statements, calls. -/
namespace PM
open TM
section
variable {C : PC} {D : Ctx} {ge : Nat → List Nat}
variable {base A : Nat} {Ow0 : Nat → Prop} {w : W} {h : QH} {O ON OL : List Nat} {penv : QE} {env : Env}
/-- what a name holds -/
theorem FR.at (r : FR base Ow0 A w O penv env) {m : Nat} {q : Q} (hq : penv[m]? = some (some q)) : ∃ p, env[m]? = some (some p) ∧ (m ∈ O → SO base w q p) ∧ (m ∉ O → VR w q p) := r.get m q hq
theorem FR.nx (r : FR base Ow0 A w O penv env) (H : HR w h) : SR base Ow0 A w O OL (.nx penv h) (.nx env w.S) := ⟨env, w, rfl, .refl, H, r⟩
/-- an own name's object -/
theorem FR.ob (r : FR base Ow0 A w O penv env) {m : Nat} (mo : m ∈ O) {q : Q} (hq : penv[m]? = some (some q)) (n : ∀ p, VR w q p → ∃ i, p = .obj i) : ∃ i, env[m]? = some (some (.obj i)) ∧ BR w q (.obj i) := by
  obtain ⟨p, a, b, _⟩ := r.get m q hq
  rcases b mo with b | ⟨i, rfl, _, _, c⟩
  · obtain ⟨i, rfl⟩ := n _ b.1
    exact absurd rfl (b.2 i)
  · exact ⟨i, a, c⟩
/-- a name's ref -/
theorem FR.rf (r : FR base Ow0 A w O penv env) {m k : Nat} (hq : penv[m]? = some (some (.ref k))) : k < w.nh ∧ env[m]? = some (some (.obj (w.io k))) := by
  obtain ⟨p, a, b, c⟩ := r.get m _ hq
  by_cases mo : m ∈ O
  · rcases b mo with b | ⟨i, rfl, _, _, d⟩
    · obtain ⟨b, n⟩ := b
      cases b
      exact absurd rfl (n _)
    · exact d.elim
  · have v := c mo
    cases v with
    | ref hr => exact ⟨hr, a⟩
theorem isVarE_some {d : E} {m : Nat} (h : isVarE d = some m) : d = .var m := by
  cases d <;> simp only [isVarE, reduceCtorEq, Option.some.injEq] at h
  rw [h]
theorem own_in {ow : Nat → Bool} {m : Nat} {O : List Nat} (h : okV ow (.var m) O = true) (ho : ow m = true) : m ∈ O := by
  simp only [okV, isVarE, ho, Bool.not_true, Bool.false_or] at h
  simpa using h
theorem pseti_snd (K : CS C D ge) {o i e : E} {O : List Nat} (hx : okV C.own o (del O (escE ge e ++ bor i (escE ge i))) = true) (r : FR base Ow0 A w O penv env) (H : HR w h) :
    SR base Ow0 A w (del O (escE ge e ++ bor i (escE ge i))) OL (pseti C o i e penv h) (evS D (.seti o i e) env w.S) := by
  unfold pseti
  rw [evS]
  refine r.go H (escE ge e ++ bor i (escE ge i)) (R := RV) (y := fun S => ev D e env S) (fun w2 H2 r2 => pe_snd K e w2 _ h penv env H2 r2.er (nin_l del_nin)) fun x xp w2 w1 h1 _ _ _ _ H1 v r1 => ?_
  generalize hO1 : del O (escE ge e ++ bor i (escE ge i)) = O1 at hx r1
  have ni : ∀ j ∈ O1, j ∉ bor i (escE ge i) := by rw [← hO1]; exact nin_r del_nin
  cases hv : isVarE o with
  | none => cases o <;> first | trivial | cases hv
  | some m =>
    rw [isVarE_some hv] at hx ⊢
    simp only
    cases hq : penv[m]? with
    | none => trivial
    | some q0 =>
      cases q0 with
      | none => trivial
      | some q0 =>
        cases q0 <;> try trivial
        · rename_i xs
          simp only
          by_cases ho : C.own m = true
          · rw [if_pos ho]
            have mo := own_in hx ho
            obtain ⟨a, g1, b1⟩ := r1.ob mo hq fun p z => by cases z; exact ⟨_, rfl⟩
            rw [ev, g1]
            simp only [Res.out_ok]
            refine Snd.out (SE.bor (pe_snd K i) H1 r1.er ni) r1.bas fun q qp w3 h3 o3 e3 H3 rq => ?_
            have r3 := r1.ext e3 o3
            cases q <;> try trivial
            rw [wr_int rq]
            simp only
            cases hj : L2.ixN xs.length _ with
            | none => trivial
            | some j =>
              obtain ⟨a', g3, b3⟩ := r3.ob mo hq fun p z => by cases z; exact ⟨_, rfl⟩
              rw [g1] at g3
              cases g3
              obtain ⟨a', xp0, ea, gx, rx⟩ := b3
              cases ea
              rw [gx]
              simp only [← rx.len, hj]
              obtain ⟨w4, f1, f2, f3, f4⟩ := r3.mut H3 mo hq g1 (q := .lst (xs.set j x)) (o := .lst (xp0.set j xp)) fun w' mn g => ⟨a, _, rfl, g, R2.set (VRs.mono mn rx) ((v.mono e3.mn).mono mn) j⟩
              rw [← f1]
              exact (f4.nx f3).pre f2
          · rw [if_neg ho]; trivial
        · rename_i k
          simp only
          obtain ⟨kn, g1⟩ := r1.rf hq
          rw [ev, g1]
          simp only [Res.out_ok]
          refine Snd.out (SE.bor (pe_snd K i) H1 r1.er ni) r1.bas fun q qp w3 h3 o3 e3 H3 rq => ?_
          have r3 := r1.ext e3 o3
          cases q <;> try trivial
          rw [wr_int rq]
          simp only
          cases hh : h3[k]? with
          | none => trivial
          | some u =>
            cases u <;> try trivial
            rename_i xs
            simp only
            cases hj : L2.ixN xs.length _ with
            | none => trivial
            | some j =>
              obtain ⟨a', xp0, ea, gx, rx⟩ := H3.obj _ _ hh
              cases ea
              have io1 := e3.io k kn
              rw [← io1, gx]
              simp only [← rx.len, hj]
              obtain ⟨f2, f3⟩ := H3.mut hh (q := .lst (xs.set j x)) (o := .lst (xp0.set j xp)) fun w' mn g => ⟨_, _, rfl, g, R2.set (VRs.mono mn rx) ((v.mono e3.mn).mono mn) j⟩
              exact ((r3.ext f2 rfl).nx f3).pre (f2.weak r3.bas)
theorem pdset_snd (K : CS C D ge) {d k e : E} {O : List Nat} (hx : okV C.own d (del O (escE ge e ++ escV ge d ++ bor k (escE ge k))) = true) (r : FR base Ow0 A w O penv env) (H : HR w h) :
    SR base Ow0 A w (del O (escE ge e ++ escV ge d ++ bor k (escE ge k))) OL (pdset C d k e penv h) (evS D (.dset d k e) env w.S) := by
  unfold pdset
  rw [evS]
  refine r.go H (escE ge e ++ escV ge d ++ bor k (escE ge k)) (R := RV) (y := fun S => ev D e env S) (fun w2 H2 r2 => pe_snd K e w2 _ h penv env H2 r2.er (nin_l (nin_l del_nin))) fun x xp w2 w1 h1 _ _ _ _ H1 v r1 => ?_
  generalize hO1 : del O (escE ge e ++ escV ge d ++ bor k (escE ge k)) = O1 at hx r1
  have ni : ∀ j ∈ O1, j ∉ bor k (escE ge k) := by rw [← hO1]; exact nin_r del_nin
  have nd : ∀ j ∈ O1, j ∉ escV ge d := by rw [← hO1]; exact nin_r (nin_l del_nin)
  -- a ref's dict
  have rfc : ∀ (w1 : W) (h1 : QH) (kk : Nat) (x : Q) (xp : PV), HR w1 h1 → VR w1 x xp → FR base Ow0 A w1 O1 penv env → kk < w1.nh →
      SR base Ow0 A w1 O1 OL ((pe C k penv h1).out fun q h => match keyQ q with
        | some q => match h[kk]? with
          | some (.dic kvs) => if kvs.length < LINE then .nx penv (h.set kk (.dic (putQ q x kvs))) else .bad
          | _ => .bad
        | none => .bad) ((ev D k env w1.S).out fun q S => match (PV.obj (w1.io kk)) with
        | .obj a => match S[a]? with
          | some (.dic kvs) => if isK q && decide (kvs.length < LINE) then .nx env (S.set a (.dic (putD q xp kvs))) else .bad
          | _ => .bad
        | _ => .bad) := by
    intro w1 h1 kk x xp H1 v r1 kn
    refine Snd.out (SE.bor (pe_snd K k) H1 r1.er ni) r1.bas fun q qp w3 h3 o3 e3 H3 rq => ?_
    have r3 := r1.ext e3 o3
    cases hk : keyQ q with
    | none => trivial
    | some kq =>
      obtain ⟨rfl, ik⟩ := key_ok rq hk
      simp only
      cases hh : h3[kk]? with
      | none => trivial
      | some u =>
        cases u <;> try trivial
        rename_i kvs
        simp only
        obtain ⟨a', xp0, ea, gx, rx⟩ := H3.obj _ _ hh
        cases ea
        have io1 := e3.io kk kn
        rw [← io1, gx]
        simp only [ik, Bool.true_and, decide_eq_true_eq, ← R2.len rx]
        by_cases l : kvs.length < LINE
        · rw [if_pos l, if_pos l]
          obtain ⟨f2, f3⟩ := H3.mut hh (q := .dic (putQ qp x kvs)) (o := .dic (putD qp xp xp0)) fun w' mn g => ⟨_, _, rfl, g, VRd.put (VRd.mono mn rx) qp ((v.mono e3.mn).mono mn)⟩
          exact ((r3.ext f2 rfl).nx f3).pre (f2.weak r3.bas)
        · rw [if_neg l]; trivial
  cases hv : isVarE d with
  | none =>
    have ed : escV ge d = escE ge d := by simp [escV, hv]
    rw [ed] at nd
    have gen : SR base Ow0 A w1 O1 OL ((pe C d penv h1).out fun p h => match p with
        | .ref r => (pe C k penv h).out fun q h => match keyQ q with
          | some q => match h[r]? with
            | some (.dic kvs) => if kvs.length < LINE then .nx penv (h.set r (.dic (putQ q x kvs))) else .bad
            | _ => .bad
          | none => .bad
        | _ => .bad) ((ev D d env w1.S).out fun p S => (ev D k env S).out fun q S => match p with
        | .obj a => match S[a]? with
          | some (.dic kvs) => if isK q && decide (kvs.length < LINE) then .nx env (S.set a (.dic (putD q xp kvs))) else .bad
          | _ => .bad
        | _ => .bad) := by
      refine Snd.out (pe_snd K d w1 O1 h1 penv env H1 r1.er nd) r1.bas fun p pp w3 h3 o3 e3 H3 rp => ?_
      cases p <;> try trivial
      rename_i kk
      cases rp with
      | ref hr => exact rfc w3 h3 kk x xp H3 (v.mono e3.mn) (r1.ext e3 o3) hr
    cases d <;> first | exact gen | cases hv
  | some m =>
    rw [isVarE_some hv] at hx ⊢
    simp only
    cases hq : penv[m]? with
    | none => trivial
    | some q0 =>
      cases q0 with
      | none => trivial
      | some q0 =>
        cases q0 <;> try trivial
        · rename_i kvs
          simp only
          by_cases ho : C.own m = true
          · rw [if_pos ho]
            have mo := own_in hx ho
            obtain ⟨a, g1, b1⟩ := r1.ob mo hq fun p z => by cases z; exact ⟨_, rfl⟩
            rw [ev, g1]
            simp only [Res.out_ok]
            refine Snd.out (SE.bor (pe_snd K k) H1 r1.er ni) r1.bas fun q qp w3 h3 o3 e3 H3 rq => ?_
            have r3 := r1.ext e3 o3
            cases hk : keyQ q with
            | none => trivial
            | some kq =>
              obtain ⟨rfl, ik⟩ := key_ok rq hk
              simp only
              obtain ⟨a', g3, b3⟩ := r3.ob mo hq fun p z => by cases z; exact ⟨_, rfl⟩
              rw [g1] at g3
              cases g3
              obtain ⟨a', xp0, ea, gx, rx⟩ := b3
              cases ea
              rw [gx]
              simp only [ik, Bool.true_and, decide_eq_true_eq, ← R2.len rx]
              by_cases l : kvs.length < LINE
              · rw [if_pos l, if_pos l]
                obtain ⟨w4, f1, f2, f3, f4⟩ := r3.mut H3 mo hq g1 (q := .dic (putQ qp x kvs)) (o := .dic (putD qp xp xp0)) fun w' mn g => ⟨a, _, rfl, g, VRd.put (VRd.mono mn rx) qp ((v.mono e3.mn).mono mn)⟩
                rw [← f1]
                exact (f4.nx f3).pre f2
              · rw [if_neg l]; trivial
          · rw [if_neg ho]; trivial
        · rename_i kk
          simp only
          obtain ⟨kn, g1⟩ := r1.rf hq
          rw [ev, g1]
          simp only [Res.out_ok]
          exact rfc w1 h1 kk x xp H1 v r1 kn
theorem psetf_snd (K : CS C D ge) {o e : E} {x : PySem.Str} {cs : List Nat} {O : List Nat} (hx : okV C.own o (del O (escE ge e)) = true) (r : FR base Ow0 A w O penv env) (H : HR w h) :
    SR base Ow0 A w (del O (escE ge e)) OL (psetf C o x cs e penv h) (evS D (.setf o x cs e) env w.S) := by
  unfold psetf
  rw [evS]
  refine r.go H (escE ge e) (R := RV) (y := fun S => ev D e env S) (fun w2 H2 r2 => pe_snd K e w2 _ h penv env H2 r2.er del_nin) fun y yp w2 w1 h1 _ _ _ _ H1 v r1 => ?_
  generalize hO1 : del O (escE ge e) = O1 at hx r1
  cases hv : isVarE o with
  | none => cases o <;> first | trivial | cases hv
  | some m =>
    rw [isVarE_some hv] at hx ⊢
    simp only
    cases hq : penv[m]? with
    | none => trivial
    | some q0 =>
      cases q0 with
      | none => trivial
      | some q0 =>
        cases q0 <;> try trivial
        · rename_i c fs
          simp only
          split
          · rename_i hb
            rw [Bool.and_eq_true] at hb
            have mo := own_in hx hb.1
            obtain ⟨a, g1, b1⟩ := r1.ob mo hq fun p z => by cases z; exact ⟨_, rfl⟩
            rw [ev, g1]
            obtain ⟨a', xp0, ea, gx, rx⟩ := b1
            cases ea
            simp only [Res.out_ok, gx]
            rw [if_pos (by rw [← R2.len rx]; exact hb.2)]
            obtain ⟨w4, f1, f2, f3, f4⟩ := r1.mut H1 mo hq g1 (q := .ins c (putI x y fs)) (o := .ins c (putF x yp xp0)) fun w' mn g => ⟨a, _, rfl, g, VRd.putI (VRd.mono mn rx) x (v.mono mn)⟩
            rw [← f1]
            exact (f4.nx f3).pre f2
          · trivial
        · rename_i k
          simp only
          obtain ⟨kn, g1⟩ := r1.rf hq
          cases hh : h1[k]? with
          | none => trivial
          | some u =>
            cases u <;> try trivial
            rename_i c fs
            simp only
            split
            · rename_i hb
              obtain ⟨a', xp0, ea, gx, rx⟩ := H1.obj _ _ hh
              cases ea
              rw [ev, g1]
              simp only [Res.out_ok, gx]
              rw [if_pos (by rw [← R2.len rx]; exact hb)]
              obtain ⟨f2, f3⟩ := H1.mut hh (q := .ins c (putI x y fs)) (o := .ins c (putF x yp xp0)) fun w' mn g => ⟨_, _, rfl, g, VRd.putI (VRd.mono mn rx) x (v.mono mn)⟩
              exact ((r1.ext f2 rfl).nx f3).pre (f2.weak r1.bas)
            · trivial
theorem aug_flat {o : Op2} {p q z : Q} {pp qp : PV} (e : augQ o p q = some z) (rp : WR w p pp) (rq : WR w q qp) : ∃ zp, augV o pp qp = some zp ∧ VR w z zp ∧ (∀ i, pp ≠ .obj i) ∧ ∀ i, zp ≠ .obj i := by
  unfold augQ at e
  split at e
  · cases e; rw [wr_int rp, wr_int rq]; exact ⟨_, rfl, .int, by simp, by simp⟩
  · cases e; rw [wr_int rp, wr_int rq]; exact ⟨_, rfl, .int, by simp, by simp⟩
  · split at e
    · rename_i l
      cases e; rw [wr_int rp, wr_int rq]; exact ⟨_, by simp only [augV]; rw [if_pos l], .int, by simp, by simp⟩
    · cases e
  · split at e
    · rename_i l
      cases e; rw [wr_str rp, wr_str rq]; exact ⟨_, by simp only [augV]; rw [if_pos l], .str, by simp, by simp⟩
    · cases e
  · cases e
/-- the turns of a for -/
theorem pfor_snd {pt : Pat} {body : QE → QH → PM.PO} {bodyT : Env → Sto → Out} {Ob : List Nat} (sub : ∀ j ∈ O, j ∈ Ob) (np : ∀ j ∈ O, j ∉ patN pt)
    (hb : ∀ (w : W) h penv env, HR w h → FR base Ow0 A w O penv env → SR base Ow0 A w Ob O (body penv h) (bodyT env w.S)) {wk : Wk} :
    ∀ (xs : List Q) (n k : Nat) (w : W) (h : QH) (penv : QE) (env : Env), HR w h → FR base Ow0 A w O penv env → WkA w k xs wk → xs.length < n → SR base Ow0 A w O OL (pfor pt body xs penv h) (forN wk pt bodyT n k env w.S)
  | [], n, k, w, h, penv, env, H, r, wa, l => by
    cases n with
    | zero => simp at l
    | succ n =>
      rw [pfor, forN, wa.nil]
      exact r.nx H
  | x :: xs, n, k, w, h, penv, env, H, r, wa, l => by
    cases n with
    | zero => simp at l
    | succ n =>
      rw [pfor, forN]
      obtain ⟨p, e1, v1⟩ := wa.head
      rw [e1]
      simp only
      cases hp : bindQ pt x penv with
      | none => trivial
      | some penv1 =>
        obtain ⟨env1, e2, r1⟩ := r.bind pt v1 np hp
        rw [e2]
        simp only
        have s := hb w h penv1 env1 H r1
        cases hx : body penv1 h with
        | bad => trivial
        | nx penv2 h2 =>
          rw [hx] at s
          obtain ⟨env2, w2, a, b, c, d⟩ := s
          rw [a]
          simp only
          obtain ⟨w3, f1, f2, f3, f4⟩ := d.frz c sub
          rw [← f1]
          exact ((pfor_snd sub np hb xs n (k + 1) w3 h2 penv2 env2 f3 f2 ((wa.tail.mono b.mn).mono f4.mn) (by simpa using l)).pre f4).pre b
        | cnt penv2 h2 =>
          rw [hx] at s
          obtain ⟨env2, w2, a, b, c, d⟩ := s
          rw [a]
          simp only
          exact (pfor_snd sub np hb xs n (k + 1) w2 h2 penv2 env2 c d (wa.tail.mono b.mn) (by simpa using l)).pre b
        | brk penv2 h2 =>
          rw [hx] at s
          obtain ⟨env2, w2, a, b, c, d⟩ := s
          rw [a]
          exact ⟨env2, w2, rfl, b, c, d⟩
        | ret q h2 =>
          rw [hx] at s
          obtain ⟨p2, w2, a, b, c⟩ := s
          rw [a]
          exact ⟨p2, w2, rfl, b, c⟩
theorem pwhl_snd {t : QE → QH → PR Bool} {tT : Env → Sto → Res Bool} {body : QE → QH → PM.PO} {bodyT : Env → Sto → Out} {Ob : List Nat} (sub : ∀ j ∈ O, j ∈ Ob)
    (ht : ∀ (w : W) h penv env, HR w h → FR base Ow0 A w O penv env → Snd w h RE (t penv h) (tT env w.S))
    (hb : ∀ (w : W) h penv env, HR w h → FR base Ow0 A w O penv env → SR base Ow0 A w Ob O (body penv h) (bodyT env w.S)) :
    ∀ (n : Nat) (w : W) (h : QH) (penv : QE) (env : Env), HR w h → FR base Ow0 A w O penv env → SR base Ow0 A w O OL (pwhl t body n penv h) (whlN tT bodyT n env w.S)
  | 0, w, h, penv, env, H, r => trivial
  | n + 1, w, h, penv, env, H, r => by
    rw [pwhl, whlN]
    refine Snd.out (ht w h penv env H r) r.bas fun b b' w1 h1 o1 e1 H1 r1 => ?_
    cases r1
    have r2 := r.ext e1 o1
    cases b with
    | false => exact r2.nx H1
    | true =>
      simp only [if_true]
      have s := hb w1 h1 penv env H1 r2
      cases hx : body penv h1 with
      | bad => trivial
      | nx penv2 h2 =>
        rw [hx] at s
        obtain ⟨env2, w2, a, b, c, d⟩ := s
        rw [a]
        simp only
        obtain ⟨w3, f1, f2, f3, f4⟩ := d.frz c sub
        rw [← f1]
        exact ((pwhl_snd sub ht hb n w3 h2 penv2 env2 f3 f2).pre f4).pre b
      | cnt penv2 h2 =>
        rw [hx] at s
        obtain ⟨env2, w2, a, b, c, d⟩ := s
        rw [a]
        simp only
        exact (pwhl_snd sub ht hb n w2 h2 penv2 env2 c d).pre b
      | brk penv2 h2 =>
        rw [hx] at s
        obtain ⟨env2, w2, a, b, c, d⟩ := s
        rw [a]
        exact ⟨env2, w2, rfl, b, c, d⟩
      | ret q h2 =>
        rw [hx] at s
        obtain ⟨p2, w2, a, b, c⟩ := s
        rw [a]
        exact ⟨p2, w2, rfl, b, c⟩
theorem set_snd (K : CS C D ge) {p : Pat} {e : E} {O : List Nat} (hm : mutE e = none) (r : FR base Ow0 A w O penv env) (H : HR w h) :
    SR base Ow0 A w (setO p e (del O (escE ge e))) OL (pexpr C e penv h fun x env h => match bindQ p x env with
      | some env => .nx env h
      | none => .bad) ((ev D e env w.S).out fun x S => match bindP p x env with
      | some env => .nx env S
      | none => .bad) := by
  unfold pexpr
  rw [hm]
  simp only
  have gen : ∀ l, (∀ j, j ∈ patN p → j ∈ l) → SR base Ow0 A w (del (del O (escE ge e)) l) OL ((pe C e penv h).out fun x h => match bindQ p x penv with
      | some env => .nx env h
      | none => .bad) ((ev D e env w.S).out fun x S => match bindP p x env with
      | some env => .nx env S
      | none => .bad) := by
    intro l hl
    have hd : del (del O (escE ge e)) l = del O (escE ge e ++ l) := by
      simp only [del, List.filter_filter]
      congr 1
      funext j
      simp [Bool.and_comm]
    rw [hd]
    refine r.go H (escE ge e ++ l) (R := RV) (y := fun S => ev D e env S) (fun w2 H2 r2 => pe_snd K e w2 _ h penv env H2 r2.er (nin_l del_nin)) fun x xp w2 w1 h1 _ _ _ _ H1 v r1 => ?_
    cases hb : bindQ p x penv with
    | none => trivial
    | some penv1 =>
      obtain ⟨env1, e2, r2⟩ := r1.bind p v (fun j m z => nin_r del_nin j m (hl j z)) hb
      rw [e2]
      exact r2.nx H1
  cases p with
  | tup ps => exact gen _ fun j z => z
  | nm m =>
    unfold setO
    simp only
    split
    · rename_i hf
      rw [Bool.and_eq_true] at hf
      have m0 : m ≠ 0 := by simpa using hf.2
      have hd : del (del O (escE ge e)) [m] = del O (escE ge e ++ [m]) := by
        simp only [del, List.filter_filter]
        congr 1
        funext j
        simp [Bool.and_comm]
      rw [hd]
      obtain ⟨w2, a1, a2, a3, a4⟩ := r.frz H (O2 := del O (escE ge e ++ [m])) del_sub
      rw [← a1]
      have s := fresh_snd K e hf.1 w2 _ h penv env a3 a2.er (nin_l del_nin)
      cases hx : pe C e penv h with
      | bad => trivial
      | ok x h1 =>
        obtain ⟨p, S1, io1, e1, e2, e3, e4⟩ := s x h1 hx
        rw [e1]
        simp only [PR.out_ok, Res.out_ok]
        rw [bindQ, bindP, ← a2.len]
        by_cases l : m < penv.length
        · rw [if_pos l, if_pos l]
          obtain ⟨w4, f1, f2, f3, f4⟩ := a2.own1 a3 (w3 := ⟨S1, w2.Ow, io1, h1.length⟩) e2 rfl e3 e4 m0 (fun z => nin_r del_nin m z (by simp)) (by rw [← a2.len]; exact l)
          simp only
          have f1 : w4.S = S1 := f1
          rw [← f1]
          exact ((f4.nx f3).pre f2).pre a4
        · rw [if_neg l]; trivial
    · exact gen [m] fun j z => by simpa [patN] using z
mutual
theorem ps_snd (K : CS C D ge) : ∀ (s : TM.S) (L : Option (List Nat)) (O O' : List Nat), chS ge C.own L s O = some O' → ∀ (w : W) (h : QH) (penv : QE) (env : Env), HR w h → FR base Ow0 A w O penv env → SR base Ow0 A w O' (L.getD []) (ps C s penv h) (evS D s env w.S)
  | .never, L, O, O', hc, w, h, penv, env, H, r => trivial
  | .pass, L, O, O', hc, w, h, penv, env, H, r => by
    cases hc
    rw [ps, evS]
    exact r.nx H
  | .brk, L, O, O', hc, w, h, penv, env, H, r => by
    rw [ps, evS]
    cases L with
    | none => simp [chS] at hc
    | some l =>
      simp only [chS] at hc
      split at hc
      · rename_i hs
        obtain ⟨w2, f1, f2, f3, f4⟩ := r.frz H (subl_mem hs)
        exact ⟨env, w2, by rw [f1], f4, f3, f2⟩
      · cases hc
  | .cnt, L, O, O', hc, w, h, penv, env, H, r => by
    rw [ps, evS]
    cases L with
    | none => simp [chS] at hc
    | some l =>
      simp only [chS] at hc
      split at hc
      · rename_i hs
        obtain ⟨w2, f1, f2, f3, f4⟩ := r.frz H (subl_mem hs)
        exact ⟨env, w2, by rw [f1], f4, f3, f2⟩
      · cases hc
  | .set p e, L, O, O', hc, w, h, penv, env, H, r => by
    rw [ps, evS]
    rw [chS] at hc
    cases hm : mutE e with
    | none =>
      rw [hm] at hc
      cases hc
      exact set_snd K hm r H
    | some t =>
      rw [hm] at hc
      simp only [Option.map_eq_some_iff] at hc
      obtain ⟨O1, hx, rfl⟩ := hc
      refine pexpr_snd K hx r H fun q pp w1 h1 penv1 H1 v r1 => ?_
      cases hb : bindQ p q penv1 with
      | none => trivial
      | some penv2 =>
        obtain ⟨w2, f1, f2, f3, f4⟩ := r1.frz H1 (O2 := del O1 (patN p)) del_sub
        obtain ⟨env2, e2, r2⟩ := f2.bind p (v.mono f4.mn) del_nin hb
        rw [e2, ← f1]
        exact (r2.nx f3).pre f4
  | .seti o i e, L, O, O', hc, w, h, penv, env, H, r => by
    rw [ps]
    rw [chS] at hc
    split at hc
    · rename_i hx
      cases hc
      exact pseti_snd K hx r H
    · cases hc
  | .setf o x cs e, L, O, O', hc, w, h, penv, env, H, r => by
    rw [ps]
    rw [chS] at hc
    split at hc
    · rename_i hx
      cases hc
      exact psetf_snd K hx r H
    · cases hc
  | .dset d k e, L, O, O', hc, w, h, penv, env, H, r => by
    rw [ps]
    rw [chS] at hc
    split at hc
    · rename_i hx
      cases hc
      exact pdset_snd K hx r H
    · cases hc
  | .aug i o e, L, O, O', hc, w, h, penv, env, H, r => by
    rw [ps, evS]
    cases hc
    cases hq : penv[i]? with
    | none => trivial
    | some q0 =>
      cases q0 with
      | none => trivial
      | some q0 =>
        obtain ⟨p0, g1, _, _⟩ := r.get i _ hq
        rw [g1]
        simp only
        refine r.go H (bor e (escE ge e)) (R := RW) (y := fun S => ev D e env S) (fun w2 H2 r2 => SE.bor (pe_snd K e) H2 r2.er del_nin) fun x xp w2 w1 h1 _ _ _ _ H1 v r1 => ?_
        cases ha : augQ o q0 x with
        | none => trivial
        | some z =>
          obtain ⟨p1, g2, g3⟩ := r1.er.get i _ hq
          rw [g1] at g2
          cases g2
          obtain ⟨zp, b1, b2, b3, b4⟩ := aug_flat ha (g3.imp id (·.2)) v
          rw [b1]
          exact (r1.flat g1 b3 b2 b4).nx H1
  | .expr e, L, O, O', hc, w, h, penv, env, H, r => by
    rw [ps, evS]
    rw [chS] at hc
    exact pexpr_snd K hc r H fun q pp w1 h1 penv1 H1 v r1 => r1.nx H1
  | .ret e, L, O, O', hc, w, h, penv, env, H, r => by
    rw [ps, evS]
    cases hc
    refine r.go H (escE ge e) (R := RV) (y := fun S => ev D e env S) (fun w2 H2 r2 => pe_snd K e w2 _ h penv env H2 r2.er del_nin) fun x xp w2 w1 h1 _ _ _ _ H1 v r1 => ?_
    obtain ⟨w3, f1, f2, f3, f4⟩ := r1.frz H1 (O2 := []) (fun j z => by simp at z)
    refine ⟨xp, w3, by rw [f1], f4, f3, ?_, v.mono f4.mn⟩
    funext i
    exact propext ((f2.own i).trans ⟨fun z => z.elim id fun ⟨j, a, _⟩ => by simp at a, .inl⟩)
  | .retn, L, O, O', hc, w, h, penv, env, H, r => by
    rw [ps, evS]
    obtain ⟨w3, f1, f2, f3, f4⟩ := r.frz H (O2 := []) (fun j z => by simp at z)
    refine ⟨.non, w3, by rw [f1], f4, f3, ?_, .non⟩
    funext i
    exact propext ((f2.own i).trans ⟨fun z => z.elim id fun ⟨j, a, _⟩ => by simp at a, .inl⟩)
  | .ite t a b, L, O, O', hc, w, h, penv, env, H, r => by
    rw [ps, evS]
    rw [chS] at hc
    split at hc
    · rename_i x y h1 h2
      cases hc
      refine r.go H (escT ge t) (R := RE) (y := fun S => evT D t env S) (fun w2 H2 r2 => peT_snd K t w2 _ h penv env H2 r2.er del_nin) fun k k' w2 w1 h1' _ _ _ _ H1 v r1 => ?_
      cases v
      cases k with
      | true => exact (pb_snd K a L _ _ h1 w1 h1' penv env H1 r1).sub fun j z => (List.mem_filter.mp z).1
      | false => exact (pb_snd K b L _ _ h2 w1 h1' penv env H1 r1).sub fun j z => by simpa using (List.mem_filter.mp z).2
    · cases hc
  | .whl t b, L, O, O', hc, w, h, penv, env, H, r => by
    rw [ps, evS]
    rw [chS] at hc
    split at hc
    · rename_i x hb
      split at hc
      · rename_i hs
        cases hc
        obtain ⟨w2, f1, f2, f3, f4⟩ := r.frz H (O2 := del (del O (escT ge t)) (esB ge b)) fun j z => del_sub j (del_sub j z)
        rw [← f1]
        refine (pwhl_snd (subl_mem hs) (fun w h penv env H r => peT_snd K t w _ h penv env H r.er fun j z => (del_mem.mp (del_sub j z)).2) (fun w h penv env H r => ?_) FU w2 h penv env f3 f2).pre f4
        exact pb_snd K b (some _) _ _ hb w h penv env H r
      · cases hc
    · cases hc
  | .for p it b, L, O, O', hc, w, h, penv, env, H, r => by
    rw [ps, evS]
    rw [chS] at hc
    split at hc
    · rename_i x hb
      split at hc
      · rename_i hs
        cases hc
        obtain ⟨w2, f1, f2, f3, f4⟩ := r.frz H (O2 := del (del O (escI ge it ++ patN p)) (esB ge b)) fun j z => del_sub j (del_sub j z)
        have nn : ∀ j ∈ del (del O (escI ge it ++ patN p)) (esB ge b), j ∉ escI ge it ++ patN p := fun j z => (del_mem.mp (del_sub j z)).2
        rw [← f1]
        refine (Snd.out (peI_snd K it w2 _ h penv env f3 f2.er (nin_l nn)) f2.bas fun xs wk w1 h1 o1 e1 H1 r1 => ?_).pre f4
        refine pfor_snd (subl_mem hs) (nin_r nn) (fun w h penv env H r => ?_) xs FU 0 w1 h1 penv env H1 (f2.ext e1 o1) r1.1 (by have := r1.2; unfold FU; unfold LINE at this; omega)
        exact pb_snd K b (some _) _ _ hb w h penv env H r
      · cases hc
    · cases hc
theorem pb_snd (K : CS C D ge) : ∀ (b : List TM.S) (L : Option (List Nat)) (O O' : List Nat), chB ge C.own L b O = some O' → ∀ (w : W) (h : QH) (penv : QE) (env : Env), HR w h → FR base Ow0 A w O penv env → SR base Ow0 A w O' (L.getD []) (pb C b penv h) (evB D b env w.S)
  | [], L, O, O', hc, w, h, penv, env, H, r => by
    cases hc
    rw [pb, evB]
    exact r.nx H
  | s :: ss, L, O, O', hc, w, h, penv, env, H, r => by
    rw [pb, evB]
    rw [chB] at hc
    split at hc
    · rename_i O1 h1
      exact (ps_snd K s L O O1 h1 w h penv env H r).seq fun penv1 env1 w1 h1 H1 r1 => pb_snd K ss L O1 O' hc w1 h1 penv1 env1 H1 r1
    · cases hc
end
end
end PM

/-! TM, part B: the store and the abstract heap. -/
namespace TM
open PySem PySem.Spec PyProof.Rows L2

mutual
def Rep (K : PySem.W.Frag) (n : Nat) (io : Nat → Addr) (H : Hp) : PV → V → Prop
  | .non, v => v = .non
  | .bl b, v => v = .bl b
  | .int i, v => v = .int i
  | .str cs, v => v = .str (mkS cs)
  | .tup ps, v => ∃ a xs, v = .ref a ∧ SqT K H a xs ∧ Reps K n io H ps xs
  | .obj i, v => i < n ∧ v = .ref (io i)
def Reps (K : PySem.W.Frag) (n : Nat) (io : Nat → Addr) (H : Hp) : List PV → List V → Prop
  | [], xs => xs = []
  | p :: ps, xs => ∃ x r, xs = x :: r ∧ Rep K n io H p x ∧ Reps K n io H ps r
end
/-- the tables that stand, the classes -/
structure Tb where
  tl : List Addr
  cl : Nat → Addr
instance : Membership Addr Tb := ⟨fun T a => a ∈ T.tl⟩
/-- attributes -/
def Repf (K : PySem.W.Frag) (n : Nat) (io : Nat → Addr) (H : Hp) : List (Str × PV) → List (Str × V) → Prop
  | [], xs => xs = []
  | (y, p) :: ps, xs => ∃ x r, xs = (y, x) :: r ∧ Rep K n io H p x ∧ Repf K n io H ps r
/-- a key -/
def kP : PV → Key
  | .int i => .inl i
  | .str cs => .inr (mkS cs)
  | _ => .inl 0
/-- a dict's pairs -/
def Repd (K : PySem.W.Frag) (n : Nat) (io : Nat → Addr) (H : Hp) : List (PV × PV) → List (Key × V) → Prop
  | [], xs => xs = []
  | (q, p) :: ps, xs => ∃ x r, xs = (kP q, x) :: r ∧ isK q = true ∧ Rep K n io H p x ∧ Repd K n io H ps r
/-- later: what is known stays -/
structure Ex (n : Nat) (io : Nat → Addr) (H : Hp) (io' : Nat → Addr) (H' : Hp) : Prop where
  io : ∀ i, i < n → io' i = io i
  tup : ∀ a xs, H a = some (.tup xs) → H' a = some (.tup xs)
  frz : ∀ a o u, H a = some (.frz o u) → H' a = some (.frz o u)
theorem Ex.refl {n : Nat} {io : Nat → Addr} {H : Hp} : Ex n io H io H := ⟨fun _ _ => rfl, fun _ _ h => h, fun _ _ _ h => h⟩
theorem Ex.trans {n n1 : Nat} {io io1 io2 : Nat → Addr} {H H1 H2 : Hp} (a : Ex n io H io1 H1) (h : n ≤ n1) (b : Ex n1 io1 H1 io2 H2) : Ex n io H io2 H2 :=
  ⟨fun i hi => (b.io i (Nat.lt_of_lt_of_le hi h)).trans (a.io i hi), fun x xs e => b.tup x xs (a.tup x xs e), fun x o u e => b.frz x o u (a.frz x o u e)⟩
theorem Ex.sqT {K : PySem.W.Frag} {n : Nat} {io io' : Nat → Addr} {H H' : Hp} (e : Ex n io H io' H') {a : Addr} {xs : List V} (h : SqT K H a xs) : SqT K H' a xs := by
  rcases h with (h | ⟨o, h⟩) | h
  · exact .inl (.inl (e.tup _ _ h))
  · exact .inl (.inr ⟨o, e.frz _ _ _ h⟩)
  · exact .inr h
mutual
theorem Rep.mono {K : PySem.W.Frag} {n n' : Nat} {io io' : Nat → Addr} {H H' : Hp} (e : Ex n io H io' H') (hn : n ≤ n') : ∀ {p : PV} {v : V}, Rep K n io H p v → Rep K n' io' H' p v
  | .non, _, h => h
  | .bl _, _, h => h
  | .int _, _, h => h
  | .str _, _, h => h
  | .tup ps, _, h => by
    obtain ⟨a, xs, h1, h2, h3⟩ := h
    exact ⟨a, xs, h1, e.sqT h2, Reps.mono e hn h3⟩
  | .obj i, _, h => ⟨Nat.lt_of_lt_of_le h.1 hn, by rw [e.io i h.1]; exact h.2⟩
theorem Reps.mono {K : PySem.W.Frag} {n n' : Nat} {io io' : Nat → Addr} {H H' : Hp} (e : Ex n io H io' H') (hn : n ≤ n') : ∀ {ps : List PV} {xs : List V}, Reps K n io H ps xs → Reps K n' io' H' ps xs
  | [], _, h => h
  | p :: ps, _, h => by
    obtain ⟨x, r, h1, h2, h3⟩ := h
    exact ⟨x, r, h1, Rep.mono e hn h2, Reps.mono e hn h3⟩
end
theorem Repf.mono {K : PySem.W.Frag} {n n' : Nat} {io io' : Nat → Addr} {H H' : Hp} (e : Ex n io H io' H') (hn : n ≤ n') : ∀ {ps : List (Str × PV)} {xs : List (Str × V)}, Repf K n io H ps xs → Repf K n' io' H' ps xs
  | [], _, h => h
  | (y, p) :: ps, _, h => by
    obtain ⟨x, r, h1, h2, h3⟩ := h
    exact ⟨x, r, h1, h2.mono e hn, Repf.mono e hn h3⟩
theorem Repd.mono {K : PySem.W.Frag} {n n' : Nat} {io io' : Nat → Addr} {H H' : Hp} (e : Ex n io H io' H') (hn : n ≤ n') : ∀ {ps : List (PV × PV)} {xs : List (Key × V)}, Repd K n io H ps xs → Repd K n' io' H' ps xs
  | [], _, h => h
  | (q, p) :: ps, _, h => by
    obtain ⟨x, r, h1, h0, h2, h3⟩ := h
    exact ⟨x, r, h1, h0, h2.mono e hn, Repd.mono e hn h3⟩
theorem Repf.length {K : PySem.W.Frag} {n : Nat} {io : Nat → Addr} {H : Hp} : ∀ {ps : List (Str × PV)} {xs : List (Str × V)}, Repf K n io H ps xs → xs.length = ps.length
  | [], _, h => by rw [show _ = [] from h]; rfl
  | (y, p) :: ps, _, h => by
    obtain ⟨x, r, rfl, _, h3⟩ := h
    simp [Repf.length h3]
theorem Repd.length {K : PySem.W.Frag} {n : Nat} {io : Nat → Addr} {H : Hp} : ∀ {ps : List (PV × PV)} {xs : List (Key × V)}, Repd K n io H ps xs → xs.length = ps.length
  | [], _, h => by rw [show _ = [] from h]; rfl
  | (y, p) :: ps, _, h => by
    obtain ⟨x, r, rfl, _, _, h3⟩ := h
    simp [Repd.length h3]
theorem Repf.look {K : PySem.W.Frag} {n : Nat} {io : Nat → Addr} {H : Hp} (y : Str) : ∀ {ps : List (Str × PV)} {xs : List (Str × V)}, Repf K n io H ps xs →
    (∀ p, ps.lookup y = some p → ∃ v, xs.lookup y = some v ∧ Rep K n io H p v) ∧ (ps.lookup y = none → xs.lookup y = none)
  | [], _, h => by rw [show _ = [] from h]; exact ⟨fun p z => (by cases z), fun _ => rfl⟩
  | (z, p) :: ps, _, h => by
    obtain ⟨x, r, rfl, h2, h3⟩ := h
    have ih := Repf.look (K := K) y h3
    simp only [List.lookup_cons]
    cases e : y == z with
    | true => exact ⟨fun p' q => by cases q; exact ⟨x, rfl, h2⟩, fun q => by cases q⟩
    | false => exact ih
theorem Repf.put {K : PySem.W.Frag} {n : Nat} {io : Nat → Addr} {H : Hp} {y : Str} {q : PV} {v : V} (hq : Rep K n io H q v) : ∀ {ps : List (Str × PV)} {xs : List (Str × V)}, Repf K n io H ps xs → Repf K n io H (putF y q ps) (L2.putF y v xs)
  | [], _, h => by rw [show _ = [] from h]; exact ⟨v, [], rfl, hq, rfl⟩
  | (z, p) :: ps, _, h => by
    obtain ⟨x, r, rfl, h2, h3⟩ := h
    simp only [putF, L2.putF]
    by_cases e : z = y
    · rw [if_pos e, if_pos e]; exact ⟨v, r, rfl, hq, h3⟩
    · rw [if_neg e, if_neg e]; exact ⟨x, _, rfl, h2, Repf.put hq h3⟩
theorem mkS_inj {a b : List Nat} : mkS a = mkS b ↔ a = b := by
  constructor
  · intro h
    have := congrArg (fun s => s.cps.toList) h
    simpa [mkS] using this
  · intro h; rw [h]
theorem keq_iff {p q : PV} (h : isK p = true) (h' : isK q = true) : keq p q = decide (kP p = kP q) := by
  cases p <;> cases q <;> simp only [isK, reduceCtorEq, Bool.false_eq_true] at h h' <;> simp [keq, kP, mkS_inj, Bool.beq_eq_decide_eq]
theorem kP_V {n : Nat} {K : PySem.W.Frag} {io : Nat → Addr} {H : Hp} {p : PV} {v : V} (h : isK p = true) (r : Rep K n io H p v) : v = kV (kP p) := by
  cases p <;> simp only [isK, reduceCtorEq, Bool.false_eq_true] at h <;> exact r
theorem Repd.has {K : PySem.W.Frag} {n : Nat} {io : Nat → Addr} {H : Hp} {k : PV} (hk : isK k = true) : ∀ {ps : List (PV × PV)} {xs : List (Key × V)}, Repd K n io H ps xs → hasD k ps = xs.any fun e => decide (e.1 = kP k)
  | [], _, h => by rw [show _ = [] from h]; rfl
  | (q, p) :: ps, _, h => by
    obtain ⟨x, r, rfl, h1, h2, h3⟩ := h
    have ih := Repd.has hk h3
    simp only [hasD, List.any_cons] at ih ⊢
    rw [ih, keq_iff h1 hk]
theorem Repd.val {K : PySem.W.Frag} {n : Nat} {io : Nat → Addr} {H : Hp} {k : PV} (hk : isK k = true) : ∀ {ps : List (PV × PV)} {xs : List (Key × V)}, Repd K n io H ps xs →
    (∀ p, valD k ps = some p → ∃ v, valV xs (kP k) = some v ∧ Rep K n io H p v) ∧ (valD k ps = none → valV xs (kP k) = none)
  | [], _, h => by rw [show _ = [] from h]; exact ⟨fun p z => (by cases z), fun _ => rfl⟩
  | (q, p) :: ps, _, h => by
    obtain ⟨x, r, rfl, h1, h2, h3⟩ := h
    have ih := Repd.val hk h3
    simp only [valD]
    by_cases e : kP q = kP k
    · rw [keq_iff h1 hk, decide_eq_true e, if_pos rfl, valV_pos e]
      exact ⟨fun p' z => by cases z; exact ⟨x, rfl, h2⟩, fun z => by cases z⟩
    · rw [keq_iff h1 hk, decide_eq_false e, if_neg (by simp), valV_neg e]
      exact ih
theorem Repd.append {K : PySem.W.Frag} {n : Nat} {io : Nat → Addr} {H : Hp} {k p : PV} {v : V} (hk : isK k = true) (hp : Rep K n io H p v) : ∀ {ps : List (PV × PV)} {xs : List (Key × V)}, Repd K n io H ps xs → Repd K n io H (ps ++ [(k, p)]) (xs ++ [(kP k, v)])
  | [], _, h => by rw [show _ = [] from h]; exact ⟨v, [], rfl, hk, hp, rfl⟩
  | (q, p) :: ps, _, h => by
    obtain ⟨x, r, rfl, h1, h2, h3⟩ := h
    exact ⟨x, _, rfl, h1, h2, Repd.append hk hp h3⟩
theorem Repd.repl {K : PySem.W.Frag} {n : Nat} {io : Nat → Addr} {H : Hp} {k p : PV} {v : V} (hk : isK k = true) (hp : Rep K n io H p v) : ∀ {ps : List (PV × PV)} {xs : List (Key × V)}, Repd K n io H ps xs →
    Repd K n io H (ps.map fun e => if keq e.1 k then (e.1, p) else e) (xs.map fun e => if e.1 = kP k then (e.1, v) else e)
  | [], _, h => by rw [show _ = [] from h]; exact rfl
  | (q, p') :: ps, _, h => by
    obtain ⟨x, r, rfl, h1, h2, h3⟩ := h
    have ih := Repd.repl hk hp h3
    simp only [List.map_cons]
    rw [keq_iff h1 hk]
    by_cases e : kP q = kP k
    · rw [decide_eq_true e, if_pos rfl, if_pos e]
      exact ⟨v, _, rfl, h1, hp, ih⟩
    · rw [decide_eq_false e, if_neg (by simp), if_neg e]
      exact ⟨x, _, rfl, h1, h2, ih⟩
theorem Repd.put {K : PySem.W.Frag} {n : Nat} {io : Nat → Addr} {H : Hp} {k p : PV} {v : V} (hk : isK k = true) (hp : Rep K n io H p v) {ps : List (PV × PV)} {xs : List (Key × V)} (h : Repd K n io H ps xs) : Repd K n io H (putD k p ps) (putK xs (kP k) v) := by
  unfold putD putK
  rw [h.has hk]
  split
  · exact h.repl hk hp
  · exact h.append hk hp
theorem Reps.length {K : PySem.W.Frag} {n : Nat} {io : Nat → Addr} {H : Hp} : ∀ {ps : List PV} {xs : List V}, Reps K n io H ps xs → xs.length = ps.length
  | [], _, h => by rw [show _ = [] from h]; rfl
  | p :: ps, _, h => by
    obtain ⟨x, r, rfl, _, h3⟩ := h
    simp [Reps.length h3]
theorem Reps.get {K : PySem.W.Frag} {n : Nat} {io : Nat → Addr} {H : Hp} : ∀ {ps : List PV} {xs : List V} {i : Nat} {p : PV}, Reps K n io H ps xs → ps[i]? = some p → ∃ v, xs[i]? = some v ∧ Rep K n io H p v
  | [], _, i, p, _, e => by simp at e
  | q :: ps, _, 0, p, h, e => by
    obtain ⟨x, r, rfl, h2, _⟩ := h
    simp at e; subst e
    exact ⟨x, rfl, h2⟩
  | q :: ps, _, i + 1, p, h, e => by
    obtain ⟨x, r, rfl, _, h3⟩ := h
    obtain ⟨v, h4, h5⟩ := Reps.get (i := i) h3 (by simpa using e)
    exact ⟨v, by simpa using h4, h5⟩
theorem Reps.of_get {K : PySem.W.Frag} {n : Nat} {io : Nat → Addr} {H : Hp} : ∀ {ps : List PV} {xs : List V} {i : Nat} {v : V}, Reps K n io H ps xs → xs[i]? = some v → ∃ p, ps[i]? = some p ∧ Rep K n io H p v
  | [], _, i, v, h, e => by rw [show _ = [] from h] at e; simp at e
  | q :: ps, _, 0, v, h, e => by
    obtain ⟨x, r, rfl, h2, _⟩ := h
    simp at e; subst e
    exact ⟨q, rfl, h2⟩
  | q :: ps, _, i + 1, v, h, e => by
    obtain ⟨x, r, rfl, _, h3⟩ := h
    obtain ⟨p, h4, h5⟩ := Reps.of_get (i := i) h3 (by simpa using e)
    exact ⟨p, by simpa using h4, h5⟩
theorem Reps.append {K : PySem.W.Frag} {n : Nat} {io : Nat → Addr} {H : Hp} : ∀ {ps qs : List PV} {xs ys : List V}, Reps K n io H ps xs → Reps K n io H qs ys → Reps K n io H (ps ++ qs) (xs ++ ys)
  | [], _, _, _, h, k => by rw [show _ = [] from h]; exact k
  | p :: ps, _, _, _, h, k => by
    obtain ⟨x, r, rfl, h2, h3⟩ := h
    exact ⟨x, r ++ _, rfl, h2, Reps.append h3 k⟩
theorem Reps.nil {K : PySem.W.Frag} {n : Nat} {io : Nat → Addr} {H : Hp} : Reps K n io H [] [] := rfl
theorem Reps.cons {K : PySem.W.Frag} {n : Nat} {io : Nat → Addr} {H : Hp} {p : PV} {ps : List PV} {x : V} {xs : List V} (h : Rep K n io H p x) (k : Reps K n io H ps xs) : Reps K n io H (p :: ps) (x :: xs) := ⟨x, xs, rfl, h, k⟩
theorem Reps.take {K : PySem.W.Frag} {n : Nat} {io : Nat → Addr} {H : Hp} : ∀ {ps : List PV} {xs : List V} (m : Nat), Reps K n io H ps xs → Reps K n io H (ps.take m) (xs.take m)
  | [], _, m, h => by rw [show _ = [] from h]; simp; rfl
  | p :: ps, _, 0, h => by simp; rfl
  | p :: ps, _, m + 1, h => by
    obtain ⟨x, r, rfl, h2, h3⟩ := h
    exact .cons h2 (Reps.take m h3)
theorem Reps.drop {K : PySem.W.Frag} {n : Nat} {io : Nat → Addr} {H : Hp} : ∀ {ps : List PV} {xs : List V} (m : Nat), Reps K n io H ps xs → Reps K n io H (ps.drop m) (xs.drop m)
  | [], _, m, h => by rw [show _ = [] from h]; simp; rfl
  | p :: ps, _, 0, h => h
  | p :: ps, _, m + 1, h => by
    obtain ⟨x, r, rfl, h2, h3⟩ := h
    exact Reps.drop m h3
theorem Reps.set {K : PySem.W.Frag} {n : Nat} {io : Nat → Addr} {H : Hp} {q : PV} {w : V} (hq : Rep K n io H q w) : ∀ {ps : List PV} {xs : List V} (m : Nat), Reps K n io H ps xs → Reps K n io H (ps.set m q) (xs.set m w)
  | [], _, m, h => by rw [show _ = [] from h]; simp; rfl
  | p :: ps, _, 0, h => by
    obtain ⟨x, r, rfl, h2, h3⟩ := h
    exact .cons hq h3
  | p :: ps, _, m + 1, h => by
    obtain ⟨x, r, rfl, h2, h3⟩ := h
    exact .cons h2 (Reps.set hq m h3)
theorem Reps.dropLast {K : PySem.W.Frag} {n : Nat} {io : Nat → Addr} {H : Hp} {ps : List PV} {xs : List V} (h : Reps K n io H ps xs) : Reps K n io H ps.dropLast xs.dropLast := by
  rw [List.dropLast_eq_take, List.dropLast_eq_take, h.length]
  exact h.take _
theorem Reps.flat {K : PySem.W.Frag} {n : Nat} {io : Nat → Addr} {H : Hp} {ps : List PV} {xs : List V} (h : Reps K n io H ps xs) : ∀ k : Nat, Reps K n io H (List.replicate k ps).flatten (List.replicate k xs).flatten
  | 0 => rfl
  | k + 1 => by
    rw [List.replicate_succ, List.replicate_succ, List.flatten_cons, List.flatten_cons]
    exact h.append (Reps.flat h k)

/-- a list of the written part -/
def KList (K : PySem.W.Frag) (a : Addr) (xs : List V) : Prop :=
  ∃ (o : Obj) (its : Array Value) (n : Nat), K.lookup a = some o ∧ o.cls = .type "list" ∧ o.dict = none ∧ o.data = .seq its n ∧ its.size ≤ sizeLine ∧ Vals xs its.toList
def POR (K : PySem.W.Frag) (cl : Nat → Addr) (n : Nat) (io : Nat → Addr) (H : Hp) (a : Addr) : PO → Prop
  | .lst ps => ∃ xs, H a = some (.lst xs) ∧ Reps K n io H ps xs
  | .ro ps => ∃ xs, ((∃ o, H a = some (.frz o (.lst xs))) ∨ KList K a xs) ∧ Reps K n io H ps xs
  | .ins c fs => ∃ dx xs, H a = some (.ins (cl c) dx xs) ∧ Repf K n io H fs xs
  | .dic kvs => ∃ xs, H a = some (.dK xs) ∧ Repd K n io H kvs xs
def PO.mutb : PO → Bool
  | .ro _ => false
  | _ => true
/-- what is known of an object stays where the object itself does -/
theorem POR.keep {K : PySem.W.Frag} {cl : Nat → Addr} {n n' : Nat} {io io' : Nat → Addr} {H H' : Hp} {a : Addr} {o : PO} (e : Ex n io H io' H') (hn : n ≤ n') (m : o.mutb = true → ∀ u, H a = some u → H' a = some u) (h : POR K cl n io H a o) : POR K cl n' io' H' a o := by
  cases o with
  | lst ps =>
    obtain ⟨xs, h1, h2⟩ := h
    exact ⟨xs, m rfl _ h1, h2.mono e hn⟩
  | ro ps =>
    obtain ⟨xs, h1, h2⟩ := h
    refine ⟨xs, ?_, h2.mono e hn⟩
    rcases h1 with ⟨ob, h1⟩ | h1
    · exact .inl ⟨ob, e.frz _ _ _ h1⟩
    · exact .inr h1
  | ins c fs =>
    obtain ⟨dx, xs, h1, h2⟩ := h
    exact ⟨dx, xs, m rfl _ h1, h2.mono e hn⟩
  | dic kvs =>
    obtain ⟨xs, h1, h2⟩ := h
    exact ⟨xs, m rfl _ h1, h2.mono e hn⟩
theorem POR.there {K : PySem.W.Frag} {cl : Nat → Addr} {n : Nat} {io : Nat → Addr} {H : Hp} {a : Addr} {o : PO} (h : POR K cl n io H a o) (m : o.mutb = true) : ∃ u, H a = some u ∧ (∀ xs, u ≠ .tup xs) ∧ (∀ o w, u ≠ .frz o w) ∧ ∀ ps, u ≠ .tbl ps := by
  cases o with
  | lst ps =>
    obtain ⟨xs, h, _⟩ := h
    exact ⟨_, h, fun _ z => (by cases z), fun _ _ z => (by cases z), fun _ z => by cases z⟩
  | ro ps => cases m
  | ins c fs =>
    obtain ⟨dx, xs, h, _⟩ := h
    exact ⟨_, h, fun _ z => (by cases z), fun _ _ z => (by cases z), fun _ z => by cases z⟩
  | dic kvs =>
    obtain ⟨xs, h, _⟩ := h
    exact ⟨_, h, fun _ z => (by cases z), fun _ _ z => (by cases z), fun _ z => by cases z⟩
structure Rel (K : PySem.W.Frag) (T : Tb) (S : Sto) (io : Nat → Addr) (H : Hp) : Prop where
  obj : ∀ i o, S[i]? = some o → POR K T.cl S.length io H (io i) o
  inj : ∀ i j o o', S[i]? = some o → S[j]? = some o' → o.mutb = true → o'.mutb = true → io i = io j → i = j
  tab : ∀ P ∈ T, GxR.TabG H P
def EnvR (K : PySem.W.Frag) (n : Nat) (io : Nat → Addr) (H : Hp) (env : Env) (s : List (Option V)) : Prop :=
  env.length = s.length ∧ ∀ (i : Nat) (p : PV), env[i]? = some (some p) → ∃ v : V, s[i]? = some (some v) ∧ Rep K n io H p v
theorem EnvR.mono {K : PySem.W.Frag} {n n' : Nat} {io io' : Nat → Addr} {H H' : Hp} {env : Env} {s : List (Option V)} (e : Ex n io H io' H') (hn : n ≤ n') (h : EnvR K n io H env s) : EnvR K n' io' H' env s :=
  ⟨h.1, fun i p hp => by
    obtain ⟨v, h1, h2⟩ := h.2 i p hp
    exact ⟨v, h1, h2.mono e hn⟩⟩
theorem EnvR.set {K : PySem.W.Frag} {n : Nat} {io : Nat → Addr} {H : Hp} {env : Env} {s : List (Option V)} {i : Nat} {p : PV} {v : V} (h : EnvR K n io H env s) (r : Rep K n io H p v) : EnvR K n io H (env.set i (some p)) (s.set i (some v)) := by
  refine ⟨by simp [h.1], fun j q hq => ?_⟩
  rw [List.getElem?_set] at hq ⊢
  by_cases e : i = j
  · rw [if_pos e] at hq ⊢
    rw [h.1] at hq
    split at hq
    · simp at hq
      subst hq
      rename_i hl
      rw [if_pos hl]
      exact ⟨v, rfl, r⟩
    · cases hq
  · rw [if_neg e] at hq ⊢
    exact h.2 j q hq
/-- what is wished of an exception that leaves -/
abbrev Wish := PX → Sto → (Nat → Addr) → Hp → Prop
def Post {a b : Type} (K : PySem.W.Frag) (T : Tb) (W : Wish) (R : Nat → (Nat → Addr) → Hp → a → b → Prop) (S : Sto) (io : Nat → Addr) (H : Hp) (Q : b → Hp → Prop) : Res a → Prop
  | .ok p S' => ∀ io' H' v, Ex S.length io H io' H' → S.length ≤ S'.length → Rel K T S' io' H' → R S'.length io' H' p v → Q v H'
  | .exc x S' => ∀ io' H', Ex S.length io H io' H' → S.length ≤ S'.length → Rel K T S' io' H' → W x S' io' H'
  | .bad => False
theorem Post.start {a b : Type} {K : PySem.W.Frag} {T : Tb} {W : Wish} {R : Nat → (Nat → Addr) → Hp → a → b → Prop} {S S1 : Sto} {io io1 : Nat → Addr} {H H1 : Hp} {Q : b → Hp → Prop} {r : Res a}
    (e : Ex S.length io H io1 H1) (l : S.length ≤ S1.length) (h : Post K T W R S io H Q r) : Post K T W R S1 io1 H1 Q r := by
  cases r with
  | ok p S' => exact fun io' H' v e' l' => h io' H' v (e.trans l e') (Nat.le_trans l l')
  | exc x S' => exact fun io' H' e' l' => h io' H' (e.trans l e') (Nat.le_trans l l')
  | bad => exact h
theorem Post.bind {a a' b b' : Type} {K : PySem.W.Frag} {T : Tb} {W : Wish} {R1 : Nat → (Nat → Addr) → Hp → a' → b' → Prop} {R : Nat → (Nat → Addr) → Hp → a → b → Prop} {S : Sto} {io : Nat → Addr} {H : Hp} {Q : b → Hp → Prop}
    {N : b' → Hp → Prop} {r : Res a'} {f : a' → Sto → Res a} (h : Post K T W R S io H Q (r.bind f))
    (k : ∀ p S1 io1 H1 v, Ex S.length io H io1 H1 → S.length ≤ S1.length → Rel K T S1 io1 H1 → R1 S1.length io1 H1 p v → Post K T W R S1 io1 H1 Q (f p S1) → N v H1) : Post K T W R1 S io H N r := by
  cases r with
  | ok p S1 => exact fun io1 H1 v e l rel rp => k p S1 io1 H1 v e l rel rp (Post.start e l h)
  | exc x S1 => exact h
  | bad => exact h
def lift {a b : Type} (K : PySem.W.Frag) (T : Tb) (W : Wish) (R : Nat → (Nat → Addr) → Hp → a → b → Prop) (m : Env → Sto → Res a) : L2.St → Hp → (b → Hp → Prop) → Prop :=
  fun s H Q => ∃ S io env, Rel K T S io H ∧ EnvR K S.length io H env s ∧ Post K T W R S io H Q (m env S)
theorem lift.mk {a b : Type} {K : PySem.W.Frag} {T : Tb} {W : Wish} {R : Nat → (Nat → Addr) → Hp → a → b → Prop} {m : Env → Sto → Res a} {s : L2.St} {S S1 : Sto} {io io1 : Nat → Addr} {H H1 : Hp} {env : Env} {Q : b → Hp → Prop}
    (er : EnvR K S.length io H env s) (e : Ex S.length io H io1 H1) (l : S.length ≤ S1.length) (rel : Rel K T S1 io1 H1) (h : Post K T W R S1 io1 H1 Q (m env S1)) : lift K T W R m s H1 Q :=
  ⟨S1, io1, env, rel, er.mono e l, h⟩
section
variable {K : PySem.W.Frag} {T : Tb} {W : Wish} {S : Sto} {io : Nat → Addr} {H : Hp}
theorem Post.val {a b : Type} {R : Nat → (Nat → Addr) → Hp → a → b → Prop} {Q : b → Hp → Prop} {p : a} {v : b} (rel : Rel K T S io H) (h : Post K T W R S io H Q (.ok p S)) (r : R S.length io H p v) : Q v H := h io H v .refl (Nat.le_refl _) rel r
/-- a fresh object, untracked by the store -/
theorem Rel.fresh {a : Addr} {o : HO} (rel : Rel K T S io H) (n : H a = none) : Rel K T S io (upd H a o) ∧ Ex S.length io H io (upd H a o) := by
  have ex : Ex S.length io H io (upd H a o) := ⟨fun _ _ => rfl, fun b xs e => by rw [upd_ne (ne_of_none e n)]; exact e, fun b ob u e => by rw [upd_ne (ne_of_none e n)]; exact e⟩
  refine ⟨⟨fun i q hq => ?_, rel.inj, fun P hP => ?_⟩, ex⟩
  · exact (rel.obj i q hq).keep ex (Nat.le_refl _) fun _ u hu => by rw [upd_ne (ne_of_none hu n)]; exact hu
  · obtain ⟨ps, h1, h2⟩ := rel.tab P hP
    exact ⟨ps, by rw [upd_ne (ne_of_none h1 n)]; exact h1, h2⟩
theorem Post.tup {Q : VK} {ps : List PV} {vs : List V} (rel : Rel K T S io H) (h : Post K T W (Rep K) S io H Q (.ok (.tup ps) S)) (r : Reps K S.length io H ps vs) : ∀ a, H a = none → Q (.ref a) (upd H a (.tup vs)) := by
  intro a n
  obtain ⟨rel', ex⟩ := rel.fresh (o := .tup vs) n
  exact h io _ _ ex (Nat.le_refl _) rel' ⟨a, vs, rfl, .inl (.inl upd_same), r.mono ex (Nat.le_refl _)⟩
/-- a new object of the store -/
theorem Rel.alloc {a : Addr} {o : HO} {q : PO} (rel : Rel K T S io H) (n : H a = none) (hq : POR K T.cl (S.length + 1) (fun j => if j = S.length then a else io j) (upd H a o) a q) :
    Rel K T (S ++ [q]) (fun j => if j = S.length then a else io j) (upd H a o) ∧ Ex S.length io H (fun j => if j = S.length then a else io j) (upd H a o) := by
  have ex : Ex S.length io H (fun j => if j = S.length then a else io j) (upd H a o) := ⟨fun i hi => if_neg (Nat.ne_of_lt hi), fun b xs e => by rw [upd_ne (ne_of_none e n)]; exact e, fun b ob u e => by rw [upd_ne (ne_of_none e n)]; exact e⟩
  have hl : (S ++ [q]).length = S.length + 1 := by simp
  have old : ∀ i o', (S ++ [q])[i]? = some o' → i ≠ S.length → S[i]? = some o' ∧ i < S.length := fun i o' e ne => by
    have hi : i < (S ++ [q]).length := (List.getElem?_eq_some_iff.mp e).1
    rw [hl] at hi
    have hi' : i < S.length := by omega
    rw [List.getElem?_append_left hi'] at e
    exact ⟨e, hi'⟩
  have ne : ∀ i o', S[i]? = some o' → o'.mutb = true → io i ≠ a := fun i o' e m => by
    obtain ⟨u, hu, _⟩ := (rel.obj i o' e).there m
    exact ne_of_none hu n
  refine ⟨⟨fun i q' hq' => ?_, fun i j o1 o2 h1 h2 m1 m2 e => ?_, fun P hP => ?_⟩, ex⟩
  · rw [hl]
    by_cases hi : i = S.length
    · subst hi
      have : q' = q := by simpa using hq'.symm
      subst this
      show POR K _ _ _ _ (if S.length = S.length then a else io S.length) q'
      rw [if_pos rfl]
      exact hq
    · obtain ⟨e, hi'⟩ := old i q' hq' hi
      have h := rel.obj i q' e
      show POR K _ _ _ _ (if i = S.length then a else io i) q'
      rw [if_neg hi]
      exact h.keep ex (Nat.le_succ _) fun _ u hu => by rw [upd_ne (ne_of_none hu n)]; exact hu
  · have e' : (if i = S.length then a else io i) = (if j = S.length then a else io j) := e
    by_cases hi : i = S.length
    · by_cases hj : j = S.length
      · rw [hi, hj]
      · rw [if_pos hi, if_neg hj] at e'
        obtain ⟨f, _⟩ := old j o2 h2 hj
        exact absurd e'.symm (ne j o2 f m2)
    · obtain ⟨f, _⟩ := old i o1 h1 hi
      by_cases hj : j = S.length
      · rw [if_neg hi, if_pos hj] at e'
        exact absurd e' (ne i o1 f m1)
      · rw [if_neg hi, if_neg hj] at e'
        obtain ⟨g, _⟩ := old j o2 h2 hj
        exact rel.inj i j o1 o2 f g m1 m2 e'
  · obtain ⟨ps, h1, h2⟩ := rel.tab P hP
    exact ⟨ps, by rw [upd_ne (ne_of_none h1 n)]; exact h1, h2⟩
theorem Post.lst {Q : VK} {ps : List PV} {vs : List V} (rel : Rel K T S io H) (h : Post K T W (Rep K) S io H Q (.ok (.obj S.length) (S ++ [.lst ps]))) (r : Reps K S.length io H ps vs) : ∀ a, H a = none → Q (.ref a) (upd H a (.lst vs)) := by
  intro a n
  have ex : Ex S.length io H (fun j => if j = S.length then a else io j) (upd H a (.lst vs)) := ⟨fun i hi => if_neg (Nat.ne_of_lt hi), fun b xs e => by rw [upd_ne (ne_of_none e n)]; exact e, fun b ob u e => by rw [upd_ne (ne_of_none e n)]; exact e⟩
  obtain ⟨rel', _⟩ := rel.alloc (o := .lst vs) (q := .lst ps) n ⟨vs, upd_same, r.mono ex (Nat.le_succ _)⟩
  refine h _ _ _ ex (by simp) rel' ⟨by simp, ?_⟩
  show V.ref a = .ref (if S.length = S.length then a else io S.length)
  rw [if_pos rfl]
/-- an object of the store changed -/
theorem Rel.put {i : Nat} {o : HO} {q0 q : PO} (rel : Rel K T S io H) (h0 : S[i]? = some q0) (m0 : q0.mutb = true) (m : q.mutb = true) (hq : ∀ ex : Ex S.length io H io (upd H (io i) o), POR K T.cl S.length io (upd H (io i) o) (io i) q) :
    Rel K T (S.set i q) io (upd H (io i) o) ∧ Ex S.length io H io (upd H (io i) o) := by
  obtain ⟨u, hu, u1, u2, u3⟩ := (rel.obj i q0 h0).there m0
  have ex : Ex S.length io H io (upd H (io i) o) := ⟨fun _ _ => rfl, fun b xs e => by rw [upd_ne (ne_of e hu (fun z => u1 _ z.symm))]; exact e, fun b ob w e => by rw [upd_ne (ne_of e hu (fun z => u2 _ _ z.symm))]; exact e⟩
  have hl : (S.set i q).length = S.length := by simp
  have hi : i < S.length := (List.getElem?_eq_some_iff.mp h0).1
  have get : ∀ j q', (S.set i q)[j]? = some q' → (j = i ∧ q' = q) ∨ (j ≠ i ∧ S[j]? = some q') := fun j q' e => by
    rw [List.getElem?_set] at e
    by_cases hj : i = j
    · rw [if_pos hj, if_pos hi] at e
      exact .inl ⟨hj.symm, (Option.some.inj e).symm⟩
    · rw [if_neg hj] at e
      exact .inr ⟨fun z => hj z.symm, e⟩
  refine ⟨⟨fun j q' hq' => ?_, fun j k o1 o2 h1 h2 m1 m2 e => ?_, fun P hP => ?_⟩, ex⟩
  · rw [hl]
    rcases get j q' hq' with ⟨rfl, rfl⟩ | ⟨hj, e⟩
    · exact hq ex
    · have h := rel.obj j q' e
      exact h.keep ex (Nat.le_refl _) fun em u hu => by rw [upd_ne fun z => hj (rel.inj j i q' q0 e h0 em m0 z)]; exact hu
  · rcases get j o1 h1 with ⟨rfl, rfl⟩ | ⟨hj, e1⟩
    · rcases get k o2 h2 with ⟨rfl, _⟩ | ⟨hk, e2⟩
      · rfl
      · exact rel.inj j k q0 o2 h0 e2 m0 m2 e
    · rcases get k o2 h2 with ⟨rfl, rfl⟩ | ⟨hk, e2⟩
      · exact rel.inj j k o1 q0 e1 h0 m1 m0 e
      · exact rel.inj j k o1 o2 e1 e2 m1 m2 e
  · obtain ⟨ps, h1, h2⟩ := rel.tab P hP
    exact ⟨ps, by rw [upd_ne (ne_of h1 hu (fun z => u3 _ z.symm))]; exact h1, h2⟩
theorem Post.putI {Q : VK} {i c : Nat} {fs0 : List (Str × PV)} {ps : PO} {o : HO} {p : PV} {v : V} {q0 : PO} (rel : Rel K T S io H) (h0 : S[i]? = some q0) (m0 : q0.mutb = true) (m : ps.mutb = true) (h : Post K T W (Rep K) S io H Q (.ok p (S.set i ps)))
    (hq : ∀ ex : Ex S.length io H io (upd H (io i) o), POR K T.cl S.length io (upd H (io i) o) (io i) ps) (rp : Rep K S.length io H p v) : Q v (upd H (io i) o) := by
  obtain ⟨rel', ex⟩ := rel.put (o := o) (q := ps) h0 m0 m hq
  refine h io _ v ex (by simp) rel' ?_
  rw [List.length_set]
  exact rp.mono ex (Nat.le_refl _)
theorem Post.putL {Q : VK} {i : Nat} {ps0 ps : List PV} {vs : List V} {p : PV} {v : V} (rel : Rel K T S io H) (h0 : S[i]? = some (.lst ps0)) (h : Post K T W (Rep K) S io H Q (.ok p (S.set i (.lst ps)))) (r : Reps K S.length io H ps vs) (rp : Rep K S.length io H p v) :
    Q v (upd H (io i) (.lst vs)) := by
  obtain ⟨rel', ex⟩ := rel.put (o := .lst vs) (q := .lst ps) h0 rfl rfl fun ex => ⟨vs, upd_same, r.mono ex (Nat.le_refl _)⟩
  refine h io _ v ex (by simp) rel' ?_
  rw [List.length_set]
  exact rp.mono ex (Nat.le_refl _)
/-- the list that stands at i -/
theorem Rel.sq {i : Nat} {ps : List PV} (rel : Rel K T S io H) (h : seqOf S i = some ps) : ∃ xs, SqL K H (io i) xs ∧ Reps K S.length io H ps xs := by
  unfold seqOf at h
  split at h
  · rename_i xs e
    cases h
    obtain ⟨vs, h1, h2⟩ := rel.obj i _ e
    exact ⟨vs, .inl (.inl h1), h2⟩
  · rename_i xs e
    cases h
    obtain ⟨vs, h1, h2⟩ := rel.obj i _ e
    rcases h1 with ⟨o, h1⟩ | h1
    · exact ⟨vs, .inl (.inr ⟨o, h1⟩), h2⟩
    · exact ⟨vs, .inr h1, h2⟩
  · cases h
theorem Rel.lst {i : Nat} {ps : List PV} (rel : Rel K T S io H) (h : S[i]? = some (.lst ps)) : ∃ xs, H (io i) = some (.lst xs) ∧ Reps K S.length io H ps xs := rel.obj i _ h
end
end TM

/-! TM, part C: operations on values. -/
namespace TM
open PySem PySem.Spec PyProof.Rows L2

theorem line_eq : sizeLine = LINE := sizeLine_eq
theorem mkS_len (a : List Nat) : (mkS a).length = a.length := by simp [mkS, Str.length]
theorem mkS_app (a b : List Nat) : mkS a ++ mkS b = mkS (a ++ b) := by
  show Str.append _ _ = _
  simp [mkS, Str.append]
theorem mkS_toList (a : List Nat) : (mkS a).cps.toList = a := rfl

section
variable {X : Cx} {T : Tb} {W : Wish} {S : Sto} {io : Nat → Addr} {H : Hp}
/-- a two-place operation by pure values -/
def LR2 (K : PySem.W.Frag) (T : Tb) (W : Wish) (f : PV → PV → Sto → Res PV) : R2 := fun x y H Q =>
  ∃ S io p q, Rel K T S io H ∧ Rep K S.length io H p x ∧ Rep K S.length io H q y ∧ Post K T W (Rep K) S io H Q (f p q S)
def toOp : Op2 → Operator
  | .add => .Add | .sub => .Sub | .mul => .Mult | .fdiv => .FloorDiv | .mod => .Mod | .pow => .Pow | .shl => .LShift | .shr => .RShift | .band => .BitAnd | .bor => .BitOr
def toCop : Cop → CmpOp
  | .eq => .Eq | .ne => .NotEq | .lt => .Lt | .le => .LtE | .gt => .Gt | .ge => .GtE | .is => .Is | .isnot => .IsNot | .inn => .In | .notin => .NotIn

theorem mul_ok {i j : Int} (h : mulOk i j = true) : CMul i j := by
  unfold mulOk P64 at h
  simp only [Bool.or_eq_true, Bool.and_eq_true, decide_eq_true_eq] at h
  unfold CMul
  omega
theorem binI_ok (o : Op2) : OpR X (binaryOp (toOp o)) (fun x y H Q => ∃ i j k, x = .int i ∧ y = .int j ∧ binI o i j = some k ∧ Q (.int k) H) := by
  intro pins s σ H x y v u Q I rx ry h
  obtain ⟨i, j, k, ex, ey, hk, q⟩ := h
  cases o with
  | add => cases hk; exact op_add pins s σ H x y v u Q I rx ry ⟨i, j, ex, ey, q⟩
  | sub => cases hk; exact op_sub pins s σ H x y v u Q I rx ry ⟨i, j, ex, ey, q⟩
  | mul =>
    simp only [binI] at hk
    split at hk
    · rename_i hm
      cases hk
      exact op_mul pins s σ H x y v u Q I rx ry ⟨i, j, ex, ey, mul_ok hm, q⟩
    · cases hk
  | fdiv =>
    simp only [binI] at hk
    split at hk
    · rename_i hm
      cases hk
      simp only [Bool.and_eq_true, bne_iff_ne, ne_eq, decide_eq_true_eq] at hm
      exact op_fdivN pins s σ H x y v u Q I rx ry ⟨i, j, ex, ey, hm, q⟩
    · cases hk
  | mod =>
    simp only [binI] at hk
    split at hk
    · rename_i hm
      cases hk
      simp only [bne_iff_ne, ne_eq] at hm
      exact op_modN pins s σ H x y v u Q I rx ry ⟨i, j, ex, ey, hm, q⟩
    · cases hk
  | pow =>
    simp only [binI] at hk
    split at hk
    · rename_i hm
      cases hk
      simp only [Bool.and_eq_true, decide_eq_true_eq] at hm
      exact op_pow pins s σ H x y v u Q I rx ry ⟨i, j, ex, ey, ⟨hm.1.1, hm.1.2, by omega⟩, q⟩
    · cases hk
  | shl =>
    simp only [binI] at hk
    split at hk
    · rename_i hm
      cases hk
      simp only [Bool.and_eq_true, decide_eq_true_eq] at hm
      exact op_shl pins s σ H x y v u Q I rx ry ⟨i, j, ex, ey, ⟨hm.1.1, hm.1.2, by omega⟩, q⟩
    · cases hk
  | shr =>
    simp only [binI] at hk
    split at hk
    · rename_i hm
      cases hk
      simp only [decide_eq_true_eq] at hm
      exact op_shr pins s σ H x y v u Q I rx ry ⟨i, j, ex, ey, hm, q⟩
    · cases hk
  | band => cases hk; exact op_and pins s σ H x y v u Q I rx ry ⟨i, j, ex, ey, q⟩
  | bor => cases hk; exact op_or pins s σ H x y v u Q I rx ry ⟨i, j, ex, ey, q⟩
theorem post_bad {a b : Type} {K : PySem.W.Frag} {R : Nat → (Nat → Addr) → Hp → a → b → Prop} {Q : b → Hp → Prop} (h : Post K T W R S io H Q .bad) : False := h
theorem binV_ok (o : Op2) : OpR X (binaryOp (toOp o)) (LR2 X.K T W (binV o)) := by
  intro pins s σ H x y v u Q I rx ry h
  obtain ⟨S, io, p, q, rel, hp, hq, post⟩ := h
  unfold binV at post
  split at post
  · rename_i i j
    cases hp; cases hq
    cases e : binI o i j with
    | none => rw [e] at post; exact post.elim
    | some k =>
      rw [e] at post
      exact binI_ok o pins s σ H _ _ v u Q I rx ry ⟨i, j, k, rfl, rfl, e, post.val rel rfl⟩
  · rename_i a b
    cases hp; cases hq
    split at post
    · split at post
      · rename_i hl
        refine op_add_str pins s σ H _ _ v u Q I rx ry ⟨_, _, rfl, rfl, ?_, ?_⟩
        · rw [mkS_len, mkS_len, line_eq]; exact hl
        · rw [mkS_app]; exact post.val rel rfl
      · exact post.elim
    · exact post.elim
  · rename_i a b
    obtain ⟨a1, xs, rfl, h1, h2⟩ := hp
    obtain ⟨a2, ys, rfl, h3, h4⟩ := hq
    split at post
    · split at post
      · rename_i hl
        have l1 := h2.length
        have l2 := h4.length
        refine op_catA pins s σ H _ _ v u Q I rx ry ⟨a1, a2, xs, ys, rfl, rfl, h1, h3, by rw [l1, l2, line_eq]; exact hl, fun e => ?_, fun _ e => ?_, fun _ _ => Post.tup rel post (h2.append h4)⟩
        · refine post.val rel ⟨a2, ys, rfl, h3, ?_⟩
          have : a = [] := by
            cases a with
            | nil => rfl
            | cons _ _ => rw [e] at l1; simp at l1
          rw [this]; exact h4
        · refine post.val rel ⟨a1, xs, rfl, h1, ?_⟩
          have : b = [] := by
            cases b with
            | nil => rfl
            | cons _ _ => rw [e] at l2; simp at l2
          rw [this, List.append_nil]; exact h2
      · exact post.elim
    · exact post.elim
  · rename_i i j
    obtain ⟨_, rfl⟩ := hp
    obtain ⟨_, rfl⟩ := hq
    split at post
    · split at post
      · rename_i a b e1 e2
        split at post
        · rename_i hl
          obtain ⟨xs, h1, h2⟩ := rel.lst e1
          obtain ⟨ys, h3, h4⟩ := rel.lst e2
          exact op_cat pins s σ H _ _ v u Q I rx ry ⟨_, _, xs, ys, rfl, rfl, h1, h3, by rw [h2.length, h4.length, line_eq]; exact hl, Post.lst rel post (h2.append h4)⟩
        · exact post.elim
      · exact post.elim
    · exact post.elim
  · rename_i i k
    obtain ⟨_, rfl⟩ := hp
    cases hq
    split at post
    · split at post
      · rename_i a e1
        split at post
        · rename_i hl
          simp only [Bool.and_eq_true, decide_eq_true_eq] at hl
          obtain ⟨xs, h1, h2⟩ := rel.lst e1
          exact op_rep pins s σ H _ _ v u Q I rx ry ⟨_, _, xs, rfl, rfl, h1, hl.1.1, hl.1.2, by rw [h2.length, line_eq]; exact hl.2, Post.lst rel post (h2.flat _)⟩
        · exact post.elim
      · exact post.elim
    · exact post.elim
  · exact post.elim

/-! ### == -/
mutual
theorem dat_dp {K : PySem.W.Frag} {n : Nat} {io : Nat → Addr} {H : Hp} : ∀ {p : PV} {d : PyData} {v : V}, dat p = some d → Rep K n io H p v → Dp K H v d
  | .non, _, _, h, r => by cases h; cases r; exact .non
  | .bl b, _, _, h, r => by cases h; cases r; exact .bl b
  | .int b, _, _, h, r => by cases h; cases r; exact .int b
  | .str b, _, _, h, r => by cases h; cases r; exact .str _
  | .tup ps, d, _, h, r => by
    obtain ⟨a, xs, rfl, h1, h2⟩ := r
    unfold dat at h
    cases e : datL ps with
    | none => rw [e] at h; cases h
    | some ds =>
      rw [e] at h
      cases h
      exact .tup h1 (datL_dp e h2)
  | .obj _, _, _, h, _ => by cases h
theorem datL_dp {K : PySem.W.Frag} {n : Nat} {io : Nat → Addr} {H : Hp} : ∀ {ps : List PV} {ds : List PyData} {vs : List V}, datL ps = some ds → Reps K n io H ps vs → DpAll K H vs ds
  | [], _, _, h, r => by cases h; rw [show _ = [] from r]; exact .nil
  | p :: ps, _, _, h, r => by
    obtain ⟨x, xs, rfl, h1, h2⟩ := r
    unfold datL at h
    split at h
    · rename_i d ds e1 e2
      cases h
      exact .cons (dat_dp e1 h1) (datL_dp e2 h2)
    · cases h
end
mutual
theorem dat_lay : ∀ {p : PV}, lay p = true → ∃ d, dat p = some d ∧ d.canLay0 = true ∧ d.depth = dep p
  | .non, _ => ⟨_, rfl, rfl, rfl⟩
  | .bl _, _ => ⟨_, rfl, rfl, rfl⟩
  | .int _, _ => ⟨_, rfl, rfl, rfl⟩
  | .str cs, h => ⟨_, rfl, by
      have h : (cs.all fun c => decide (c < 1114112)) = true := by simpa [lay] using h
      show (mkS cs).cps.all _ = true
      rw [← Array.all_toList]
      exact h, rfl⟩
  | .tup xs, h => by
    obtain ⟨ds, h1, h2, h3⟩ := datL_lay (ps := xs) (by simpa [lay] using h)
    exact ⟨.tuple ds, by simp [dat, h1], by simpa [PyData.canLay0] using h2, by simp [PyData.depth, dep, h3]⟩
  | .obj _, h => by simp [lay] at h
theorem datL_lay : ∀ {ps : List PV}, layL ps = true → ∃ ds, datL ps = some ds ∧ PyData.canLayAll0 ds = true ∧ PyData.depthAll ds = depL ps
  | [], _ => ⟨_, rfl, rfl, rfl⟩
  | p :: ps, h => by
    simp only [layL, Bool.and_eq_true] at h
    obtain ⟨d, h1, h2, h3⟩ := dat_lay h.1
    obtain ⟨ds, h4, h5, h6⟩ := datL_lay h.2
    exact ⟨d :: ds, by simp [datL, h1, h4], by simp [PyData.canLayAll0, h2, h5], by simp [PyData.depthAll, depL, h3, h6]⟩
end
mutual
theorem eqX_dat : ∀ {p q : PV} {d e : PyData}, dat p = some d → dat q = some e → PyData.eqv d e = eqX p q
  | .tup xs, q, d, e, h, k => by
    unfold dat at h
    cases e1 : datL xs with
    | none => rw [e1] at h; cases h
    | some ds =>
      rw [e1] at h
      cases h
      cases q with
      | tup ys =>
        unfold dat at k
        cases e2 : datL ys with
        | none => rw [e2] at k; cases k
        | some es =>
          rw [e2] at k
          cases k
          simp only [PyData.eqv, eqX]
          exact eqXL_dat e1 e2
      | obj _ => cases k
      | _ => cases k; simp [PyData.eqv, eqX]
  | .obj _, q, d, e, h, k => by cases h
  | .non, q, d, e, h, k => by
    cases h
    cases q with
    | tup ys =>
      unfold dat at k
      cases e2 : datL ys with
      | none => rw [e2] at k; cases k
      | some es => rw [e2] at k; cases k; simp [PyData.eqv, eqX]
    | obj _ => cases k
    | _ => cases k; simp [PyData.eqv, eqX]
  | .bl _, q, d, e, h, k => by
    cases h
    cases q with
    | tup ys =>
      unfold dat at k
      cases e2 : datL ys with
      | none => rw [e2] at k; cases k
      | some es => rw [e2] at k; cases k; simp [PyData.eqv, eqX]
    | obj _ => cases k
    | _ => cases k; simp [PyData.eqv, eqX]
  | .int _, q, d, e, h, k => by
    cases h
    cases q with
    | tup ys =>
      unfold dat at k
      cases e2 : datL ys with
      | none => rw [e2] at k; cases k
      | some es => rw [e2] at k; cases k; simp [PyData.eqv, eqX]
    | obj _ => cases k
    | _ => cases k; simp [PyData.eqv, eqX]
  | .str a, q, d, e, h, k => by
    cases h
    cases q with
    | tup ys =>
      unfold dat at k
      cases e2 : datL ys with
      | none => rw [e2] at k; cases k
      | some es => rw [e2] at k; cases k; simp [PyData.eqv, eqX]
    | obj _ => cases k
    | str b =>
      cases k
      rw [PyData.eqv, eqX, Bool.eq_iff_iff]
      simp [mkS_inj]
    | _ => cases k; simp [PyData.eqv, eqX]
theorem eqXL_dat : ∀ {ps qs : List PV} {ds es : List PyData}, datL ps = some ds → datL qs = some es → PyData.eqvAll ds es = eqXL ps qs
  | [], [], _, _, h, k => by cases h; cases k; simp [PyData.eqvAll, eqXL]
  | [], q :: qs, _, _, h, k => by
    cases h
    unfold datL at k
    split at k
    · cases k; simp [PyData.eqvAll, eqXL]
    · cases k
  | p :: ps, [], _, _, h, k => by
    cases k
    unfold datL at h
    split at h
    · cases h; simp [PyData.eqvAll, eqXL]
    · cases h
  | p :: ps, q :: qs, _, _, h, k => by
    unfold datL at h k
    split at h
    · rename_i d ds e1 e2
      cases h
      split at k
      · rename_i e es e3 e4
        cases k
        simp only [PyData.eqvAll, eqXL]
        rw [eqX_dat e1 e3, eqXL_dat e2 e4]
      · cases k
    · cases h
end
theorem flat_dp {K : PySem.W.Frag} {n : Nat} {io : Nat → Addr} {H : Hp} {p : PV} {v : V} (h : flatX p = true) (r : Rep K n io H p v) : ∃ d, dat p = some d ∧ Dp K H v d ∧ SeqAt.shaped d = true := by
  unfold flatX at h
  rw [Bool.and_eq_true, decide_eq_true_eq] at h
  obtain ⟨d, h1, h2, h3⟩ := dat_lay h.1
  exact ⟨d, h1, dat_dp h1 r, by unfold SeqAt.shaped; rw [h2, h3, Bool.true_and, decide_eq_true_eq]; omega⟩
theorem flatL_dp {K : PySem.W.Frag} {n : Nat} {io : Nat → Addr} {H : Hp} {ps : List PV} {vs : List V} (h : flatXL ps = true) (r : Reps K n io H ps vs) : ∃ ds, datL ps = some ds ∧ DpAll K H vs ds ∧ PyData.canLayAll0 ds = true ∧ PyData.depthAll ds ≤ 60 := by
  unfold flatXL at h
  rw [Bool.and_eq_true, decide_eq_true_eq] at h
  obtain ⟨ds, h1, h2, h3⟩ := datL_lay h.1
  exact ⟨ds, h1, datL_dp h1 r, h2, by omega⟩
theorem shaped_list {ds : List PyData} (h1 : PyData.canLayAll0 ds = true) (h2 : PyData.depthAll ds ≤ 60) : SeqAt.shaped (.list ds) = true := by
  unfold SeqAt.shaped
  rw [show PyData.canLay0 (.list ds) = PyData.canLayAll0 ds from rfl, h1, Bool.true_and, decide_eq_true_eq]
  show PyData.depthAll ds + 1 ≤ 64
  omega
theorem shaped_tuple {ds : List PyData} (h1 : PyData.canLayAll0 ds = true) (h2 : PyData.depthAll ds ≤ 60) : SeqAt.shaped (.tuple ds) = true := by
  unfold SeqAt.shaped
  rw [show PyData.canLay0 (.tuple ds) = PyData.canLayAll0 ds from rfl, h1, Bool.true_and, decide_eq_true_eq]
  show PyData.depthAll ds + 1 ≤ 64
  omega
/-- what eqD says, of data -/
theorem eqD_dp {K : PySem.W.Frag} {p q : PV} {x y : V} {b : Bool} (rel : Rel K T S io H) (hp : Rep K S.length io H p x) (hq : Rep K S.length io H q y) (h : eqD S p q = some b) :
    ∃ d e, Dp K H x d ∧ Dp K H y e ∧ SeqAt.shaped d = true ∧ SeqAt.shaped e = true ∧ PyData.eqv d e = b := by
  unfold eqD at h
  split at h
  · rename_i i j
    obtain ⟨_, rfl⟩ := hp
    obtain ⟨_, rfl⟩ := hq
    split at h
    · rename_i xs ys e1 e2
      split at h
      · rename_i hf
        cases h
        rw [Bool.and_eq_true] at hf
        obtain ⟨vs, h1, h2⟩ := rel.sq e1
        obtain ⟨ws, h3, h4⟩ := rel.sq e2
        obtain ⟨ds, k1, k2, k3, k4⟩ := flatL_dp hf.1 h2
        obtain ⟨es, k5, k6, k7, k8⟩ := flatL_dp hf.2 h4
        exact ⟨_, _, .lst h1 k2, .lst h3 k6, shaped_list k3 k4, shaped_list k7 k8, by rw [PyData.eqv]; exact eqXL_dat k1 k5⟩
      · cases h
    · cases h
  · split at h
    · rename_i hf
      cases h
      rw [Bool.and_eq_true] at hf
      obtain ⟨d, k1, k2, k3⟩ := flat_dp hf.1 hp
      obtain ⟨e, k4, k5, k6⟩ := flat_dp hf.2 hq
      exact ⟨d, e, k2, k5, k3, k6, eqX_dat k1 k4⟩
    · cases h
theorem eqS_scal {K : PySem.W.Frag} {n : Nat} {p q : PV} {x y : V} {b : Bool} (h : eqS p q = some b) (hp : Rep K n io H p x) (hq : Rep K n io H q y) : scal x y = true ∧ b = decide (x = y) := by
  cases p <;> cases q <;> simp only [eqS, reduceCtorEq, Option.some.injEq] at h <;> (try cases h) <;> cases hp <;> cases hq <;> refine ⟨rfl, ?_⟩ <;> first
    | rfl
    | (simp; done)
    | skip
  · rw [Bool.eq_iff_iff]; simp
  · rw [Bool.eq_iff_iff]; simp
  · rw [Bool.eq_iff_iff]; simp [mkS_inj]
/-- a comparison by pure values -/
def LRc (K : PySem.W.Frag) (T : Tb) (W : Wish) (f : PV → PV → Sto → Option Bool) : R2 := LR2 K T W fun p q S => ofO ((f p q S).map PV.bl) S
theorem post_opt {K : PySem.W.Frag} {Q : VK} {o : Option Bool} (rel : Rel K T S io H) (post : Post K T W (Rep K) S io H Q (ofO (o.map PV.bl) S)) : ∃ b, o = some b ∧ Q (.bl b) H := by
  cases o with
  | none => exact post.elim
  | some b => exact ⟨b, rfl, post.val rel rfl⟩
theorem eq_ok (hu : X.A.units + 64 < cLine) : OpR X (compareOp .Eq) (LRc X.K T W (fun p q S => eqV S p q)) := by
  intro pins s σ H x y v u Q I rx ry h
  obtain ⟨S, io, p, q, rel, hp, hq, post⟩ := h
  obtain ⟨b, e, k⟩ := post_opt rel post
  have e : eqV S p q = some b := e
  unfold eqV at e
  split at e
  · rename_i b' e1
    cases e
    obtain ⟨h1, rfl⟩ := eqS_scal e1 hp hq
    exact op_eq pins s σ H x y v u Q I rx ry ⟨h1, k⟩
  · obtain ⟨d, f, h1, h2, h3, h4, h5⟩ := eqD_dp rel hp hq e
    exact op_eqD hu pins s σ H x y v u Q I rx ry ⟨d, f, h1, h2, h3, h4, by rw [h5]; exact k⟩
theorem ne_ok (hu : X.A.units + 64 < cLine) : OpR X (compareOp .NotEq) (LRc X.K T W (fun p q S => (eqV S p q).map (!·))) := by
  intro pins s σ H x y v u Q I rx ry h
  obtain ⟨S, io, p, q, rel, hp, hq, post⟩ := h
  obtain ⟨b, e, k⟩ := post_opt rel post
  have e : (eqV S p q).map (!·) = some b := e
  cases e0 : eqV S p q with
  | none => rw [e0] at e; cases e
  | some c =>
  rw [e0] at e
  cases e
  have e := e0
  unfold eqV at e
  split at e
  · rename_i b' e1
    cases e
    obtain ⟨h1, rfl⟩ := eqS_scal e1 hp hq
    exact op_ne pins s σ H x y v u Q I rx ry ⟨h1, k⟩
  · obtain ⟨d, f, h1, h2, h3, h4, h5⟩ := eqD_dp rel hp hq e
    exact op_neD hu pins s σ H x y v u Q I rx ry ⟨d, f, h1, h2, h3, h4, by rw [h5]; exact k⟩
/-! ### < -/
theorem ltN_eq : ∀ a b : List Nat, ltN a b = decide (a < b)
  | [], [] => by simp [ltN]
  | [], _ :: _ => by simp [ltN]
  | _ :: _, [] => by simp [ltN]
  | x :: xs, y :: ys => by
    unfold ltN
    have ih := ltN_eq xs ys
    by_cases e : x = y
    · rw [if_pos e, ih]
      simp [e, List.cons_lt_cons_iff]
    · rw [if_neg e]
      simp [List.cons_lt_cons_iff, e]
mutual
theorem dat_pur : ∀ {p : PV}, pur p = true → ∃ d, dat p = some d ∧ d.depth = dep p
  | .non, _ => ⟨_, rfl, rfl⟩
  | .bl _, _ => ⟨_, rfl, rfl⟩
  | .int _, _ => ⟨_, rfl, rfl⟩
  | .str _, _ => ⟨_, rfl, rfl⟩
  | .tup xs, h => by
    obtain ⟨ds, h1, h2⟩ := datL_pur (ps := xs) (by simpa [pur] using h)
    exact ⟨.tuple ds, by simp [dat, h1], by simp [PyData.depth, dep, h2]⟩
  | .obj _, h => by simp [pur] at h
theorem datL_pur : ∀ {ps : List PV}, purL ps = true → ∃ ds, datL ps = some ds ∧ PyData.depthAll ds = depL ps
  | [], _ => ⟨_, rfl, rfl⟩
  | p :: ps, h => by
    simp only [purL, Bool.and_eq_true] at h
    obtain ⟨d, h1, h2⟩ := dat_pur h.1
    obtain ⟨ds, h3, h4⟩ := datL_pur h.2
    exact ⟨d :: ds, by simp [datL, h1, h3], by simp [PyData.depthAll, depL, h2, h4]⟩
end
mutual
theorem alk_dat : ∀ {p q : PV} {d e : PyData}, dat p = some d → dat q = some e → alk p q = true → PySem.W.alike d e = true ∧ PyData.eqv d e = eqP p q ∧ PySem.W.dataLt d e = ltP p q
  | .non, .non, _, _, h, k, _ => by cases h; cases k; exact ⟨rfl, by simp [PyData.eqv, eqP], by decide +kernel⟩
  | .bl a, .bl b, _, _, h, k, _ => by
    cases h; cases k
    exact ⟨rfl, by simp [PyData.eqv, eqP], by rw [PySem.W.dataLt_bool]; cases a <;> cases b <;> rfl⟩
  | .int a, .int b, _, _, h, k, _ => by
    cases h; cases k
    exact ⟨rfl, by simp [PyData.eqv, eqP], by rw [PySem.W.dataLt_int]; rfl⟩
  | .str a, .str b, _, _, h, k, _ => by
    cases h; cases k
    refine ⟨rfl, ?_, ?_⟩
    · rw [PyData.eqv, eqP, Bool.eq_iff_iff]; simp [mkS_inj]
    · rw [PySem.W.dataLt_str, mkS_toList, mkS_toList, ltP, ltN_eq]
  | .tup xs, .tup ys, _, _, h, k, a => by
    unfold dat at h k
    cases e1 : datL xs with
    | none => rw [e1] at h; cases h
    | some ds =>
    cases e2 : datL ys with
    | none => rw [e2] at k; cases k
    | some es =>
    rw [e1] at h; rw [e2] at k
    cases h; cases k
    obtain ⟨h1, h2, h3⟩ := alkL_dat e1 e2 (by simpa [alk] using a)
    exact ⟨by simpa [PySem.W.alike] using h1, by simpa [PyData.eqv, eqP] using h2, by rw [PySem.W.dataLt_tuple, ltP]; exact h3⟩
  | .obj _, q, _, _, h, _, _ => by cases h
  | .non, .bl _, _, _, _, _, a => by simp [alk] at a
  | .non, .int _, _, _, _, _, a => by simp [alk] at a
  | .non, .str _, _, _, _, _, a => by simp [alk] at a
  | .non, .tup _, _, _, _, _, a => by simp [alk] at a
  | .non, .obj _, _, _, _, _, a => by simp [alk] at a
  | .bl _, .non, _, _, _, _, a => by simp [alk] at a
  | .bl _, .int _, _, _, _, _, a => by simp [alk] at a
  | .bl _, .str _, _, _, _, _, a => by simp [alk] at a
  | .bl _, .tup _, _, _, _, _, a => by simp [alk] at a
  | .bl _, .obj _, _, _, _, _, a => by simp [alk] at a
  | .int _, .non, _, _, _, _, a => by simp [alk] at a
  | .int _, .bl _, _, _, _, _, a => by simp [alk] at a
  | .int _, .str _, _, _, _, _, a => by simp [alk] at a
  | .int _, .tup _, _, _, _, _, a => by simp [alk] at a
  | .int _, .obj _, _, _, _, _, a => by simp [alk] at a
  | .str _, .non, _, _, _, _, a => by simp [alk] at a
  | .str _, .bl _, _, _, _, _, a => by simp [alk] at a
  | .str _, .int _, _, _, _, _, a => by simp [alk] at a
  | .str _, .tup _, _, _, _, _, a => by simp [alk] at a
  | .str _, .obj _, _, _, _, _, a => by simp [alk] at a
  | .tup _, .non, _, _, _, _, a => by simp [alk] at a
  | .tup _, .bl _, _, _, _, _, a => by simp [alk] at a
  | .tup _, .int _, _, _, _, _, a => by simp [alk] at a
  | .tup _, .str _, _, _, _, _, a => by simp [alk] at a
  | .tup _, .obj _, _, _, _, _, a => by simp [alk] at a
theorem alkL_dat : ∀ {ps qs : List PV} {ds es : List PyData}, datL ps = some ds → datL qs = some es → alkL ps qs = true → PySem.W.alikeAll ds es = true ∧ PyData.eqvAll ds es = eqPL ps qs ∧ PyProof.Rows.lexLt itemOrd (PySem.W.keyToksAll ds) (PySem.W.keyToksAll es) = ltPL ps qs
  | [], [], _, _, h, k, _ => by
    cases h; cases k
    exact ⟨by simp [PySem.W.alikeAll], by simp [PyData.eqvAll, eqPL], by rw [ltPL]; exact lex_irrefl _⟩
  | [], q :: qs, ds, es, h, k, _ => by
    cases h
    unfold datL at k
    split at k
    · cases k
      refine ⟨by simp [PySem.W.alikeAll], by simp [PyData.eqvAll, eqPL], ?_⟩
      rw [ltPL, PySem.W.toks_all_cons]
      simp only [PySem.W.keyToksAll]
      rw [lex_diff (O := itemOrd) (by simp)]
      rfl
    · cases k
  | p :: ps, [], ds, es, h, k, _ => by
    cases k
    unfold datL at h
    split at h
    · cases h
      refine ⟨by simp [PySem.W.alikeAll], by simp [PyData.eqvAll, eqPL], ?_⟩
      rw [ltPL, PySem.W.toks_all_cons]
      simp only [PySem.W.keyToksAll]
      rw [lex_diff (O := itemOrd) (by simp)]
      rfl
    · cases h
  | p :: ps, q :: qs, ds, es, h, k, a => by
    unfold datL at h k
    split at h
    · split at k
      · rename_i d ds e1 e2 _ _ e es e3 e4
        cases h; cases k
        simp only [alkL, Bool.and_eq_true] at a
        obtain ⟨h1, h2, h3⟩ := alk_dat e1 e3 a.1
        obtain ⟨k1, k2, k3⟩ := alkL_dat e2 e4 a.2
        refine ⟨by simp [PySem.W.alikeAll, h1, k1], by simp [PyData.eqvAll, eqPL, h2, k2], ?_⟩
        rw [PySem.W.dataLt_cons h1, h2, k3, h3, ltPL]
      · cases k
    · cases h
end
theorem dat_non {p : PV} {d : PyData} (h : dat p = some d) (n : isNon p = false) : d ≠ .none := by
  cases p with
  | non => cases n
  | tup ps =>
    unfold dat at h
    cases e : datL ps with
    | none => rw [e] at h; cases h
    | some ds => rw [e] at h; cases h; exact fun z => by cases z
  | obj _ => cases h
  | _ => cases h; exact fun z => by cases z
/-- what < needs, from values that can be put in order -/
theorem ord_ok {pins : List (Addr × Obj)} {σ : L2.St} {s : Shared} (hu : X.A.units + 64 < cLine) (I : Inv X pins σ H s) {n : Nat} {p q : PV} {x y : V} {v u : Value} (hp : Rep X.K n io H p x) (hq : Rep X.K n io H q y) (rx : RelV x v) (ry : RelV y u) (h : ordB p q = true) :
    ∃ d e as bs, Reads s.heap v d as ∧ Reads s.heap u e bs ∧ PySem.W.alike d e = true ∧ d ≠ .none ∧ X.A.units + min d.depth e.depth < cLine ∧ PySem.W.dataLt d e = ltP p q ∧ (∀ z, z = PySem.W.dataLt e d → alk q p = true → z = ltP q p) := by
  simp only [ordB, Bool.and_eq_true, Bool.not_eq_true', decide_eq_true_eq] at h
  obtain ⟨⟨⟨⟨h1, h2⟩, h3⟩, h4⟩, h5⟩ := h
  obtain ⟨d, e1, d1⟩ := dat_pur h1
  obtain ⟨e, e2, d2⟩ := dat_pur h2
  obtain ⟨as, r1⟩ := Dp.reads I d x v (dat_dp e1 hp) rx
  obtain ⟨bs, r2⟩ := Dp.reads I e y u (dat_dp e2 hq) ry
  obtain ⟨k1, _, k3⟩ := alk_dat e1 e2 h3
  exact ⟨d, e, as, bs, r1, r2, k1, dat_non e1 h4, by omega, k3, fun z hz ha => hz.trans (alk_dat e2 e1 ha).2.2⟩
mutual
theorem alk_symm : ∀ {p q : PV}, alk p q = true → alk q p = true
  | .tup xs, .tup ys, h => by
    simp only [alk] at h ⊢
    exact alkL_symm h
  | .non, q, h => by cases q <;> simp_all [alk]
  | .bl _, q, h => by cases q <;> simp_all [alk]
  | .int _, q, h => by cases q <;> simp_all [alk]
  | .str _, q, h => by cases q <;> simp_all [alk]
  | .obj _, q, h => by cases q <;> simp_all [alk]
  | .tup _, .non, h => by simp [alk] at h
  | .tup _, .bl _, h => by simp [alk] at h
  | .tup _, .int _, h => by simp [alk] at h
  | .tup _, .str _, h => by simp [alk] at h
  | .tup _, .obj _, h => by simp [alk] at h
theorem alkL_symm : ∀ {ps qs : List PV}, alkL ps qs = true → alkL qs ps = true
  | [], [], _ => rfl
  | [], _ :: _, _ => rfl
  | _ :: _, [], _ => rfl
  | p :: ps, q :: qs, h => by
    simp only [alkL, Bool.and_eq_true] at h ⊢
    exact ⟨alk_symm h.1, alkL_symm h.2⟩
end
theorem ordB_alk {p q : PV} (h : ordB p q = true) : alk p q = true := by
  simp only [ordB, Bool.and_eq_true] at h
  exact h.1.1.2
theorem lt_ok (hu : X.A.units + 64 < cLine) : OpR X (compareOp .Lt) (LRc X.K T W (fun p q S => ltV p q)) := by
  intro pins s σ H x y v u Q I rx ry h
  obtain ⟨S, io, p, q, rel, hp, hq, post⟩ := h
  obtain ⟨b, e, k⟩ := post_opt rel post
  have e : ltV p q = some b := e
  unfold ltV at e
  split at e
  · rename_i ho
    cases e
    obtain ⟨d, f, as, bs, r1, r2, a, n, z, l, _⟩ := ord_ok hu I hp hq rx ry ho
    exact PySem.W.lt_data r1 r2 a n z ⟨.bl _, H, I, congrArg Value.bool l, k⟩
  · cases e
theorem any_dat {p : PV} {d : PyData} (hp : dat p = some d) : ∀ {xs : List PV} {ds : List PyData}, datL xs = some ds → (ds.any fun y => PyData.eqv y d) = xs.any fun x => eqX x p
  | [], _, h => by cases h; rfl
  | x :: xs, _, h => by
    unfold datL at h
    split at h
    · rename_i e es e1 e2
      cases h
      rw [List.any_cons, List.any_cons, eqX_dat e1 hp, any_dat hp e2]
    · cases h
theorem any_sign {z : List Nat} {c : Nat} : decide (c ∈ (mkS z).cps.toList) = z.any fun d => d == c := by
  rw [mkS_toList, Bool.eq_iff_iff, decide_eq_true_eq, List.any_eq_true]
  exact ⟨fun h => ⟨c, h, by simp⟩, fun ⟨d, h, e⟩ => by rw [← eq_of_beq e]; exact h⟩
theorem in_ok (hu : X.A.units + 64 < cLine) {σ : L2.St} {H : Hp} {s : Shared} {pins : List (Addr × Obj)} {p q : PV} {x y : V} {v u : Value} {b : Bool} {S : Sto} {io : Nat → Addr} (I : Inv X pins σ H s) (rx : RelV x v) (ry : RelV y u)
    (rel : Rel X.K T S io H) (hp : Rep X.K S.length io H p x) (hq : Rep X.K S.length io H q y) (e : inV S p q = some b) :
    (∀ Q : VK, Q (.bl b) H → wpAny (model X.prog X.w) X.A (compareOp .In v u) (EP X pins σ Q) X.xe s) ∧ ∀ Q : VK, Q (.bl (!b)) H → wpAny (model X.prog X.w) X.A (compareOp .NotIn v u) (EP X pins σ Q) X.xe s := by
  have room : ∀ {ds : List PyData} {d : PyData}, PyData.depthAll ds ≤ 60 → X.A.units + 1 + min (PyData.depthAll ds) d.depth < cLine := fun {ds d} h => by
    have := Nat.min_le_left (PyData.depthAll ds) d.depth
    omega
  unfold inV at e
  split at e
  · rename_i z
    split at e
    · rename_i c
      cases e
      cases hp; cases hq
      refine ⟨fun Q k => op_in_sign pins s σ H _ _ v u Q I rx ry ⟨c, _, rfl, rfl, ?_⟩, fun Q k => op_notIn_sign pins s σ H _ _ v u Q I rx ry ⟨c, _, rfl, rfl, ?_⟩⟩
      · rw [any_sign]; exact k
      · rw [any_sign]; exact k
    · rename_i w _
      cases e
      cases hp; cases hq
      exact ⟨fun Q k => op_in_str pins s σ H _ _ v u Q I rx ry ⟨_, _, rfl, rfl, k⟩, fun Q k => op_notin_str pins s σ H _ _ v u Q I rx ry ⟨_, _, rfl, rfl, k⟩⟩
    · cases e
  · rename_i xs
    split at e
    · rename_i hf
      cases e
      rw [Bool.and_eq_true] at hf
      obtain ⟨a, vs, rfl, h1, h2⟩ := hq
      obtain ⟨d, k1, k2, k3⟩ := flat_dp hf.1 hp
      obtain ⟨ds, k4, k5, k6, k7⟩ := flatL_dp hf.2 h2
      obtain ⟨as, r1⟩ := Dp.reads I d x v k2 rx
      obtain ⟨bs, r2⟩ := Dp.reads I (.tuple ds) (.ref a) u (.tup h1 k5) ry
      refine ⟨fun Q k => SeqAt.in_tuple_reads r2 r1 k6 (SeqAt.canLay_of_shaped k3) (room k7) ⟨.bl _, H, I, rfl, ?_⟩, fun Q k => SeqAt.notIn_tuple_reads r2 r1 k6 (SeqAt.canLay_of_shaped k3) (room k7) ⟨.bl _, H, I, rfl, ?_⟩⟩
      · rw [any_dat k1 k4]; exact k
      · rw [any_dat k1 k4]; exact k
    · cases e
  · rename_i i
    obtain ⟨_, rfl⟩ := hq
    split at e
    · rename_i xs e1
      split at e
      · rename_i hf
        cases e
        rw [Bool.and_eq_true] at hf
        obtain ⟨vs, h1, h2⟩ := rel.sq e1
        obtain ⟨d, k1, k2, k3⟩ := flat_dp hf.1 hp
        obtain ⟨ds, k4, k5, k6, k7⟩ := flatL_dp hf.2 h2
        obtain ⟨as, r1⟩ := Dp.reads I d x v k2 rx
        obtain ⟨bs, r2⟩ := Dp.reads I (.list ds) (.ref (io i)) u (.lst h1 k5) ry
        refine ⟨fun Q k => SeqAt.in_list_reads r2 r1 k6 (SeqAt.canLay_of_shaped k3) (room k7) ⟨.bl _, H, I, rfl, ?_⟩, fun Q k => SeqAt.notIn_list_reads r2 r1 k6 (SeqAt.canLay_of_shaped k3) (room k7) ⟨.bl _, H, I, rfl, ?_⟩⟩
        · rw [any_dat k1 k4]; exact k
        · rw [any_dat k1 k4]; exact k
      · cases e
    · cases e
  · cases e
theorem cmpV_ok (hu : X.A.units + 64 < cLine) (o : Cop) : OpR X (compareOp (toCop o)) (LRc X.K T W (cmpV o)) := by
  cases o with
  | eq => exact eq_ok hu
  | ne => exact ne_ok hu
  | lt => exact lt_ok hu
  | gt =>
    intro pins s σ H x y v u Q I rx ry h
    obtain ⟨S, io, p, q, rel, hp, hq, post⟩ := h
    obtain ⟨b, e, k⟩ := post_opt rel post
    simp only [cmpV] at e
    split at e
    · rename_i ho
      cases e
      obtain ⟨d, f, as, bs, r1, r2, a, n, z, l, l2⟩ := ord_ok hu I hp hq rx ry ho
      have l3 := l2 _ rfl (alk_symm (ordB_alk ho))
      exact PySem.W.gt_data r1 r2 a n z ⟨.bl _, H, I, by rw [l3]; rfl, k⟩
    · cases e
  | le =>
    intro pins s σ H x y v u Q I rx ry h
    obtain ⟨S, io, p, q, rel, hp, hq, post⟩ := h
    obtain ⟨b, e, k⟩ := post_opt rel post
    simp only [cmpV] at e
    split at e
    · rename_i ho
      cases e
      obtain ⟨d, f, as, bs, r1, r2, a, n, z, l, l2⟩ := ord_ok hu I hp hq rx ry ho
      have l3 := l2 _ rfl (alk_symm (ordB_alk ho))
      exact PySem.W.le_data r1 r2 a n z ⟨.bl _, H, I, by rw [l3]; rfl, k⟩
    · cases e
  | ge =>
    intro pins s σ H x y v u Q I rx ry h
    obtain ⟨S, io, p, q, rel, hp, hq, post⟩ := h
    obtain ⟨b, e, k⟩ := post_opt rel post
    simp only [cmpV] at e
    split at e
    · rename_i ho
      cases e
      obtain ⟨d, f, as, bs, r1, r2, a, n, z, l, l2⟩ := ord_ok hu I hp hq rx ry ho
      have l3 := l2 _ rfl (alk_symm (ordB_alk ho))
      exact PySem.W.ge_data r1 r2 a n z ⟨.bl _, H, I, by rw [l]; rfl, k⟩
    · cases e
  | is =>
    intro pins s σ H x y v u Q I rx ry h
    obtain ⟨S, io, p, q, rel, hp, hq, post⟩ := h
    obtain ⟨b, e, k⟩ := post_opt rel post
    simp only [cmpV] at e
    split at e
    · cases hq
      refine op_isN pins s σ H _ _ v u Q I rx ry ⟨rfl, ?_⟩
      cases p with
      | non => cases hp; cases e; exact k
      | tup ps => obtain ⟨_, _, rfl, _⟩ := hp; cases e; exact k
      | obj i => obtain ⟨_, rfl⟩ := hp; cases e; exact k
      | _ => cases hp; cases e; exact k
    · split at e
      · cases hp; cases hq; cases rx; cases ry; cases e
        exact PyProof.Rows.is_bool ⟨.bl _, H, I, rfl, k⟩
      · cases e
    · cases e
  | isnot =>
    intro pins s σ H x y v u Q I rx ry h
    obtain ⟨S, io, p, q, rel, hp, hq, post⟩ := h
    obtain ⟨b, e, k⟩ := post_opt rel post
    simp only [cmpV] at e
    split at e
    · cases hq
      refine op_notN pins s σ H _ _ v u Q I rx ry ⟨rfl, ?_⟩
      cases p with
      | non => cases hp; cases e; exact k
      | tup ps => obtain ⟨_, _, rfl, _⟩ := hp; cases e; exact k
      | obj i => obtain ⟨_, rfl⟩ := hp; cases e; exact k
      | _ => cases hp; cases e; exact k
    · split at e
      · rename_i c b' 
        cases hp; cases hq; cases rx; cases ry; cases e
        exact PyProof.Rows.isnot_bool ⟨.bl _, H, I, congrArg Value.bool (by cases b' <;> cases c <;> rfl), k⟩
      · cases e
    · cases e
  | inn =>
    intro pins s σ H x y v u Q I rx ry h
    obtain ⟨S, io, p, q, rel, hp, hq, post⟩ := h
    obtain ⟨b, e, k⟩ := post_opt rel post
    exact (in_ok hu I rx ry rel hp hq e).1 Q k
  | notin =>
    intro pins s σ H x y v u Q I rx ry h
    obtain ⟨S, io, p, q, rel, hp, hq, post⟩ := h
    obtain ⟨b, e, k⟩ := post_opt rel post
    have e : (inV S p q).map (!·) = some b := e
    cases e0 : inV S p q with
    | none => rw [e0] at e; cases e
    | some c =>
      rw [e0] at e
      cases e
      exact (in_ok hu I rx ry rel hp hq e0).2 Q k
end
end TM

/-! TM, part D: subscripts, built-ins, methods by values. -/
namespace TM
open PySem PySem.Spec PyProof.Rows L2
section
variable {X : Cx} {T : Tb} {W : Wish} {S : Sto} {io : Nat → Addr} {H : Hp}
theorem atI_rep {K : PySem.W.Frag} {n : Nat} {ps : List PV} {vs : List V} {k : Int} {p : PV} (h : Reps K n io H ps vs) (e : atI ps k = some p) : ∃ v, atI vs k = some v ∧ Rep K n io H p v := by
  unfold atI at e ⊢
  rw [h.length]
  cases ej : ixN ps.length k with
  | none => rw [ej] at e; cases e
  | some j =>
    rw [ej] at e
    obtain ⟨v, h1, h2⟩ := h.get e
    exact ⟨v, h1, h2⟩
theorem ix_ok : IxR X (LR2 X.K T W (fun p q S => ofO (atV p q S) S)) := by
  intro value slice pins s σ H x y v u Q I rx ry h hs
  obtain ⟨S, io, p, q, rel, hp, hq, post⟩ := h
  have post : Post X.K T W (Rep X.K) S io H Q (ofO (atV p q S) S) := post
  cases ea : atV p q S with
  | none => rw [ea] at post; exact post.elim
  | some r =>
  rw [ea] at post
  have fin : ∀ w, Rep X.K S.length io H r w → Q w H := fun w rw => Post.val (T := T) (W := W) (S := S) (io := io) rel post rw
  clear post
  unfold atV at ea
  split at ea
  · rename_i i k
    obtain ⟨_, rfl⟩ := hp
    cases hq
    cases e : seqOf S i with
    | none => rw [e] at ea; cases ea
    | some xs =>
      rw [e] at ea
      obtain ⟨vs, h1, h2⟩ := rel.sq e
      obtain ⟨w, h3, h4⟩ := atI_rep h2 ea
      exact ix_list value slice pins s σ H _ _ v u Q I rx ry ⟨_, vs, k, w, rfl, rfl, h1, h3, fin _ h4⟩ hs
  · rename_i xs k
    obtain ⟨a, vs, rfl, h1, h2⟩ := hp
    cases hq
    obtain ⟨w, h3, h4⟩ := atI_rep h2 ea
    exact ix_tup value slice pins s σ H _ _ v u Q I rx ry ⟨_, vs, k, w, rfl, rfl, h1, h3, fin _ h4⟩ hs
  · rename_i cs k
    cases hp; cases hq
    split at ea
    · rename_i hl
      cases e2 : atI cs k with
      | none => rw [e2] at ea; cases ea
      | some c =>
        rw [e2] at ea
        cases ea
        exact ix_str value slice pins s σ H _ _ v u Q I rx ry ⟨_, k, c, rfl, rfl, by rw [mkS_len, line_eq]; exact hl, e2, fin _ rfl⟩ hs
    · cases ea
  · cases ea
/-- slices by pure values -/
def LRs (K : PySem.W.Frag) (T : Tb) (W : Wish) : V → Option Int → Option Int → Hp → VK → Prop := fun x lo hi H Q =>
  ∃ S io p, Rel K T S io H ∧ Rep K S.length io H p x ∧ Post K T W (Rep K) S io H Q (cutP p lo hi S)
theorem cutL_rep {K : PySem.W.Frag} {n : Nat} {ps : List PV} {vs : List V} {lo hi : Option Int} (h : Reps K n io H ps vs) : Reps K n io H (cutL ps lo hi) (cutV vs lo hi) := by
  unfold cutL cutV
  rw [h.length]
  exact (h.drop _).take _
theorem sl_ok : SlR X (LRs X.K T W) := by
  intro pins s σ H x v vl vu lo hi sl Q I rx hs pl pu h
  obtain ⟨S, io, p, rel, hp, post⟩ := h
  unfold cutP at post
  split at post
  · rename_i i
    obtain ⟨_, rfl⟩ := hp
    split at post
    · rename_i xs e
      obtain ⟨vs, h1, h2⟩ := rel.sq e
      exact sl_list pins s σ H _ v vl vu lo hi sl Q I rx hs pl pu ⟨_, vs, rfl, h1, Post.lst rel post (cutL_rep h2)⟩
    · exact post.elim
  · rename_i xs
    obtain ⟨a, vs, rfl, h1, h2⟩ := hp
    refine sl_tupA pins s σ H _ v vl vu lo hi sl Q I rx hs pl pu ⟨a, vs, rfl, h1, fun e => ?_, fun _ => Post.tup rel post (cutL_rep h2)⟩
    refine post.val rel ⟨a, vs, rfl, h1, ?_⟩
    have : cutL xs lo hi = xs := by
      unfold cutL
      rw [← h2.length, e.1, e.2]
      simp [h2.length]
    rw [this]; exact h2
  · rename_i cs
    cases hp
    split at post
    · rename_i hl
      refine sl_str pins s σ H _ v vl vu lo hi sl Q I rx hs pl pu ⟨_, rfl, by rw [mkS_len, line_eq]; exact hl, ?_⟩
      have : cutS (mkS cs) lo hi = mkS (cutL cs lo hi) := by
        unfold cutS cutL
        rw [mkS_len]
        rfl
      rw [this]
      exact post.val rel rfl
    · exact post.elim
  · exact post.elim

/-! ### truth -/
theorem truth_ok {K : PySem.W.Frag} {p : PV} {v : V} {k : Bool} (rel : Rel K T S io H) (hp : Rep K S.length io H p v) (e : truth S p = some k) : TruV K v H k := by
  unfold truth at e
  cases p with
  | non => cases hp; cases e; rfl
  | bl b => cases hp; cases e; rfl
  | int i => cases hp; cases e; rfl
  | str cs =>
    cases hp
    simp only at e
    split at e
    · rename_i hl
      cases e
      refine ⟨by rw [mkS_len, line_eq]; exact hl, ?_⟩
      rw [mkS_len]
      cases cs <;> simp
      omega
    · cases e
  | tup ps =>
    obtain ⟨a, vs, rfl, h1, h2⟩ := hp
    cases e
    refine .inr (.inl ⟨vs, h1, ?_⟩)
    have := h2.length
    cases ps <;> cases vs <;> simp_all
  | obj i =>
    obtain ⟨_, rfl⟩ := hp
    have go : ∀ xs, seqOf S i = some xs → k = !xs.isEmpty → TruV K (.ref (io i)) H k := fun xs e2 e3 => by
      obtain ⟨vs, h1, h2⟩ := rel.sq e2
      refine .inl ⟨vs, h1, ?_⟩
      rw [e3]
      have := h2.length
      cases xs <;> cases vs <;> simp_all
    simp only at e
    split at e
    · rename_i xs e1
      cases e
      exact go xs (by unfold seqOf; rw [e1]) rfl
    · rename_i xs e1
      cases e
      exact go xs (by unfold seqOf; rw [e1]) rfl
    · cases e

/-! ### isinstance -/
def tyN : Ty → String
  | .int => "int" | .bool => "bool" | .str => "str" | .tuple => "tuple" | .list => "list"
/-- the type of a value, by its pure one -/
theorem typ_ok {K : PySem.W.Frag} {p : PV} {v : V} {t : Ty} {b : Bool} (rel : Rel K T S io H) (hp : Rep K S.length io H p v) (e : isiV S p t = some b) : ∃ u, TyX K H v (.type u) ∧ ∀ K' : PySem.W.Frag, PySem.W.kitOne K' (.type u) (.type (tyN t)) = some b := by
  unfold isiV at e
  cases p with
  | non => cases hp; cases e; exact ⟨_, .base .non, fun K' => by cases t <;> rfl⟩
  | bl c => cases hp; cases e; exact ⟨_, .base (.bl c), fun K' => by cases t <;> rfl⟩
  | int i => cases hp; cases e; exact ⟨_, .base (.int i), fun K' => by cases t <;> rfl⟩
  | str cs => cases hp; cases e; exact ⟨_, .base (.str _), fun K' => by cases t <;> rfl⟩
  | tup ps =>
    obtain ⟨a, vs, rfl, h1, h2⟩ := hp
    cases e
    rcases h1 with (h1 | ⟨o, h1⟩) | ⟨o, its, n, h1, h3, _⟩
    · exact ⟨_, .base (.tup h1), fun K' => by cases t <;> rfl⟩
    · exact ⟨_, .fTuple h1, fun K' => by cases t <;> rfl⟩
    · exact ⟨_, .kTuple h1 h3, fun K' => by cases t <;> rfl⟩
  | obj i =>
    obtain ⟨_, rfl⟩ := hp
    simp only at e
    split at e
    · rename_i xs e1
      cases e
      obtain ⟨vs, h1, h2⟩ := rel.lst e1
      exact ⟨_, .base (.lst h1), fun K' => by cases t <;> rfl⟩
    · cases e
end
end TM

/-! TM, part E: which expression of the text is which of the intermediate form. -/
namespace TM
open PySem PySem.Spec PyProof.Rows L2


/-- a class of the program: its __init__, its methods and properties by the defs' numbers, its attributes -/
structure CI where
  init : Nat
  meths : List (Str × Nat)
  props : List (Str × Nat)
  attrs : List Str
  deriving DecidableEq
/-- what a global name is -/
inductive GV where
  | blt | fn (f : Nat) | cst (g : Nat) | cls (c : Nat) (ci : CI)
  deriving DecidableEq
abbrev GT := List (Str × GV)
def plainE : Expr → Bool
  | .Starred .. => false
  | .Slice .. => false
  | .Set .. => false
  | _ => true
def nsup : Expr → Bool
  | .Call (.Name _ _) [] [] _ => false
  | _ => true
def tstE : Expr → Bool
  | .UnaryOp .Not _ _ => false
  | .BoolOp .. => false
  | .IfExp .. => false
  | .Compare .. => false
  | _ => true
def noComp : Expr → Bool
  | .ListComp .. => false
  | .SetComp .. => false
  | .DictComp .. => false
  | _ => true
def opB (a b : Operator) : Bool := decide (a = b)
def visB (sc : Scope) (x : Str) : Bool := match sc.names.lookup x with
  | some .local => true
  | some .cell => true
  | some .free => true
  | _ => false
def locB (sc : Scope) (x : Str) : Bool := match sc.names.lookup x with
  | some .local => true
  | some .cell => true
  | _ => false
def glbB (sc : Scope) (x : Str) : Bool := match sc.names.lookup x with
  | some .globalImplicit => true
  | _ => false
def nameB (x : Str) : Bool := !decide (x = "__debug__") && !decide (x = "__classdict__") && !decide (x = "__name__")
def slotB (N : List Str) (x : Str) (i : Nat) : Bool := match N[i]? with
  | some y => decide (y = x)
  | none => false
def cstB : Const → PV → Bool
  | .none, .non => true
  | .bool a, .bl b => a == b
  | .int i, .int j => i == j
  | .str s, .str cs => decide (s = mkS cs)
  | _, _ => false
def gvB (G : GT) (x : Str) (v : GV) : Bool := match G.lookup x with
  | some u => decide (u = v)
  | none => false
/-- class c -/
def clsOf (c : Nat) : GT → Option CI
  | [] => none
  | e :: G => match e.2 with
    | .cls c' ci => if c' = c then some ci else clsOf c G
    | _ => clsOf c G
def isClsB (G : GT) (x : Str) (c : Nat) : Bool := match G.lookup x with
  | some (.cls c' _) => decide (c' = c)
  | _ => false
def fldB (G : GT) (x : Str) (ds : List (Nat × Option Nat)) : Bool := ds.all fun d => match clsOf d.1 G with
  | some ci => match d.2 with
    | some f => decide (ci.props.lookup x = some f)
    | none => ci.attrs.contains x
  | none => false
def methB (G : GT) (x : Str) (ds : List (Nat × Nat)) : Bool := ds.all fun d => match clsOf d.1 G with
  | some ci => decide (ci.meths.lookup x = some d.2)
  | none => false
def setfB (G : GT) (x : Str) (cs : List Nat) : Bool := cs.all fun c => match clsOf c G with
  | some ci => ci.attrs.contains x
  | none => false
def biS : BI → Str
  | .len => "len" | .int => "int" | .abs => "abs" | .min2 => "min" | .max2 => "max" | .tuple => "tuple" | .list => "list" | .sorted => "sorted" | .sum => "sum"
def meS : ME → Str
  | .append => "append" | .pop => "pop" | .index => "index" | .join => "join" | .remove => "remove" | .startswith => "startswith" | .endswith => "endswith" | .count => "count"
def tyS : Ty → Str
  | .int => "int" | .bool => "bool" | .str => "str" | .tuple => "tuple" | .list => "list"
def isTyB (sc : Scope) (G : GT) : Expr → Ty → Bool
  | .Name x _, t => decide (x = tyS t) && glbB sc x && gvB G x .blt
  | _, _ => false
def isTysB (sc : Scope) (G : GT) : List Expr → List Ty → Bool
  | [], [] => true
  | a :: as, t :: ts => isTyB sc G a t && isTysB sc G as ts
  | _, _ => false
mutual
def ckE (gk : Nat → Expr → Bool) (N : List Str) (sc : Scope) (G : GT) : E → Expr → Bool
  | .never, _ => true
  | .var i, a => match a with
    | .Name x _ => slotB N x i && visB sc x && nameB x
    | _ => false
  | .cst p, a => match a with
    | .Constant c _ _ => cstB c p
    | _ => false
  | .glob g, a => match a with
    | .Name x _ => glbB sc x && gvB G x (.cst g) && nameB x
    | _ => false
  | .bin o p q, a => match a with
    | .BinOp x op y _ => opB op (toOp o) && ckE gk N sc G p x && ckE gk N sc G q y
    | _ => false
  | .neg p, a => match a with
    | .UnaryOp .USub x _ => ckE gk N sc G p x
    | _ => false
  | .idx p q, a => match a with
    | .Subscript x y _ => plainE y && ckE gk N sc G p x && ckE gk N sc G q y
    | _ => false
  | .slc p l h, a => match a with
    | .Subscript x (.Slice lo hi none _) _ => ckE gk N sc G p x && ckO gk N sc G l lo && ckO gk N sc G h hi
    | _ => false
  | .cmp o p q, a => match a with
    | .Compare x [op] [y] _ => decide (op = toCop o) && plainE y && ckE gk N sc G p x && ckE gk N sc G q y
    | _ => false
  | .chain o o2 p q r, a => match a with
    | .Compare x [op, op2] [y, z] _ => decide (op = toCop o) && decide (op2 = toCop o2) && plainE z && ckE gk N sc G p x && ckE gk N sc G q y && ckE gk N sc G r z
    | _ => false
  | .andv p q, a => match a with
    | .BoolOp .And [x, y] _ => ckE gk N sc G p x && ckE gk N sc G q y
    | .BoolOp .And (x :: y :: z :: r) pos => ckE gk N sc G p x && ckE gk N sc G q (.BoolOp .And (y :: z :: r) pos)
    | _ => false
  | .orv p q, a => match a with
    | .BoolOp .Or [x, y] _ => ckE gk N sc G p x && ckE gk N sc G q y
    | .BoolOp .Or (x :: y :: z :: r) pos => ckE gk N sc G p x && ckE gk N sc G q (.BoolOp .Or (y :: z :: r) pos)
    | _ => false
  | .notv p, a => match a with
    | .UnaryOp .Not x _ => ckE gk N sc G p x
    | _ => false
  | .ife t p q, a => match a with
    | .IfExp c x y _ => ckT gk N sc G t c && ckE gk N sc G p x && ckE gk N sc G q y
    | _ => false
  | .call f ps, a => match a with
    | .Call (.Name x _) xs [] _ => glbB sc x && gvB G x (.fn f) && nameB x && ckEs gk N sc G ps xs
    | _ => false
  | .bi b ps, a => match a with
    | .Call (.Name x _) (y :: ys) [] _ => glbB sc x && gvB G x .blt && decide (x = biS b) && ckEs gk N sc G ps (y :: ys)
    | _ => false
  | .isi p ts, a => match a with
    | .Call (.Name x _) [y, z] [] _ => glbB sc x && gvB G x .blt && decide (x = "isinstance") && plainE y && ckE gk N sc G p y && (match z with
      | .Tuple zs _ _ => isTysB sc G zs ts && decide (zs.length ≤ 100) && !ts.isEmpty
      | z => match ts with
        | [t] => isTyB sc G z t
        | _ => false)
    | _ => false
  | .me m o ps, a => match a with
    | .Call (.Attribute x name apos) xs [] cpos => decide (apos.endLine = cpos.line) && nsup x && decide (name = meS m) && decide (xs.length < 20) && ckE gk N sc G o x && ckEs gk N sc G ps xs
    | _ => false
  | .lst ps, a => match a with
    | .List xs _ => ckEs gk N sc G ps xs
    | _ => false
  | .tup ps, a => match a with
    | .Tuple xs _ _ => ckEs gk N sc G ps xs
    | _ => false
  | .gcall g, a => gk g a && plainE a
  | .fld o x ds, a => match a with
    | .Attribute y name _ => decide (name = x) && nsup y && fldB G x ds && ckE gk N sc G o y
    | _ => false
  | .mcall o x ds ps, a => match a with
    | .Call (.Attribute y name apos) xs [] cpos => decide (name = x) && decide (apos.endLine = cpos.line) && nsup y && decide (xs.length < 20) && methB G x ds && ckE gk N sc G o y && ckEs gk N sc G ps xs
    | _ => false
  | .make c f ps, a => match a with
    | .Call (.Name x _) xs [] _ => glbB sc x && isClsB G x c && nameB x && (match clsOf c G with
      | some ci => decide (ci.init = f)
      | none => false) && ckEs gk N sc G ps xs
    | _ => false
  | .isc p c, a => match a with
    | .Call (.Name x _) [y, .Name z _] [] _ => glbB sc x && gvB G x .blt && decide (x = "isinstance") && plainE y && ckE gk N sc G p y && glbB sc z && isClsB G z c && (clsOf c G).isSome && nameB z
    | _ => false
  | .sset p, a => match a with
    | .Call (.Name x _) [.Call (.Name y _) [z] [] _] [] _ => glbB sc x && gvB G x .blt && decide (x = "sorted") && glbB sc y && gvB G y .blt && decide (y = "set") && plainE z && ckE gk N sc G p z
    | _ => false
  | .lset p, a => match a with
    | .Call (.Name x _) [.Call (.Name y _) [z] [] _] [] _ => glbB sc x && gvB G x .blt && decide (x = "len") && glbB sc y && gvB G y .blt && decide (y = "set") && plainE z && ckE gk N sc G p z
    | _ => false
  | .dnew, a => match a with
    | .Dict [] [] _ => true
    | _ => false
  | .dget d k p, a => match a with
    | .Call (.Attribute x name apos) [y, z] [] cpos => decide (name = "get") && decide (apos.endLine = cpos.line) && nsup x && plainE y && plainE z && ckE gk N sc G d x && ckE gk N sc G k y && ckE gk N sc G p z
    | _ => false
  | .didx d k, a => match a with
    | .Subscript x y _ => plainE y && ckE gk N sc G d x && ckE gk N sc G k y
    | _ => false
  | .din neg k d, a => match a with
    | .Compare x [op] [y] _ => decide (op = if neg then .NotIn else .In) && plainE y && ckE gk N sc G k x && ckE gk N sc G d y
    | _ => false
  | .leni p ds, a => match a with
    | .Call (.Name x _) [y] [] _ => glbB sc x && gvB G x .blt && decide (x = "len") && plainE y && methB G "__len__" ds && ckE gk N sc G p y
    | _ => false
  | .oeq p q ds, a => match a with
    | .Compare x [op] [y] _ => decide (op = .Eq) && plainE y && methB G "__eq__" ds && ckE gk N sc G p x && ckE gk N sc G q y
    | _ => false
def ckEs (gk : Nat → Expr → Bool) (N : List Str) (sc : Scope) (G : GT) : List E → List Expr → Bool
  | [], xs => match xs with
    | [] => true
    | _ => false
  | p :: ps, xs => match xs with
    | x :: xs => plainE x && ckE gk N sc G p x && ckEs gk N sc G ps xs
    | _ => false
def ckO (gk : Nat → Expr → Bool) (N : List Str) (sc : Scope) (G : GT) : Option E → Option Expr → Bool
  | none, a => match a with
    | none => true
    | _ => false
  | some p, a => match a with
    | some x => ckE gk N sc G p x
    | _ => false
def ckT (gk : Nat → Expr → Bool) (N : List Str) (sc : Scope) (G : GT) : T → Expr → Bool
  | .e e, a => (tstE a && ckE gk N sc G e a) || (match e with
    | .cmp .. => ckE gk N sc G e a
    | .chain .. => ckE gk N sc G e a
    | _ => false)
  | .and p q, a => match a with
    | .BoolOp .And [x, y] _ => ckT gk N sc G p x && ckT gk N sc G q y
    | .BoolOp .And (x :: y :: z :: r) pos => ckT gk N sc G p x && ckT gk N sc G q (.BoolOp .And (y :: z :: r) pos)
    | _ => false
  | .or p q, a => match a with
    | .BoolOp .Or [x, y] _ => ckT gk N sc G p x && ckT gk N sc G q y
    | .BoolOp .Or (x :: y :: z :: r) pos => ckT gk N sc G p x && ckT gk N sc G q (.BoolOp .Or (y :: z :: r) pos)
    | _ => false
  | .not t, a => match a with
    | .UnaryOp .Not x _ => ckT gk N sc G t x
    | _ => false
end

/-! ### facts of the syntax -/
theorem star_cons {e : Expr} {es : List Expr} {env : PySem.Env} (h : plainE e = true) : starEach (e :: es) env = (false, eval e env) :: starEach es env := by
  cases e <;> first | rfl | cases h
def plainEs (es : List Expr) : Bool := es.all plainE
theorem star_any {pos : Pos} {env : PySem.Env} : ∀ {es : List Expr}, plainEs es = true → (backTo pos (starEach es env)).any (·.1) = false
  | [], _ => rfl
  | e :: es, h => by
    simp only [plainEs, List.all_cons, Bool.and_eq_true] at h
    rw [star_cons h.1]
    show (false || (backTo pos (starEach es env)).any (·.1)) = false
    rw [star_any (es := es) h.2]; rfl
theorem star_few {pos : Pos} {env : PySem.Env} : ∀ {es : List Expr}, plainEs es = true → (backTo pos (starEach es env)).all (fun x => !x.1) = true
  | [], _ => rfl
  | e :: es, h => by
    simp only [plainEs, List.all_cons, Bool.and_eq_true] at h
    rw [star_cons h.1]
    show (true && (backTo pos (starEach es env)).all (fun x => !x.1)) = true
    rw [star_few (es := es) h.2]; rfl
theorem plain_ix {b : Expr} (h : plainE b = true) : PlainIx b := by
  cases b <;> first | exact fun _ _ => rfl | cases h
theorem plain_mark {op : CmpOp} {b : Expr} (h : plainE b = true) : behindInMarks op b = false := by
  cases b <;> first | rfl | cases h
theorem nsup_base {o : Expr} {x : Str} {env : PySem.Env} {wh : Sem Value} (h : nsup o = true) : attributeBase o x env wh = wh := by
  unfold attributeBase
  split
  · cases h
  · rfl
theorem tst_truth {e : Expr} {env : PySem.Env} (h : tstE e = true) : ∀ whole, isTrue e env whole = (do let v ← whole; standAt e.pos; holding [v] (truthy v)) := by
  intro whole
  cases e with
  | UnaryOp op x pos => cases op <;> first | rfl | cases h
  | _ => first | rfl | cases h
theorem noComp_swap {e : Expr} {t : Option Expr} {l : Nat} {env : PySem.Env} (h : noComp e = true) : swapsWith e t l env = pure false := by
  cases e <;> first | rfl | cases h
theorem ckEs_plain {N : List Str} {sc : Scope} {G : GT} : ∀ {ps : List E} {xs : List Expr}, ckEs gk N sc G ps xs = true → plainEs xs = true
  | [], [], _ => rfl
  | [], _ :: _, h => by simp [ckEs] at h
  | _ :: _, [], h => by simp [ckEs] at h
  | p :: ps, x :: xs, h => by
    simp only [ckEs, Bool.and_eq_true] at h
    simp only [plainEs, List.all_cons, Bool.and_eq_true]
    exact ⟨h.1.1, ckEs_plain h.2⟩
end TM

/-! TM: sorting. -/
namespace TM
open PySem PySem.Spec PyProof.Rows L2 PySem.W

section
variable {α : Type} {le : α → α → Bool}
theorem insV_mem {x y : α} : ∀ {l : List α}, y ∈ insV le x l → y = x ∨ y ∈ l
  | [], h => by simp [insV] at h; exact .inl h
  | z :: zs, h => by
    unfold insV at h
    split at h
    · rcases List.mem_cons.mp h with h | h
      · exact .inl h
      · exact .inr h
    · rcases List.mem_cons.mp h with h | h
      · exact .inr (by simp [h])
      · rcases insV_mem h with h | h
        · exact .inl h
        · exact .inr (by simp [h])
theorem insV_pair (h : TotalLe le) {x : α} : ∀ {l : List α}, l.Pairwise (fun a b => le a b = true) → (insV le x l).Pairwise (fun a b => le a b = true)
  | [], _ => by simp [insV]
  | z :: zs, p => by
    unfold insV
    have p' := List.pairwise_cons.mp p
    split
    · rename_i hx
      refine List.pairwise_cons.mpr ⟨fun b hb => ?_, p⟩
      rcases List.mem_cons.mp hb with rfl | hb
      · exact hx
      · exact h.trans _ _ _ hx (p'.1 b hb)
    · rename_i hx
      refine List.pairwise_cons.mpr ⟨fun b hb => ?_, insV_pair h p'.2⟩
      rcases insV_mem hb with rfl | hb
      · rcases h.total b z with q | q
        · exact absurd q hx
        · exact q
      · exact p'.1 b hb
theorem isort_pair (h : TotalLe le) : ∀ l : List α, (isort le l).Pairwise (fun a b => le a b = true)
  | [] => List.Pairwise.nil
  | x :: xs => insV_pair h (isort_pair h xs)
theorem insV_filter (h : TotalLe le) (c x : α) : ∀ l : List α, (insV le x l).filter (sameRank le c) = (x :: l).filter (sameRank le c)
  | [] => rfl
  | z :: zs => by
    unfold insV
    split
    · rfl
    · rename_i hx
      rw [List.filter_cons, insV_filter h c x zs, List.filter_cons, List.filter_cons, List.filter_cons]
      cases e1 : sameRank le c x with
      | false => simp
      | true =>
        cases e2 : sameRank le c z with
        | false => simp
        | true =>
          unfold sameRank at e1 e2
          rw [Bool.and_eq_true] at e1 e2
          exact absurd (h.trans _ _ _ e1.2 e2.1) hx
theorem isort_filter (h : TotalLe le) (c : α) : ∀ l : List α, (isort le l).filter (sameRank le c) = l.filter (sameRank le c)
  | [] => rfl
  | x :: xs => by
    unfold isort
    rw [insV_filter h, List.filter_cons, List.filter_cons, isort_filter h c xs]
theorem isort_eq (h : TotalLe le) (l : List α) : isort le l = l.mergeSort le := sort_unique h (isort_pair h l) fun c => isort_filter h c l
theorem insV_map {β : Type} {r : β → β → Bool} (f : α → β) (x : α) : ∀ l : List α, (∀ y ∈ l, le x y = r (f x) (f y)) → (insV le x l).map f = insV r (f x) (l.map f)
  | [], _ => rfl
  | y :: ys, h => by
    simp only [insV, List.map_cons]
    rw [h y (by simp)]
    split
    · rfl
    · rw [List.map_cons, insV_map f x ys fun z hz => h z (by simp [hz])]
theorem isort_mem {x : α} : ∀ {l : List α}, x ∈ isort le l → x ∈ l
  | [], h => h
  | y :: ys, h => by
    rcases insV_mem h with rfl | h
    · simp
    · have := isort_mem h
      simp [this]
theorem isort_map {β : Type} {r : β → β → Bool} (f : α → β) : ∀ l : List α, (∀ x ∈ l, ∀ y ∈ l, le x y = r (f x) (f y)) → (isort le l).map f = isort r (l.map f)
  | [], _ => rfl
  | x :: xs, h => by
    simp only [isort, List.map_cons]
    rw [insV_map f x _ fun y hy => h x (by simp) y (by simp [isort_mem hy]), isort_map f xs fun y hy z hz => h y (by simp [hy]) z (by simp [hz])]
theorem insV_len (x : α) : ∀ l : List α, (insV le x l).length = l.length + 1
  | [] => rfl
  | y :: ys => by
    unfold insV
    split
    · rfl
    · simp [insV_len x ys]
theorem isort_len : ∀ l : List α, (isort le l).length = l.length
  | [] => rfl
  | x :: xs => by simp [isort, insV_len, isort_len xs]
end

/-- what a value reads as, None where it is no datum -/
def encP (p : PV) : PyData := (dat p).getD .none
theorem encP_eq {p : PV} (h : pur p = true) : dat p = some (encP p) := by
  obtain ⟨d, e, _⟩ := dat_pur h
  unfold encP
  rw [e]; rfl
theorem reps_zip {K : PySem.W.Frag} {n : Nat} {io : Nat → Addr} {H : Hp} : ∀ {ps : List PV} {xs : List V}, Reps K n io H ps xs → ∀ b ∈ ps.zip xs, Rep K n io H b.1 b.2
  | [], _, h, b, hb => by simp at hb
  | p :: ps, _, h, b, hb => by
    obtain ⟨x, r, rfl, h1, h2⟩ := h
    rcases List.mem_cons.mp hb with rfl | hb
    · exact h1
    · exact reps_zip h2 b hb
theorem zip_reps {K : PySem.W.Frag} {n : Nat} {io : Nat → Addr} {H : Hp} : ∀ {bs : List (PV × V)}, (∀ b ∈ bs, Rep K n io H b.1 b.2) → Reps K n io H (bs.map (·.1)) (bs.map (·.2))
  | [], _ => rfl
  | b :: bs, h => ⟨_, _, rfl, h b (by simp), zip_reps fun c hc => h c (by simp [hc])⟩
theorem vals_zip : ∀ {ps : List PV} {xs : List V} {us : List Value}, ps.length = xs.length → Vals xs us → EachIs (fun u (b : PV × V) => RelV b.2 u) us (ps.zip xs)
  | [], [], _, _, h => by cases h; exact .nil
  | p :: ps, x :: xs, _, e, h => by
    cases h with
    | cons h1 h2 => exact .cons h1 (vals_zip (by simpa using e) h2)
  | [], _ :: _, _, e, _ => by simp at e
  | _ :: _, [], _, e, _ => by simp at e
theorem zip_vals : ∀ {bs : List (PV × V)} {us : List Value}, EachIs (fun u (b : PV × V) => RelV b.2 u) us bs → Vals (bs.map (·.2)) us
  | _, _, .nil => .nil
  | _, _, .cons h t => .cons h (zip_vals t)
theorem zip_reads {X : Cx} {pins : List (Addr × Obj)} {σ : L2.St} {H : Hp} {s : Shared} (I : Inv X pins σ H s) {n : Nat} {io : Nat → Addr} : ∀ {bs : List (PV × V)} {us : List Value}, (∀ b ∈ bs, Rep X.K n io H b.1 b.2 ∧ pur b.1 = true) → EachIs (fun u (b : PV × V) => RelV b.2 u) us bs →
    EachIs (fun u (b : PV × V) => ∃ as, Reads s.heap u (encP b.1) as) us bs
  | _, _, _, .nil => .nil
  | b :: bs, _, h, .cons r t => .cons (Dp.reads I _ _ _ (dat_dp (encP_eq (h b (by simp)).2) (h b (by simp)).1) r) (zip_reads I (fun c hc => h c (by simp [hc])) t)
theorem sortB_ok {ps : List PV} (h : sortB ps = true) : (∀ p ∈ ps, pur p = true) ∧ (∀ p ∈ ps, ∀ q ∈ ps, alk p q = true) ∧ (∀ p ∈ ps, dep p ≤ 60) ∧ ((∀ p ∈ ps, ntup p = true) ∨ ∀ p ∈ ps, stup p = true) ∧ ps.length ≤ sizeLine := by
  simp only [sortB, Bool.and_eq_true, Bool.or_eq_true, List.all_eq_true, decide_eq_true_eq] at h
  refine ⟨h.1.1.1.1, h.1.1.1.2, h.1.1.2, h.1.2, ?_⟩
  rw [line_eq]; exact h.2
theorem zip_fst_mem {α β : Type} {xs : List α} {ys : List β} {b : α × β} (h : b ∈ xs.zip ys) : b.1 ∈ xs := (List.of_mem_zip h).1
theorem zip_map_fst {α β : Type} : ∀ {xs : List α} {ys : List β}, xs.length = ys.length → (xs.zip ys).map (·.1) = xs
  | [], [], _ => rfl
  | x :: xs, y :: ys, h => by
    simp only [List.zip_cons_cons, List.map_cons]
    rw [zip_map_fst (by simpa using h)]
  | [], _ :: _, h => by simp at h
  | _ :: _, [], h => by simp at h
/-- what sorting data needs and gives -/
structure SortOk (A : Around) (K : PySem.W.Frag) (n : Nat) (io : Nat → Addr) (H : Hp) (ps : List PV) (bs : List (PV × V)) : Prop where
  al : AllAlike (bs.map fun b => encP b.1)
  sb : Sortable (bs.map fun b => encP b.1)
  ln : bs.length ≤ sizeLine
  dp : ∀ b, b ∈ bs → A.units + 2 + (encP b.1).depth < cLine
  out : Reps K n io H (isort leP ps) ((bs.mergeSort (dataLe false fun b => encP b.1)).map (·.2))
  ol : (bs.mergeSort (dataLe false fun b => encP b.1)).length ≤ sizeLine
theorem sort_ok {A : Around} (hu : A.units + 64 < cLine) {K : PySem.W.Frag} {n : Nat} {io : Nat → Addr} {H : Hp} {ps : List PV} {xs : List V} (hr : Reps K n io H ps xs) (hs : sortB ps = true) : SortOk A K n io H ps (ps.zip xs) := by
  obtain ⟨h1, h2, h3, h4, h5⟩ := sortB_ok hs
  have hl : ps.length = xs.length := hr.length.symm
  have hz : (ps.zip xs).length = ps.length := by rw [List.length_zip, hl, Nat.min_self]
  have e : ∀ b ∈ ps.zip xs, dat b.1 = some (encP b.1) := fun b hb => encP_eq (h1 _ (zip_fst_mem hb))
  have tot : TotalLe (dataLe false fun b : PV × V => encP b.1) := sortLe_total _ _ _
  refine ⟨?_, ?_, by rw [hz]; exact h5, fun b hb => ?_, ?_, by rw [List.length_mergeSort, hz]; exact h5⟩
  · intro d hd d' hd'
    obtain ⟨b, hb, rfl⟩ := List.mem_map.mp hd
    obtain ⟨c, hc, rfl⟩ := List.mem_map.mp hd'
    exact (alk_dat (e b hb) (e c hc) (h2 _ (zip_fst_mem hb) _ (zip_fst_mem hc))).1
  · rcases h4 with h4 | h4
    · refine .inl fun d hd => ?_
      obtain ⟨b, hb, rfl⟩ := List.mem_map.mp hd
      have q := h4 _ (zip_fst_mem hb)
      have w := e b hb
      cases hp : b.1 with
      | tup qs =>
        rw [hp] at q w
        cases qs with
        | nil => simp [ntup] at q
        | cons y ys =>
          simp only [dat, datL] at w
          split at w
          · simp at w
            exact ⟨_, _, w.symm⟩
          · simp at w
      | _ => rw [hp] at q; simp [ntup] at q
    · refine .inr fun d hd => ?_
      obtain ⟨b, hb, rfl⟩ := List.mem_map.mp hd
      have q := h4 _ (zip_fst_mem hb)
      have w := e b hb
      cases hp : b.1 with
      | non => rw [hp] at q; simp [stup] at q
      | tup _ => rw [hp] at q; simp [stup] at q
      | obj _ => rw [hp] at w; cases w
      | bl _ => rw [hp] at w; simp [dat] at w; rw [← w]; exact ⟨(fun z => by cases z), fun _ z => by cases z⟩
      | int _ => rw [hp] at w; simp [dat] at w; rw [← w]; exact ⟨(fun z => by cases z), fun _ z => by cases z⟩
      | str _ => rw [hp] at w; simp [dat] at w; rw [← w]; exact ⟨(fun z => by cases z), fun _ z => by cases z⟩
  · obtain ⟨d, e1, e2⟩ := dat_pur (h1 _ (zip_fst_mem hb))
    have := h3 _ (zip_fst_mem hb)
    rw [e b hb] at e1
    cases e1
    omega
  · have q := isort_map (le := dataLe false fun b : PV × V => encP b.1) (r := leP) (·.1) (ps.zip xs) fun b hb c hc => by
      show (!dataLt (encP c.1) (encP b.1)) = !ltP c.1 b.1
      rw [(alk_dat (e c hc) (e b hb) (h2 _ (zip_fst_mem hc) _ (zip_fst_mem hb))).2.2]
    rw [zip_map_fst hl] at q
    rw [← q, ← isort_eq tot]
    exact zip_reps fun b hb => reps_zip hr b (isort_mem hb)
end TM

/-! TM, part F: expressions are sound. -/
namespace TM
open PySem PySem.Spec PyProof.Rows L2

abbrev PXT := PX → Value → Option Addr → Hp → Prop
/-- a wish of exceptions as the hand layer says it -/
def EW (K : PySem.W.Frag) (T : Tb) (R : PXT) (W : Wish) : XK := fun cls d H => ∃ x S io, Rel K T S io H ∧ R x cls d H ∧ W x S io H
def spOf (K : PySem.W.Frag) (T : Tb) (R : PXT) (np : Nat) (c : List PV → Sto → Res PV) : Sp := fun vs H Q E =>
  vs.length = np ∧ ∃ S io ps, Rel K T S io H ∧ Reps K S.length io H ps vs ∧ Post K T (fun x S' io' H' => ∀ cls d, R x cls d H' → E cls d H') (Rep K) S io H Q (c ps S)
/-- the def at fa keeps what cf f says -/
def FnP (P : Program) (w : World) (K : PySem.W.Frag) (mg : Str → Option Value) (base : Heap) (T : Tb) (R : PXT) (k : Nat) (cf : Nat → List PV → Sto → Res PV) (fa : Addr) (f : Nat) : Prop :=
  ∃ fd ps, Binds K fd ps [] ∧ (∀ as S, cf f as S ≠ .bad → as.length = ps.length) ∧ FnOk P w K mg base (L2.CX P w) k fa fd ps (spOf K T R ps.length (cf f))
/-- what of the text a class is known by -/
structure ClsK (K : PySem.W.Frag) (C : Addr) (ci : CI) : Prop where
  cl : Cls K C
  att : ∀ y ∈ ci.attrs, NoAttr K C y
  isC : C8.InsC K C
  nis : ∀ t : String, t ∈ ["NoneType", "bool", "int", "str", "tuple", "list"] → PySem.W.kitOne K (.type t) (.ref C) = some false
structure ClsOk (P : Program) (w : World) (K : PySem.W.Frag) (mg : Str → Option Value) (base : Heap) (T : Tb) (R : PXT) (k : Nat) (cf : Nat → List PV → Sto → Res PV) (C : Addr) (ci : CI) : Prop where
  cls : ClsK K C ci
  mkd : ∃ fa, Mk K C fa ∧ FnP P w K mg base T R k cf fa ci.init
  meth : ∀ y f, ci.meths.lookup y = some f → ∃ fa, Meth K C y fa ∧ FnP P w K mg base T R k cf fa f
  prop : ∀ y f, ci.props.lookup y = some f → ∃ pa fa, PropOf K C y pa fa ∧ FnP P w K mg base T R k cf fa f
/-- the program's names: built-ins, defs at level k, constants, classes -/
structure PG (P : Program) (w : World) (K : PySem.W.Frag) (mg : Str → Option Value) (base : Heap) (T : Tb) (R : PXT) (k : Nat) (cf : Nat → List PV → Sto → Res PV) (gl : Nat → PV) (G : GT) : Prop where
  blt : ∀ x, gvB G x .blt = true → mg x = none
  fn : ∀ x f, gvB G x (.fn f) = true → ∃ fa fd ps, mg x = some (.ref fa) ∧ PySem.W.keepIn K (.ref fa) = true ∧ Binds K fd ps [] ∧ (∀ as S, cf f as S ≠ .bad → as.length = ps.length) ∧
    FnOk P w K mg base (L2.CX P w) k fa fd ps (spOf K T R ps.length (cf f))
  cst : ∀ x g, gvB G x (.cst g) = true → ∃ u v, mg x = some u ∧ RelV v u ∧ ∀ n io H, Rep K n io H (gl g) v
  cls : ∀ c ci, clsOf c G = some ci → ClsOk P w K mg base T R k cf (T.cl c) ci
  cnm : ∀ x c, isClsB G x c = true → mg x = some (.ref (T.cl c))
/-- what is known of a context -/
structure Cok (X : Cx) (k : Nat) (T : Tb) (R : PXT) (W : Wish) (N : List Str) (sc : Scope) : Prop where
  calm : X.calm = true
  nd : N.Nodup
  hN : X.N = N
  hsc : X.env.scope = sc
  room1 : Room (k + 1) X.A
  pass : Passes (L2.CX X.prog X.w) X (EW X.K T R W)
  own : PassesOwn (model X.prog X.w) X.A X.env X.xe
theorem Cok.room {X : Cx} {k : Nat} {T : Tb} {R : PXT} {W : Wish} {N : List Str} {sc : Scope} (C : Cok X k T R W N sc) : Room k X.A := C.room1.mono (Nat.le_succ k)
/-- what is known of a context's names that are stored to -/
structure CokP (X : Cx) (N : List Str) (sc : Scope) : Prop where
  calm : X.calm = true
  nd : N.Nodup
  hN : X.N = N
  loc : ∀ x, locB sc x = true → L2.Loc X.env.scope x ∧ (X.fn x = true ∨ X.env.scope.names.lookup x = some .local)
theorem slot_ofP {X : Cx} {N : List Str} {sc : Scope} {x : Str} {i : Nat} (C : CokP X N sc) (h : slotB N x i = true) : X.N[i]? = some x := by
  unfold slotB at h
  rw [C.hN]
  split at h
  · rename_i y e
    rw [e, of_decide_eq_true h]
  · cases h
theorem PE.imp {X : Cx} {a : Expr} {t t' : TE} (h : PE X a t) (i : ∀ s H Q, t' s H Q → t s H Q) : PE X a t' := ⟨fun pins s σ H Q I q => h.run pins s σ H Q I (i _ _ _ q)⟩
theorem PT.imp {X : Cx} {a : Expr} {t t' : TT} (h : PT X a t) (i : ∀ s H Q, t' s H Q → t s H Q) : PT X a t' := ⟨fun pins s σ H Q I q => h.run pins s σ H Q I (i _ _ _ q)⟩
theorem PW.imp {X : Cx} {a : Expr} {t t' : TT} (h : PW X a t) (i : ∀ s H Q, t' s H Q → t s H Q) : PW X a t' := ⟨fun wh pins s σ H Q I q => h.run wh pins s σ H Q I (i _ _ _ q)⟩
theorem Post.wish {a b : Type} {K : PySem.W.Frag} {T : Tb} {W W' : Wish} {R : Nat → (Nat → Addr) → Hp → a → b → Prop} {S : Sto} {io : Nat → Addr} {H : Hp} {Q : b → Hp → Prop} {r : Res a}
    (h : Post K T W R S io H Q r) (i : ∀ x S io H, Rel K T S io H → W x S io H → W' x S io H) : Post K T W' R S io H Q r := by
  cases r with
  | ok p S' => exact h
  | exc x S' => exact fun io' H' e l rel => i _ _ _ _ rel (h io' H' e l rel)
  | bad => exact h

section
variable {X : Cx} {k : Nat} {T : Tb} {R : PXT} {W : Wish} {N : List Str} {sc : Scope} {cf : Nat → List PV → Sto → Res PV} {gl : Nat → PV} {gf : Nat → Env → Sto → Res PV} {gk : Nat → Expr → Bool} {G : GT}
/-- a reading lifted -/
abbrev LE (X : Cx) (T : Tb) (W : Wish) (m : Env → Sto → Res PV) : TE := lift X.K T W (Rep X.K) m
abbrev LA (X : Cx) (T : Tb) (W : Wish) (m : Env → Sto → Res (List PV)) : TA := lift X.K T W (Reps X.K) m
abbrev LT (X : Cx) (T : Tb) (W : Wish) (m : Env → Sto → Res Bool) : TT := lift X.K T W (fun _ _ _ a b => b = a) m
abbrev LO (X : Cx) (T : Tb) (W : Wish) (m : Env → Sto → Res (Option Int)) : TO := lift X.K T W (fun _ _ _ a b => b = a) m
theorem vis_of {x : Str} (h : visB sc x = true) : Vis sc x := by
  unfold visB at h
  unfold Vis
  split at h
  · exact .inl (by assumption)
  · exact .inr (.inl (by assumption))
  · exact .inr (.inr (by assumption))
  · cases h
theorem loc_of {x : Str} (h : locB sc x = true) : L2.Loc sc x := by
  unfold locB at h
  unfold L2.Loc
  split at h
  · exact .inl (by assumption)
  · exact .inr (by assumption)
  · cases h
theorem glb_of {x : Str} (C : Cok X k T R W N sc) (h : glbB sc x = true) : Gl X x := by
  unfold glbB at h
  unfold Gl Env.kindOf
  rw [C.hsc]
  split at h
  · assumption
  · cases h
theorem slot_of {x : Str} {i : Nat} (C : Cok X k T R W N sc) (h : slotB N x i = true) : X.N[i]? = some x := by
  unfold slotB at h
  rw [C.hN]
  split at h
  · rename_i y e
    rw [e, of_decide_eq_true h]
  · cases h
theorem name_of {x : Str} (h : nameB x = true) : (x == ("__debug__" : Str)) = false ∧ (x == ("__classdict__" : Str)) = false ∧ x ≠ ("__name__" : Str) := by
  unfold nameB at h
  simp only [Bool.and_eq_true, Bool.not_eq_true', decide_eq_false_iff_not] at h
  exact ⟨beq_eq_false_iff_ne.mpr h.1.1, beq_eq_false_iff_ne.mpr h.1.2, h.2⟩
theorem cst_rep {K : PySem.W.Frag} {n : Nat} {io : Nat → Addr} {H : Hp} {c : Const} {p : PV} (h : cstB c p = true) : ∃ v, Rep K n io H p v ∧ ∀ {j pos}, PE X (.Constant c j pos) (tC v) := by
  cases c <;> cases p <;> simp only [cstB, reduceCtorEq, Bool.false_eq_true] at h
  · exact ⟨.non, rfl, pe_non⟩
  · simp at h; subst h; exact ⟨.bl _, rfl, pe_bl⟩
  · simp at h; subst h; exact ⟨.int _, rfl, pe_int⟩
  · have e := of_decide_eq_true h
    subst e
    exact ⟨.str _, rfl, pe_str⟩
/-- a call by pure values -/
def LRb (K : PySem.W.Frag) (T : Tb) (W : Wish) (f : List PV → Sto → Res PV) : List V → Hp → VK → Prop := fun xs H Q =>
  ∃ S io ps, Rel K T S io H ∧ Reps K S.length io H ps xs ∧ Post K T W (Rep K) S io H Q (f ps S)
def biF : BI → Value
  | .len => .builtin "len" | .int => .type "int" | .abs => .builtin "abs" | .min2 => .builtin "min" | .max2 => .builtin "max" | .tuple => .type "tuple" | .list => .type "list" | .sorted => .builtin "sorted" | .sum => .builtin "sum"
theorem rep1 {K : PySem.W.Frag} {n : Nat} {io : Nat → Addr} {H : Hp} {p : PV} {xs : List V} (h : Reps K n io H [p] xs) : ∃ x, xs = [x] ∧ Rep K n io H p x := by
  obtain ⟨x, r, rfl, h1, h2⟩ := h
  exact ⟨x, by rw [show r = [] from h2], h1⟩
theorem rep2 {K : PySem.W.Frag} {n : Nat} {io : Nat → Addr} {H : Hp} {p q : PV} {xs : List V} (h : Reps K n io H [p, q] xs) : ∃ x y, xs = [x, y] ∧ Rep K n io H p x ∧ Rep K n io H q y := by
  obtain ⟨x, r, rfl, h1, h2⟩ := h
  obtain ⟨y, rfl, h3⟩ := rep1 h2
  exact ⟨x, y, rfl, h1, h3⟩
theorem len_ok {S : Sto} {io : Nat → Addr} {H : Hp} {K : PySem.W.Frag} {p : PV} {x : V} {n : Int} (rel : Rel K T S io H) (hp : Rep K S.length io H p x) (h : lenV S p = some n) : ∃ m, LenV K x H m ∧ n = (m : Int) := by
  unfold lenV at h
  split at h
  · rename_i cs
    cases hp
    split at h
    · rename_i hl
      cases h
      exact ⟨cs.length, ⟨by rw [mkS_len, line_eq]; exact hl, (mkS_len cs).symm⟩, rfl⟩
    · cases h
  · rename_i xs
    obtain ⟨a, vs, rfl, h1, h2⟩ := hp
    cases h
    exact ⟨xs.length, .inr ⟨vs, h1, h2.length.symm⟩, rfl⟩
  · rename_i i
    obtain ⟨_, rfl⟩ := hp
    cases e : seqOf S i with
    | none => rw [e] at h; cases h
    | some xs =>
      rw [e] at h
      cases h
      obtain ⟨vs, h1, h2⟩ := rel.sq e
      exact ⟨xs.length, .inl ⟨vs, h1, h2.length.symm⟩, rfl⟩
  · cases h
theorem vals_pt : ∀ {vs : List V} {us : List Value}, us.length = vs.length → (∀ (i : Nat) (v : V) (u : Value), vs[i]? = some v → us[i]? = some u → RelV v u) → Vals vs us
  | [], [], _, _ => .nil
  | [], _ :: _, h, _ => by simp at h
  | _ :: _, [], h, _ => by simp at h
  | v :: vs, u :: us, h, k => .cons (k 0 v u rfl rfl) (vals_pt (by simpa using h) fun i v u h1 h2 => k (i + 1) v u (by simpa using h1) (by simpa using h2))
/-- list(text) -/
theorem list_str {X : Cx} (hc : X.calm = true) : CallR X (.type "list") (fun xs H Q => ∃ cs : List Nat, xs = [.str (mkS cs)] ∧ (mkS cs).length ≤ 16000 ∧ ∀ l, H l = none → Q (.ref l) (upd H l (.lst (cs.map fun c => V.str (mkS [c]))))) := by
  intro pins s σ H xs us Q I r h
  obtain ⟨cs, rfl, hl, q⟩ := h
  obtain ⟨u, rfl, rx⟩ := vals1 r
  obtain ⟨t, rfl⟩ := rx
  have hz := hl
  rw [mkS_len] at hz
  refine PySem.call_list_str (hn := by show (mkS cs).length ≤ _; rw [line_eq]; unfold LINE; omega) (I.ok.hd hc) (mkS cs) t fun h' tk acc c kp e ia => ?_
  refine ⟨.ref s.heap.objs.size, upd H s.heap.objs.size (.lst (cs.map fun c => V.str (mkS [c]))), I.laid (t' := tk) kp (Nat.le_refl _) (show ObjOk X.prog X.w _ h' _ (.lst _) from ⟨by rw [List.length_map, line_eq]; unfold LINE; omega, acc.toList, c, vals_pt ?_ ?_, by simpa using e⟩), rfl, q _ (I.hok.fresh (Nat.le_refl _))⟩
  · rw [List.length_map, Array.length_toList, ia.1]
    exact mkS_len cs
  · intro i v u h1 h2
    obtain ⟨d, u', hd, rfl⟩ := ia.2 i u (by simpa using h2)
    rw [List.getElem?_map] at h1
    have : cs[i]? = some d := by simpa [mkS] using hd
    rw [this] at h1
    cases h1
    exact ⟨u', rfl⟩
theorem ints_reps {K : PySem.W.Frag} {n : Nat} {io : Nat → Addr} {H : Hp} : ∀ {xs : List PV} {ys : List Int} {vs : List V}, intsOf xs = some ys → Reps K n io H xs vs → vs = ys.map V.int
  | [], _, _, h, r => by cases h; exact r
  | .int i :: xs, ys, vs, h, r => by
    obtain ⟨x, r', rfl, h1, h2⟩ := r
    cases h1
    simp only [intsOf] at h
    split at h
    · rename_i l e
      cases h
      rw [List.map_cons, ints_reps e h2]
    · cases h
  | .non :: _, _, _, h, _ => by cases h
  | .bl _ :: _, _, _, h, _ => by cases h
  | .str _ :: _, _, _, h, _ => by cases h
  | .tup _ :: _, _, _, h, _ => by cases h
  | .obj _ :: _, _, _, h, _ => by cases h
theorem reps_signs {K : PySem.W.Frag} {n : Nat} {io : Nat → Addr} {H : Hp} : ∀ cs : List Nat, Reps K n io H (cs.map fun c => PV.str [c]) (cs.map fun c => V.str (mkS [c]))
  | [] => rfl
  | c :: cs => ⟨_, _, rfl, rfl, reps_signs cs⟩
theorem biV_ok (hu : X.A.units + 64 < cLine) (hc : X.calm = true) (b : BI) : CallR X (biF b) (LRb X.K T W (biV b)) := by
  intro pins s σ H xs us Q I r h
  obtain ⟨S, io, ps, rel, rp, post⟩ := h
  unfold biV at post
  split at post
  · rename_i p
    obtain ⟨x, rfl, hp⟩ := rep1 rp
    cases e : lenV S p with
    | none => rw [e] at post; exact post.elim
    | some n =>
      rw [e] at post
      obtain ⟨m, h1, rfl⟩ := len_ok rel hp e
      exact call_len pins s σ H _ us Q I r ⟨x, m, rfl, h1, post.val rel rfl⟩
  · obtain ⟨x, rfl, hp⟩ := rep1 rp
    cases hp
    exact call_int1 pins s σ H _ us Q I r (.inl ⟨_, rfl, post.val rel rfl⟩)
  · obtain ⟨x, rfl, hp⟩ := rep1 rp
    cases hp
    exact call_int1 pins s σ H _ us Q I r (.inr ⟨_, rfl, post.val rel rfl⟩)
  · obtain ⟨x, rfl, hp⟩ := rep1 rp
    cases hp
    exact call_abs pins s σ H _ us Q I r ⟨_, rfl, post.val rel rfl⟩
  · obtain ⟨x, y, rfl, hp, hq⟩ := rep2 rp
    cases hp; cases hq
    exact call_min2 hc pins s σ H _ us Q I r ⟨_, _, rfl, post.val rel rfl⟩
  · obtain ⟨x, y, rfl, hp, hq⟩ := rep2 rp
    cases hp; cases hq
    exact call_max2 hc pins s σ H _ us Q I r ⟨_, _, rfl, post.val rel rfl⟩
  · rename_i i
    obtain ⟨x, rfl, _, rfl⟩ := rep1 rp
    split at post
    · rename_i xs e
      obtain ⟨vs, h1, h2⟩ := rel.lst e
      exact call_tuple_of pins s σ H _ us Q I r ⟨_, vs, rfl, .inl ⟨.inl (.inl h1), Post.tup rel post h2⟩⟩
    · exact post.elim
  · rename_i xs
    obtain ⟨x, rfl, hp⟩ := rep1 rp
    obtain ⟨a, vs, rfl, h1, h2⟩ := hp
    exact call_tuple_of pins s σ H _ us Q I r ⟨_, vs, rfl, .inr ⟨h1, post.val rel ⟨a, vs, rfl, h1, h2⟩⟩⟩
  · rename_i i
    obtain ⟨x, rfl, _, rfl⟩ := rep1 rp
    split at post
    · rename_i xs e
      obtain ⟨vs, h1, h2⟩ := rel.sq e
      exact call_list_of pins s σ H _ us Q I r ⟨_, vs, rfl, .inl h1, Post.lst rel post h2⟩
    · exact post.elim
  · rename_i xs
    obtain ⟨x, rfl, a, vs, rfl, h1, h2⟩ := rep1 rp
    exact call_list_of pins s σ H _ us Q I r ⟨_, vs, rfl, .inr h1, Post.lst rel post h2⟩
  · rename_i cs
    obtain ⟨x, rfl, hp⟩ := rep1 rp
    cases hp
    split at post
    · rename_i hl
      exact list_str hc pins s σ H _ us Q I r ⟨_, rfl, by rw [mkS_len]; exact hl, Post.lst rel post (reps_signs cs)⟩
    · exact post.elim
  · rename_i i
    obtain ⟨x, rfl, _, rfl⟩ := rep1 rp
    split at post
    · rename_i xs e
      split at post
      · rename_i ns en
        obtain ⟨vs, h1, h2⟩ := rel.sq e
        rw [ints_reps en h2] at h1
        exact cr_sum hc pins s σ H _ us Q I r ⟨_, ns, rfl, h1, post.val rel rfl⟩
      · exact post.elim
    · exact post.elim
  · rename_i i
    obtain ⟨x, rfl, _, rfl⟩ := rep1 rp
    split at post
    · rename_i xs e
      split at post
      · rename_i ys es
        obtain ⟨vs, h1, h2⟩ := rel.sq e
        unfold sortV at es
        split at es
        · rename_i hs
          cases es
          have sk := sort_ok hu h2 hs
          obtain ⟨its, rv, pl, _⟩ := I.list h1
          obtain ⟨u, rfl, rx⟩ := vals1 r
          cases rx
          refine PySem.W.sorted_data (R := fun u (b : PV × V) => RelV b.2 u) (bs := xs.zip vs) (enc := fun b => encP b.1) pl.isList (vals_zip h2.length.symm rv) (zip_reads I (fun b hb => ⟨reps_zip h2 b hb, (sortB_ok hs).1 _ (zip_fst_mem hb)⟩) (vals_zip h2.length.symm rv)) sk.al sk.sb sk.ln sk.dp fun out ho eo => ?_
          obtain ⟨ep, he'⟩ := PyProof.Rows.sortedAll_at s.heap its out.toArray
          exact ⟨.ref _, upd H (s.heap.objs.size + 1) (.lst _), I.laid (t' := s.toks) (fun _ _ => PyProof.Rows.sortedAll_old) (Nat.le_succ _) ⟨by rw [List.length_map]; exact sk.ol, out, ep, zip_vals eo, he'⟩, rfl, Post.lst rel post sk.out _ (I.hok.fresh (Nat.le_succ _))⟩
        · cases es
      · exact post.elim
    · exact post.elim
  · exact post.elim
/-- a call of a built-in by its name -/
theorem pe_bi {x : Str} {f : Value} {p pos : Pos} {e : Expr} {es : List Expr} {t : TA} {r : List V → Hp → VK → Prop} (hc : CallR X f r) (hg : Gl X x) (hm : X.mg x = none) (hv : bootBuiltins x = some f) (hf : (∃ id, f = .builtin id) ∨ ∃ id, f = .type id)
    (ha : PA X (e :: es) t) (hn : x ≠ ("__name__" : Str)) (hdb : (x == ("__debug__" : Str)) = false) (hp : plainEs (e :: es) = true) : PE X (.Call (.Name x p) (e :: es) [] pos) (tCB r t) := by
  simp only [plainEs, List.all_cons, Bool.and_eq_true] at hp
  rcases hf with ⟨id, rfl⟩ | ⟨id, rfl⟩
  · exact pe_callB hc hg hm hv ha hn hdb (star_cons hp.1) (star_any hp.2)
  · exact pe_callTy hc hg hm hv ha hn hdb (star_cons hp.1) (star_any hp.2)
theorem bi_boot (b : BI) : bootBuiltins (biS b) = some (biF b) := by
  cases b <;> first | exact PySem.boot_len | exact boot_int | exact PyProof.Rows.boot_int | exact boot_abs | exact PyProof.Rows.boot_tuple | exact PyProof.Rows.boot_list | exact PyProof.Rows.boot_sorted | exact PyProof.Rows.boot_max | exact PyProof.Rows.boot_min | exact PyProof.Rows.boot_sum | exact PyProof.Rows.boot_abs | exact boot_tuple | exact boot_list | decide +kernel
theorem bi_kind (b : BI) : (∃ id, biF b = .builtin id) ∨ ∃ id, biF b = .type id := by
  cases b <;> first | exact .inl ⟨_, rfl⟩ | exact .inr ⟨_, rfl⟩
theorem bi_name (b : BI) : biS b ≠ ("__name__" : Str) ∧ (biS b == ("__debug__" : Str)) = false := by
  cases b <;> exact ⟨by decide +kernel, by decide +kernel⟩
end
end TM

/-! TM, part Fa: where a sign stands in a text; beginnings and ends of texts. -/
namespace TM
open PySem PySem.Builtin.Str PySem.StrLaws
theorem occ1 (z : List Nat) (c limit : Nat) : ∀ (m a : Nat) (arr : Array Nat) (free : Nat), free ≤ a →
    (forIn (List.range' a m) (arr, free) (occBody (mkS z) (mkS [c]) (mkS z).length limit)).run.fst.toList = arr.toList ++ ((List.range' a m).filter (fun i => z[i]? == some c)).take (limit - arr.size) := by
  intro m
  induction m with
  | zero => intro a arr free _; simp
  | succ m ih =>
    intro a arr free hf
    rw [List.range'_succ, List.forIn_cons]
    unfold occBody
    have key : (a + (mkS [c]).length ≤ (mkS z).length ∧ subAt (mkS z) (mkS [c]) a = true) ↔ z[a]? = some c := by
      have := subAt_one (mkS z) c a
      rwa [mkS_toList] at this
    by_cases hz : z[a]? = some c
    · have hk := key.mpr hz
      by_cases hl : arr.size < limit
      · rw [if_pos ⟨⟨⟨hl, hf⟩, hk.1⟩, hk.2⟩]
        have := ih (a + 1) (arr.push a) (a + (mkS [c]).length) (by rw [mkS_len]; simp)
        show (forIn (List.range' (a + 1) m) (arr.push a, a + (mkS [c]).length) (occBody (mkS z) (mkS [c]) (mkS z).length limit)).run.fst.toList = _
        rw [this, List.filter_cons_of_pos (by simp [hz])]
        obtain ⟨q, hq⟩ : ∃ q, limit - arr.size = q + 1 := ⟨limit - arr.size - 1, by omega⟩
        rw [hq, List.take_succ_cons]
        simp
        congr 1
        omega
      · rw [if_neg (fun h => hl h.1.1.1)]
        have := ih (a + 1) arr free (by omega)
        show (forIn (List.range' (a + 1) m) (arr, free) (occBody (mkS z) (mkS [c]) (mkS z).length limit)).run.fst.toList = _
        rw [this, show limit - arr.size = 0 by omega]
        simp
    · rw [if_neg (fun h => hz (key.mp ⟨h.1.2, h.2⟩))]
      have := ih (a + 1) arr free (by omega)
      show (forIn (List.range' (a + 1) m) (arr, free) (occBody (mkS z) (mkS [c]) (mkS z).length limit)).run.fst.toList = _
      rw [this, List.filter_cons_of_neg (by simp [hz])]
theorem occ1_all (z : List Nat) (c limit : Nat) : occurrences (mkS z) (mkS [c]) 0 (mkS z).length limit = ((List.range z.length).filter (fun i => z[i]? == some c)).take limit := by
  rw [occ_eq, occ1 z c limit _ 0 #[] 0 (Nat.le_refl _), mkS_len]
  simp only [List.nil_append, Nat.sub_zero, Array.toList_empty, Array.size_empty]
  congr 1
  rw [Nat.add_comm, ← List.range_eq_range', Nat.add_comm, List.range_succ, List.filter_append]
  simp
theorem filt_count (z : List Nat) (c : Nat) : ((List.range z.length).filter (fun i => z[i]? == some c)).length = z.count c := by
  rw [← List.countP_eq_length_filter, List.count]
  have e : z = (List.range z.length).map (fun i => z.getD i 0) := by
    refine List.ext_getElem (by simp) fun i h1 h2 => ?_
    simp [List.getD, h1]
  conv => rhs; rw [e, List.countP_map]
  refine List.countP_congr fun i hi => ?_
  have hi := List.mem_range.mp hi
  simp [List.getD, hi]
theorem count_one (z : List Nat) (c : Nat) : Txt.count (mkS z) (mkS [c]) = ((z.count c : Nat) : Int) := by
  unfold Txt.count
  rw [occ1_all, List.take_of_length_le]
  · rw [filt_count]
  · have := List.length_filter_le (fun i => z[i]? == some c) (List.range z.length)
    rw [mkS_len]
    simp at this; omega
theorem idxS_get {c : Nat} : ∀ {z : List Nat} {i : Nat}, idxS c z = some i → z[i]? = some c ∧ ∀ m, m < i → z[m]? ≠ some c
  | [], i, h => by cases h
  | d :: r, i, h => by
    simp only [idxS] at h
    split at h
    · rename_i e
      cases h
      exact ⟨by simp [e], fun m hm => absurd hm (Nat.not_lt_zero _)⟩
    · rename_i e
      obtain ⟨j, hj, rfl⟩ := Option.map_eq_some_iff.mp h
      obtain ⟨h1, h2⟩ := idxS_get hj
      refine ⟨by simpa using h1, fun m hm => ?_⟩
      cases m with
      | zero => simpa using e
      | succ m => simpa using h2 m (by omega)
theorem find_first {p : Nat → Bool} : ∀ (m a i : Nat), a ≤ i → i < a + m → p i = true → (∀ j, a ≤ j → j < i → p j = false) → ∃ rest, (List.range' a m).filter p = i :: rest := by
  intro m
  induction m with
  | zero => intro a i h1 h2; omega
  | succ m ih =>
    intro a i h1 h2 hp hn
    rw [List.range'_succ]
    by_cases e : a = i
    · subst e
      exact ⟨_, List.filter_cons_of_pos hp⟩
    · rw [List.filter_cons_of_neg (by simp [hn a (Nat.le_refl _) (by omega)])]
      exact ih (a + 1) i (by omega) (by omega) hp fun j h3 h4 => hn j (by omega) h4
theorem index_one {z : List Nat} {c i : Nat} (h : idxS c z = some i) : ∃ rest, occurrences (mkS z) (mkS [c]) 0 (mkS z).length 1 = i :: rest := by
  obtain ⟨h1, h2⟩ := idxS_get h
  have hl := (List.getElem?_eq_some_iff.mp h1).1
  obtain ⟨r, hr⟩ := find_first (p := fun i => z[i]? == some c) z.length 0 i (Nat.zero_le _) (by omega) (by simp [h1]) fun j _ hj => by simpa using h2 j hj
  rw [occ1_all, List.range_eq_range', hr]
  exact ⟨[], rfl⟩
/-! ### beginnings, ends -/
theorem starts_mkS (a b : List Nat) : Txt.startswith (mkS a) (mkS b) = preS a b := by
  unfold Txt.startswith preS
  rw [subAt_eq, mkS_len, mkS_len, mkS_toList, mkS_toList, Nat.zero_add]
  simp
theorem ends_mkS (a b : List Nat) : Txt.endswith (mkS a) (mkS b) = sufS a b := by
  unfold Txt.endswith sufS
  rw [subAt_eq, mkS_len, mkS_len, mkS_toList, mkS_toList, Nat.zero_add]
  by_cases h : b.length ≤ a.length
  · simp only [h, decide_true, Bool.true_and]
    rw [List.take_of_length_le (by simp; omega)]
  · simp [h]
end TM

/-! TM, part G: expressions are sound, the theorem. -/
namespace TM
open PySem PySem.Spec PyProof.Rows L2
section
variable {X : Cx} {k : Nat} {T : Tb} {R : PXT} {W : Wish} {N : List Str} {sc : Scope} {cf : Nat → List PV → Sto → Res PV} {gl : Nat → PV} {gf : Nat → Env → Sto → Res PV} {gk : Nat → Expr → Bool} {G : GT}
/-- o.m(..), m a built-in type's method, the type read off the value -/
theorem pe_me0 {o : Expr} {to : TE} {name : Str} {apos cpos : Pos} (ho : PE X o to) (hb : nsup o = true) (hline : apos.endLine = cpos.line) :
    PE X (.Call (.Attribute o name apos) [] [] cpos) (fun σ H Q => to σ H fun x H1 => ∃ T id r, PlainAttrs T ∧ Slot T name id ∧ typeOf (.builtin id) = pure (.type "method_descriptor") ∧ MtR X id r ∧ tyV X.K T x H1 ∧ r x [] H1 Q) := by
  refine ⟨fun pins s σ H Q I h => ?_⟩
  refine wpAny_Call_method0_late (nsup_base hb) (by simp [hline]) (thn (ho.run pins s σ H _ I h) fun v s1 ⟨x, H1, I1, r1, T, id, r, pa, slot, hty, hm, ty, q1⟩ => ?_)
  obtain ⟨h1, h2⟩ := tyV_is I1 r1 ty
  exact ⟨T, id, pa, slot, hty, h1, h2, Calls.callWith_builtin rfl (PySem.evalArgs_none (hm pins s1 σ H1 x [] v [] Q I1 r1 .nil q1))⟩
theorem pe_me {o e : Expr} {es : List Expr} {to : TE} {t : TA} {name : Str} {apos cpos : Pos}
    (ho : PE X o to) (ha : PA X (e :: es) t) (hb : nsup o = true) (hp : plainEs (e :: es) = true) (hl : (e :: es).length < 20) (hline : apos.endLine = cpos.line) :
    PE X (.Call (.Attribute o name apos) (e :: es) [] cpos) (fun σ H Q => to σ H fun x H1 => ∃ T id r, PlainAttrs T ∧ Slot T name id ∧ typeOf (.builtin id) = pure (.type "method_descriptor") ∧ MtR X id r ∧ tyV X.K T x H1 ∧ t σ H1 fun xs H2 => r x xs H2 Q) := by
  refine ⟨fun pins s σ H Q I h => ?_⟩
  have hfew : ((backTo cpos (starEach (e :: es) X.env)).all (fun x => !x.1) && (backToKw cpos (keywordEach [] X.env)).all (fun x => x.1.isSome)
      && decide ((e :: es).length + ([] : List Keyword).length + (if ([] : List Keyword).isEmpty then 0 else 1) < 30)) = true := by
    rw [star_few hp]
    have : (e :: es).length + ([] : List Keyword).length + (if ([] : List Keyword).isEmpty then 0 else 1) < 30 := by
      show (e :: es).length + 0 + 0 < 30
      omega
    rw [decide_eq_true this]
    rfl
  refine wpAny_Call_method_late (nsup_base hb) hfew (by simp [hline]) rfl (thn (ho.run pins s σ H _ I h) fun v s1 ⟨x, H1, I1, r1, T, id, r, pa, slot, hty, hm, ty, q1⟩ => ?_)
  obtain ⟨h1, h2⟩ := tyV_is I1 r1 ty
  refine ⟨T, id, pa, slot, hty, h1, h2, ?_⟩
  have hA := ha.run cpos pins s1 σ H1 _ I1 q1
  refine Calls.callWith_builtin (star_any hp) ?_
  simp only [plainEs, List.all_cons, Bool.and_eq_true] at hp
  rw [star_cons hp.1] at hA ⊢
  refine Calls.evalArgs_plain ?_
  exact thn hA fun us s2 ⟨vs, H2, I2, r2, q2⟩ => hm pins s2 σ H2 x vs v us Q I2 r1 r2 q2
theorem Lift2 {a b c a' b' c' : Type} {K : PySem.W.Frag} {R1 : Nat → (Nat → Addr) → Hp → a → a' → Prop} {R2 : Nat → (Nat → Addr) → Hp → b → b' → Prop} {R3 : Nat → (Nat → Addr) → Hp → c → c' → Prop}
    {m1 : Env → Sto → Res a} {m2 : Env → Sto → Res b} {f : a → b → Sto → Res c} {σ : L2.St} {H : Hp} {Q : c' → Hp → Prop} {N : a' → b' → Hp → Prop}
    (mono : ∀ {n n' io io' H H' p v}, Ex n io H io' H' → n ≤ n' → R1 n io H p v → R1 n' io' H' p v)
    (h : lift K T W R3 (fun env S => (m1 env S).bind fun p S => (m2 env S).bind fun q S => f p q S) σ H Q)
    (k : ∀ S io H p q v w, Rel K T S io H → R1 S.length io H p v → R2 S.length io H q w → Post K T W R3 S io H Q (f p q S) → N v w H) :
    lift K T W R1 m1 σ H fun v H1 => lift K T W R2 m2 σ H1 fun w H2 => N v w H2 := by
  obtain ⟨S, io, env, rel, er, post⟩ := h
  refine ⟨S, io, env, rel, er, post.bind fun p S1 io1 H1 v e1 l1 rel1 rp post1 => ?_⟩
  refine ⟨S1, io1, env, rel1, er.mono e1 l1, post1.bind fun q S2 io2 H2 w e2 l2 rel2 rq post2 => ?_⟩
  exact k S2 io2 H2 p q v w rel2 (mono e2 l2 rp) rq post2
theorem Lift1 {a c a' c' : Type} {K : PySem.W.Frag} {R1 : Nat → (Nat → Addr) → Hp → a → a' → Prop} {R3 : Nat → (Nat → Addr) → Hp → c → c' → Prop}
    {m1 : Env → Sto → Res a} {f : a → Sto → Res c} {σ : L2.St} {H : Hp} {Q : c' → Hp → Prop} {N : a' → Hp → Prop}
    (h : lift K T W R3 (fun env S => (m1 env S).bind fun p S => f p S) σ H Q)
    (k : ∀ S io H p v, Rel K T S io H → R1 S.length io H p v → Post K T W R3 S io H Q (f p S) → N v H) :
    lift K T W R1 m1 σ H N := by
  obtain ⟨S, io, env, rel, er, post⟩ := h
  exact ⟨S, io, env, rel, er, post.bind fun p S1 io1 H1 v e1 l1 rel1 rp post1 => k S1 io1 H1 p v rel1 rp post1⟩
theorem rmono {K : PySem.W.Frag} {n n' : Nat} {io io' : Nat → Addr} {H H' : Hp} {p : PV} {v : V} (e : Ex n io H io' H') (l : n ≤ n') (h : Rep K n io H p v) : Rep K n' io' H' p v := h.mono e l

theorem op_of {o : Op2} {op : Operator} (h : opB op (toOp o) = true) : op = toOp o := of_decide_eq_true h
/-- a method by pure values -/
def LRm (K : PySem.W.Frag) (T : Tb) (W : Wish) (m : ME) (t : MTy) : V → List V → Hp → VK → Prop := fun x xs H Q =>
  ∃ S io p ps, Rel K T S io H ∧ Rep K S.length io H p x ∧ Reps K S.length io H ps xs ∧ Post K T W (Rep K) S io H Q (meV m t p ps S)
theorem rep0 {K : PySem.W.Frag} {n : Nat} {io : Nat → Addr} {H : Hp} {xs : List V} (h : Reps K n io H [] xs) : xs = [] := h
theorem me_append : MtR X "list.append" (LRm X.K T W .append .lst) := by
  intro pins s σ H x xs v us Q I rx r h
  obtain ⟨S, io, p, ps, rel, hp, rp, post⟩ := h
  have post : Post X.K T W (Rep X.K) S io H Q (meAppend p ps S) := post
  unfold meAppend at post
  split at post
  · rename_i i p
    obtain ⟨_, rfl⟩ := hp
    obtain ⟨y, rfl, hy⟩ := rep1 rp
    split at post
    · rename_i zs e
      split at post
      · rename_i hl
        obtain ⟨vs, h1, h2⟩ := rel.lst e
        refine mt_append pins s σ H _ _ v us Q I rx r ⟨_, vs, y, rfl, rfl, h1, by rw [h2.length, line_eq]; exact hl, ?_⟩
        exact Post.putL rel e post (h2.append (.cons hy .nil)) rfl
      · exact post.elim
    · exact post.elim
  · exact post.elim
theorem me_pop : MtR X "list.pop" (LRm X.K T W .pop .lst) := by
  intro pins s σ H x xs v us Q I rx r h
  obtain ⟨S, io, p, ps, rel, hp, rp, post⟩ := h
  have post : Post X.K T W (Rep X.K) S io H Q (mePop p ps S) := post
  unfold mePop at post
  split at post
  · rename_i i
    obtain ⟨_, rfl⟩ := hp
    have := rep0 rp
    subst this
    split at post
    · rename_i zs e
      split at post
      · rename_i y ey
        obtain ⟨vs, h1, h2⟩ := rel.lst e
        obtain ⟨w, h3, h4⟩ := h2.get ey
        refine mt_pop pins s σ H _ _ v us Q I rx r ⟨_, vs, w, rfl, rfl, h1, by rw [h2.length]; exact h3, ?_⟩
        exact Post.putL rel e post h2.dropLast h4
      · exact post.elim
    · exact post.elim
  · exact post.elim
theorem strs_reps {K : PySem.W.Frag} {n : Nat} {io : Nat → Addr} {H : Hp} : ∀ {xs : List PV} {ys : List (List Nat)} {vs : List V}, strsOf xs = some ys → Reps K n io H xs vs → vs = (ys.map mkS).map V.str
  | [], _, _, h, r => by cases h; exact r
  | .str cs :: xs, ys, vs, h, r => by
    obtain ⟨x, r', rfl, h1, h2⟩ := r
    cases h1
    simp only [strsOf] at h
    split at h
    · rename_i l e
      cases h
      rw [List.map_cons, List.map_cons, strs_reps e h2]
    · cases h
  | .non :: _, _, _, h, _ => by cases h
  | .bl _ :: _, _, _, h, _ => by cases h
  | .int _ :: _, _, _, h, _ => by cases h
  | .tup _ :: _, _, _, h, _ => by cases h
  | .obj _ :: _, _, _, h, _ => by cases h
theorem join_mkS (a : List Nat) : ∀ ys : List (List Nat), Str.join (mkS a) (ys.map mkS) = mkS (joinN a ys)
  | [] => rfl
  | [p] => rfl
  | p :: q :: r => by
    have ih := join_mkS a (q :: r)
    show mkS p ++ mkS a ++ Str.join (mkS a) ((q :: r).map mkS) = _
    rw [ih, mkS_app, mkS_app, joinN, List.append_assoc]
theorem sum_len : ∀ ys : List (List Nat), ((ys.map mkS).map (·.length)).sum = sumLen ys
  | [] => rfl
  | p :: ys => by
    simp only [List.map_cons, List.sum_cons, sumLen]
    rw [mkS_len, sum_len ys]
theorem me_join : MtR X "str.join" (LRm X.K T W .join .str) := by
  intro pins s σ H x xs v us Q I rx r h
  obtain ⟨S, io, p, ps, rel, hp, rp, post⟩ := h
  have post : Post X.K T W (Rep X.K) S io H Q (meJoin p ps S) := post
  unfold meJoin at post
  split at post
  · rename_i a q _
    cases hp
    obtain ⟨y, rfl, hy⟩ := rep1 rp
    split at post
    · rename_i zs e1
      split at post
      · rename_i ys e2
        split at post
        · rename_i hl
          have key : ∃ pa, y = .ref pa ∧ (SqL X.K H pa ((ys.map mkS).map V.str) ∨ SqT X.K H pa ((ys.map mkS).map V.str)) := by
            unfold seqV at e1
            split at e1
            · rename_i i
              obtain ⟨_, rfl⟩ := hy
              obtain ⟨vs, h1, h2⟩ := rel.sq e1
              rw [strs_reps e2 h2] at h1
              exact ⟨_, rfl, .inl h1⟩
            · rename_i xs
              cases e1
              obtain ⟨pa, vs, rfl, h1, h2⟩ := hy
              rw [strs_reps e2 h2] at h1
              exact ⟨_, rfl, .inr h1⟩
            · cases e1
          obtain ⟨pa, rfl, hs⟩ := key
          refine mt_join pins s σ H _ _ v us Q I rx r ⟨_, pa, ys.map mkS, rfl, rfl, hs, ?_, ?_⟩
          · rw [sum_len, mkS_len, List.length_map]
            exact hl
          · rw [show Txt.join (mkS a) (ys.map mkS) = Str.join (mkS a) (ys.map mkS) from _root_.TL.join_eq _ _, join_mkS]
            exact post.val rel rfl
        · exact post.elim
      · exact post.elim
    · exact post.elim
  · exact post.elim
/-! ### texts and texts -/
theorem me_txt {id : String} {f : List Nat → List Nat → Option PV} {R1 : V → List V → Hp → VK → Prop} (hm : MtR X id R1)
    (hr : ∀ (a b : List Nat) (p : PV), f a b = some p → ∃ v : V, (∀ n io H, Rep X.K n io H p v) ∧ ∀ H (Q : VK), Q v H → R1 (.str (mkS a)) [.str (mkS b)] H Q) : MtR X id (fun x xs H Q => ∃ S io p ps, Rel X.K T S io H ∧ Rep X.K S.length io H p x ∧ Reps X.K S.length io H ps xs ∧ Post X.K T W (Rep X.K) S io H Q (meTxt f p ps S)) := by
  intro pins s σ H x xs v us Q I rx r h
  obtain ⟨S, io, p, ps, rel, hp, rp, post⟩ := h
  unfold meTxt at post
  split at post
  · rename_i a b
    cases hp
    obtain ⟨y, rfl, hy⟩ := rep1 rp
    cases hy
    cases e : f a b with
    | none => rw [e] at post; exact post.elim
    | some q =>
      rw [e] at post
      obtain ⟨w, h1, h2⟩ := hr a b q e
      exact hm pins s σ H _ _ v us Q I rx r (h2 H Q (post.val rel (h1 _ _ _)))
  · exact post.elim
theorem me_starts : MtR X "str.startswith" (LRm X.K T W .startswith .str) :=
  me_txt (f := fun a b => some (.bl (preS a b))) mt_startswith fun a b p h => by
    cases h
    exact ⟨.bl (preS a b), fun _ _ _ => rfl, fun H Q q => ⟨_, _, rfl, rfl, by rw [starts_mkS]; exact q⟩⟩
theorem me_ends : MtR X "str.endswith" (LRm X.K T W .endswith .str) :=
  me_txt (f := fun a b => some (.bl (sufS a b))) mt_endswith fun a b p h => by
    cases h
    exact ⟨.bl (sufS a b), fun _ _ _ => rfl, fun H Q q => ⟨_, _, rfl, rfl, by rw [ends_mkS]; exact q⟩⟩
theorem me_count : MtR X "str.count" (LRm X.K T W .count .str) :=
  me_txt (f := meCnt) mt_count fun a b p h => by
    unfold meCnt at h
    split at h
    · rename_i c
      cases h
      exact ⟨.int (a.count c : Nat), fun _ _ _ => rfl, fun H Q q => ⟨_, _, rfl, rfl, by rw [count_one]; exact q⟩⟩
    · cases h
theorem me_ixS : MtR X "str.index" (LRm X.K T W .index .str) :=
  me_txt (f := meIxS) mt_sindex fun a b p h => by
    unfold meIxS at h
    split at h
    · rename_i c
      obtain ⟨j, hj, rfl⟩ := Option.map_eq_some_iff.mp h
      obtain ⟨r, hr⟩ := index_one hj
      exact ⟨.int (j : Nat), fun _ _ _ => rfl, fun H Q q => ⟨_, _, j, r, rfl, rfl, hr, q⟩⟩
    · cases h
theorem idxT_get {w : List Nat} : ∀ {z : List (List Nat)} {i : Nat}, idxT w z = some i → z[i]? = some w ∧ ∀ m y, m < i → z[m]? = some y → y ≠ w
  | [], i, h => by cases h
  | d :: r, i, h => by
    simp only [idxT] at h
    split at h
    · rename_i e
      cases h
      exact ⟨by simp [e], fun m y hm => absurd hm (Nat.not_lt_zero _)⟩
    · rename_i e
      obtain ⟨j, hj, rfl⟩ := Option.map_eq_some_iff.mp h
      obtain ⟨h1, h2⟩ := idxT_get hj
      refine ⟨by simpa using h1, fun m y hm hy => ?_⟩
      cases m with
      | zero => simp at hy; rw [← hy]; exact e
      | succ m => exact h2 m y (by omega) (by simpa using hy)
theorem me_ixL : MtR X "list.index" (LRm X.K T W .index .lst) := by
  intro pins s σ H x xs v us Q I rx r h
  obtain ⟨S, io, p, ps, rel, hp, rp, post⟩ := h
  have post : Post X.K T W (Rep X.K) S io H Q (meIxL p ps S) := post
  unfold meIxL at post
  split at post
  · rename_i i w _
    obtain ⟨_, rfl⟩ := hp
    obtain ⟨y, rfl, hy⟩ := rep1 rp
    cases hy
    split at post
    · rename_i xs e1
      split at post
      · rename_i ys e2
        cases e3 : idxT w ys with
        | none => rw [e3] at post; exact post.elim
        | some j =>
          rw [e3] at post
          obtain ⟨vs, h1, h2⟩ := rel.sq e1
          rw [strs_reps e2 h2, List.map_map] at h1
          obtain ⟨g1, g2⟩ := idxT_get e3
          refine mt_index pins s σ H _ _ v us Q I rx r ⟨_, _, _, j, .str (mkS w), rfl, rfl, h1, rfl, ?_, by simp [g1], by simp [L2.eqV], fun m z hm hz => ?_, post.val rel rfl⟩
          · rw [List.all_eq_true]
            intro z hz
            obtain ⟨_, _, rfl⟩ := List.mem_map.mp hz
            rfl
          · rw [List.getElem?_map] at hz
            obtain ⟨y, hy, rfl⟩ := Option.map_eq_some_iff.mp hz
            have := g2 m y hm hy
            simp only [Function.comp, L2.eqV]
            simp [mkS_inj, this]
      · exact post.elim
    · exact post.elim
  · exact post.elim
/-! ### remove -/
def eqs (a : List Nat) (v : Value) : Bool := match v with
  | .str b _ => b.cps.toList == a
  | _ => false
theorem dropS_at {a : List Nat} : ∀ {ys r : List (List Nat)}, dropS a ys = some r → ∃ j, ys[j]? = some a ∧ (∀ m, m < j → ys[m]? ≠ some a) ∧ r = ys.eraseIdx j
  | [], _, h => by cases h
  | b :: l, r, h => by
    simp only [dropS] at h
    split at h
    · rename_i e
      cases h
      exact ⟨0, by rw [e]; rfl, fun m hm => absurd hm (Nat.not_lt_zero _), rfl⟩
    · rename_i e
      split at h
      · rename_i r' e2
        cases h
        obtain ⟨j, h1, h2, h3⟩ := dropS_at e2
        refine ⟨j + 1, h1, fun m hm => ?_, by rw [h3]; rfl⟩
        cases m with
        | zero => intro z; exact e (by simpa using z)
        | succ m => exact h2 m (by omega)
      · cases h
theorem vals_str : ∀ {ys : List (List Nat)} {us : List Value}, Vals ((ys.map mkS).map V.str) us → ∀ (i : Nat) (v : Value), us[i]? = some v → ∃ y t, ys[i]? = some y ∧ v = .str (mkS y) t
  | [], _, .nil, i, v, h => by simp at h
  | y :: ys, _, .cons r rs, 0, v, h => by
    simp at h
    subst h
    obtain ⟨t, rfl⟩ := r
    exact ⟨y, t, rfl, rfl⟩
  | y :: ys, _, .cons r rs, i + 1, v, h => by
    simp only [List.getElem?_cons_succ] at h
    exact vals_str rs i v h
theorem erase_mapS (f : List Nat → V) : ∀ (l : List (List Nat)) (j : Nat), (l.map f).eraseIdx j = (l.eraseIdx j).map f
  | [], j => by simp
  | a :: r, 0 => by simp
  | a :: r, j + 1 => by
    have ih := erase_mapS f r j
    simp [ih]
theorem reps_strs {K : PySem.W.Frag} {n : Nat} {io : Nat → Addr} {H : Hp} : ∀ ys : List (List Nat), Reps K n io H (ys.map .str) ((ys.map mkS).map V.str)
  | [] => rfl
  | y :: ys => Reps.cons rfl (reps_strs ys)
theorem me_remove : MtR X "list.remove" (LRm X.K T W .remove .lst) := by
  intro pins s σ H x xs v us Q I rx r h
  obtain ⟨S, io, p, ps, rel, hp, rp, post⟩ := h
  have post : Post X.K T W (Rep X.K) S io H Q (meRemove p ps S) := post
  unfold meRemove at post
  split at post
  · rename_i i a _
    obtain ⟨_, rfl⟩ := hp
    obtain ⟨y, rfl, hy⟩ := rep1 rp
    cases hy
    split at post
    · rename_i zs e
      split at post
      · rename_i ys e2
        split at post
        · rename_i rr e3
          obtain ⟨vs, h1, h2⟩ := rel.lst e
          rw [strs_reps e2 h2] at h1
          obtain ⟨j, hj, hno, hr⟩ := dropS_at e3
          subst hr
          cases rx
          obtain ⟨u, rfl, ru⟩ := vals1 r
          obtain ⟨t, rfl⟩ := ru
          obtain ⟨z, its, n, r', hl, el⟩ := I.lstM h1
          have hi := vals_str r'
          have hjl : j < its.toArray.size := by
            rw [List.size_toArray, ← hl, List.length_map, List.length_map]
            exact (List.getElem?_eq_some_iff.mp hj).1
          refine call_meets PySem.F.slot_list_remove ⟨_, el, rfl⟩ PySem.F.entry_list_remove (PySem.F.args_list_remove_2 _ _)
            (MeetsSeq.list_remove (io i) its.toArray n (.str (mkS a) t) (eqs a) (fun y hy => ?_) j hjl ?_ ?_ (by rw [List.size_toArray, ← hl]; exact z)) ⟨el, ?_⟩
          · obtain ⟨m, hm⟩ := List.getElem?_of_mem (show y ∈ its by simpa using hy)
            obtain ⟨y', t', _, rfl⟩ := hi m y hm
            exact SeqRoads2.EqGives.str (mkS y') (mkS a) t' t
          · obtain ⟨y', t', h3, h4⟩ := hi j _ (List.getElem?_eq_getElem (by simpa using hjl))
            rw [hj] at h3
            cases h3
            show eqs a its.toArray[j] = true
            rw [show its.toArray[j] = _ from h4]
            simp [eqs, mkS]
          · intro m hm hmj
            have hm' : m < its.length := by simpa using hm
            obtain ⟨y', t', h3, h4⟩ := hi m _ (List.getElem?_eq_getElem hm')
            show eqs a its.toArray[m] = false
            rw [show its.toArray[m] = _ from h4]
            have : y' ≠ a := fun z => hno m hmj (by rw [h3, z])
            simp [eqs, mkS, this]
          · have rr := r'.eraseIdx j
            rw [List.map_map, erase_mapS] at rr
            refine ⟨.non, upd H (io i) (.lst ((ys.eraseIdx j).map (V.str ∘ mkS))), I.lset (its' := its.eraseIdx j) (t' := s.toks) h1 el ?_ rr ?_, rfl, ?_⟩
            · show its.toArray.eraseIdxIfInBounds j = (its.eraseIdx j).toArray
              rw [List.eraseIdxIfInBounds_toArray]
            · rw [List.length_map]
              rw [List.length_map, List.length_map] at z
              exact Nat.le_trans (List.length_eraseIdx_le _ _) z
            · rw [← List.map_map]
              exact Post.putL rel e post (reps_strs _) rfl
        · exact post.elim
      · exact post.elim
    · exact post.elim
  · exact post.elim
theorem me_ok {m : ME} {t : MTy} (h : meOk m t = true) :
    ∃ T' id, PlainAttrs T' ∧ Slot T' (meS m) id ∧ typeOf (.builtin id) = pure (.type "method_descriptor") ∧ MtR X id (LRm X.K T W m t) ∧
      ∀ S io H p x, Rel X.K T S io H → Rep X.K S.length io H p x → mty S p = some t → tyV X.K T' x H := by
  have lst : ∀ S io H p x, Rel X.K T S io H → Rep X.K S.length io H p x → mty S p = some .lst → tyV X.K "list" x H := fun S io H p x rel hp e => by
    unfold mty at e
    split at e
    · cases e
    · rename_i i
      obtain ⟨_, rfl⟩ := hp
      have go : ∀ zs, seqOf S i = some zs → tyV X.K "list" (.ref (io i)) H := fun zs e2 => by
        obtain ⟨vs, h1, _⟩ := rel.sq e2
        exact .inl ⟨rfl, vs, h1⟩
      split at e
      · rename_i zs e2; exact go zs (by unfold seqOf; rw [e2])
      · rename_i zs e2; exact go zs (by unfold seqOf; rw [e2])
      · cases e
    · cases e
  have str : ∀ S io H p x, Rel X.K T S io H → Rep X.K S.length io H p x → mty S p = some .str → tyV X.K "str" x H := fun S io H p x rel hp e => by
    unfold mty at e
    split at e
    · cases hp
      exact (rfl : "str" = "str")
    · split at e <;> cases e
    · cases e
  cases m <;> cases t <;> first
    | exact ⟨"list", "list.append", PySem.F.plainAttrs_list, PySem.F.slot_list_append, PySem.F.type_list_append, me_append, lst⟩
    | exact ⟨"str", "str.join", PySem.F.plainAttrs_str, PySem.F.slot_str_join, PySem.F.type_str_join, me_join, str⟩
    | exact ⟨"list", "list.remove", PySem.F.plainAttrs_list, PySem.F.slot_list_remove, PySem.F.type_list_remove, me_remove, lst⟩
    | exact ⟨"str", "str.startswith", PySem.F.plainAttrs_str, PySem.F.slot_str_startswith, PySem.F.type_str_startswith, me_starts, str⟩
    | exact ⟨"str", "str.endswith", PySem.F.plainAttrs_str, PySem.F.slot_str_endswith, PySem.F.type_str_endswith, me_ends, str⟩
    | exact ⟨"str", "str.count", PySem.F.plainAttrs_str, PySem.F.slot_str_count, PySem.F.type_str_count, me_count, str⟩
    | exact ⟨"str", "str.index", PySem.F.plainAttrs_str, PySem.F.slot_str_index, PySem.F.type_str_index, me_ixS, str⟩
    | exact ⟨"list", "list.index", PySem.F.plainAttrs_list, PySem.F.slot_list_index, PySem.F.type_list_index, me_ixL, lst⟩
    | exact ⟨"list", "list.pop", PySem.F.plainAttrs_list, PySem.F.slot_list_pop, PySem.F.type_list_pop, me_pop, lst⟩
    | cases h
end
end TM

/-! TM, part Ga: instances and dicts in expressions. -/
namespace TM
open PySem PySem.Spec PyProof.Rows L2
section
variable {X : Cx} {k : Nat} {T : Tb} {R : PXT} {W : Wish} {N : List Str} {sc : Scope} {cf : Nat → List PV → Sto → Res PV} {gl : Nat → PV} {gf : Nat → Env → Sto → Res PV} {gk : Nat → Expr → Bool} {G : GT}
/-- the bind's head, lifted -/
theorem Post.headG {a b a' b' : Type} {K : PySem.W.Frag} {R1 : Nat → (Nat → Addr) → Hp → a → a' → Prop} {R3 : Nat → (Nat → Addr) → Hp → b → b' → Prop}
    {m1 : Env → Sto → Res a} {f : a → Sto → Res b} {σ : L2.St} {S : Sto} {io : Nat → Addr} {H : Hp} {env : Env} {Q : b' → Hp → Prop} {N : a' → Hp → Prop}
    (rel : Rel K T S io H) (er : EnvR K S.length io H env σ) (post : Post K T W R3 S io H Q ((m1 env S).bind f))
    (k : ∀ S io H p v, Rel K T S io H → EnvR K S.length io H env σ → R1 S.length io H p v → Post K T W R3 S io H Q (f p S) → N v H) : lift K T W R1 m1 σ H N :=
  ⟨S, io, env, rel, er, post.bind fun p S1 io1 H1 v e1 l1 rel1 rp post1 => k S1 io1 H1 p v rel1 (er.mono e1 l1) rp post1⟩
theorem Rel.ins {S : Sto} {io : Nat → Addr} {H : Hp} {K : PySem.W.Frag} {i c : Nat} {fs : List (Str × PV)} (rel : Rel K T S io H) (h : S[i]? = some (.ins c fs)) : ∃ dx xs, H (io i) = some (.ins (T.cl c) dx xs) ∧ Repf K S.length io H fs xs := rel.obj i _ h
theorem Rel.dic {S : Sto} {io : Nat → Addr} {H : Hp} {K : PySem.W.Frag} {i : Nat} {kvs : List (PV × PV)} (rel : Rel K T S io H) (h : S[i]? = some (.dic kvs)) : ∃ xs, H (io i) = some (.dK xs) ∧ Repd K S.length io H kvs xs := rel.obj i _ h
theorem Post.nox {a b : Type} {K : PySem.W.Frag} {W W' : Wish} {R : Nat → (Nat → Addr) → Hp → a → b → Prop} {S : Sto} {io : Nat → Addr} {H : Hp} {Q : b → Hp → Prop} {r : Res a} (h : Post K T W R S io H Q r.nox) : Post K T W' R S io H Q r := by
  cases r with
  | ok p S' => exact h
  | exc x S' => exact h.elim
  | bad => exact h
theorem fn_sp {f : Nat} {ps : List Str} {as : List PV} {vs : List V} {S : Sto} {io : Nat → Addr} {H : Hp} {Q : VK} {E : XK} (hlen : ∀ as S, cf f as S ≠ .bad → as.length = ps.length)
    (rel : Rel X.K T S io H) (rp : Reps X.K S.length io H as vs) (post : Post X.K T (fun x S' io' H' => ∀ cls d, R x cls d H' → E cls d H') (Rep X.K) S io H Q (cf f as S)) : spOf X.K T R ps.length (cf f) vs H Q E := by
  refine ⟨?_, S, io, as, rel, rp, post⟩
  rw [rp.length]
  exact hlen as S fun z => by rw [z] at post; exact post.elim
theorem pass_nox : Passes (L2.CX X.prog X.w) X.nox (fun _ _ _ => False) := fun pins σ H s e s' I c => by
  obtain ⟨_, _, _, _, _, _, _, _, _, _, _, _, z⟩ := c
  exact z.elim
theorem lookupMem {α β : Type} [BEq α] [LawfulBEq α] {a : α} {b : β} : ∀ {l : List (α × β)}, l.lookup a = some b → (a, b) ∈ l
  | [], h => by cases h
  | (x, y) :: l, h => by
    rw [List.lookup_cons] at h
    split at h
    · rename_i e
      cases h
      rw [eq_of_beq e]
      exact List.mem_cons_self
    · exact List.mem_cons_of_mem _ (lookupMem h)
/-- o.m(..): the method asked of the object first -/
theorem wp_own {M : Model} {A : Around} {E : Value → Shared → Prop} {s : Shared} {env : PySem.Env} {o : Expr} {name : Str} {apos pos : Pos} {args : List Expr} {Q : Value → Shared → Prop}
    (hbase : attributeBase o name env (eval o env) = eval o env)
    (hfew : ((backTo pos (starEach args env)).all (fun x => !x.1) && (backToKw pos (keywordEach [] env)).all (fun x => x.1.isSome)
      && decide (args.length + ([] : List Keyword).length + (if ([] : List Keyword).isEmpty then 0 else 1) < 30)) = true)
    (hline : (apos.endLine == pos.line) = true)
    (h : wpAny M A (eval o env) (fun ov s₁ => ∀ pl, wpAny M A (getMethod ov name pl) (fun fx s₂ => wpAny M A (callWith pos fx.1 fx.2 (backTo pos (starEach args env)) (backToKw pos (keywordEach [] env))) Q E s₂) E s₁) E s) :
    wpAny M A (eval (.Call (.Attribute o name apos) args [] pos) env) Q E s := by
  rw [arm_eval_Call, hbase]
  refine wpAny_bind (wpAny_mono h (fun ov s₁ h₁ => ?_) fun _ _ e => e)
  refine wpAny_bind (wpAny_standAt ?_)
  have hform : methodCallForm (args.length + ([] : List Keyword).length) (backTo pos (starEach args env)) (backToKw pos (keywordEach [] env)) = true := hfew
  have hpos : methodCallPos true o env apos pos = pure pos := by unfold methodCallPos; simp [hline]
  unfold methodCall
  rw [hform]
  refine wpAny_bind (wpAny_holding (wpAny_mono (h₁ _) (fun fx s₂ h₂ => ?_) fun _ _ e => e))
  exact wpAny_bind (wpAny_of_eq hpos h₂)
theorem sFld {o : Expr} {x : Str} {pos : Pos} {q : E} {ds : List (Nat × Option Nat)} (C : Cok X k T R W N sc) (P : PG X.prog X.w X.K X.mg X.base T R k cf gl G) (hb : nsup o = true) (hd : fldB G x ds = true)
    (ho : PE X o (LE X T W (ev ⟨cf, gl, gf⟩ q))) : PE X (.Attribute o x pos) (LE X T W (ev ⟨cf, gl, gf⟩ (.fld q x ds))) := by
  refine ⟨fun pins s σ H Q I h => ?_⟩
  obtain ⟨S, io, env, rel, er, post⟩ := h
  simp only [ev] at post
  refine attr_of (nsup_base hb) (thn (ho.run pins s σ H (fun v H1 => ∃ S io p, Rel X.K T S io H1 ∧ Rep X.K S.length io H1 p v ∧ Post X.K T W (Rep X.K) S io H1 Q (fldV cf x ds p S)) I (Post.headG rel er post fun S io H p v rel er rp post => ⟨S, io, p, rel, rp, post⟩)) fun u s1 ⟨v, H1, I1, rv, S, io, p, rel, rp, post⟩ => ?_)
  unfold fldV at post
  split at post
  · rename_i i
    obtain ⟨hi, rfl⟩ := rp
    obtain rfl : u = Value.ref (io i) := rv
    split at post
    · rename_i c fs es
      obtain ⟨dx, xs, h1, h2⟩ := rel.ins es
      split at post
      · rename_i f ed
        have hm := List.all_eq_true.mp hd _ (lookupMem ed)
        simp only at hm
        split at hm
        · rename_i ci ec
          have K := P.cls c ci ec
          obtain ⟨pa, fa, hp, fd, ps, hbn, hlen, F⟩ := K.prop x f (of_decide_eq_true hm)
          refine getprop_ok I1 h1 K.cls.cl hp F C.room1 hbn .nil pass_nox ?_
          exact fn_sp hlen rel (Reps.cons (show Rep X.K S.length io H1 (.obj i) (.ref (io i)) from ⟨hi, rfl⟩) Reps.nil) post.nox
        · cases hm
      · rename_i ed
        have hm := List.all_eq_true.mp hd _ (lookupMem ed)
        simp only at hm
        split at hm
        · rename_i ci ec
          have K := P.cls c ci ec
          cases ef : fs.lookup x with
          | none => rw [ef] at post; exact post.elim
          | some pv =>
            rw [ef] at post
            obtain ⟨v, h3, h4⟩ := (h2.look x).1 _ ef
            exact getattr_ok I1 h1 K.cls.cl (K.cls.att x (by simpa using hm)) h3 fun u' s2 I2 ru => ⟨v, H1, I2, ru, post.val rel h4⟩
        · cases hm
      · exact post.elim
    · exact post.elim
  · exact post.elim
theorem sMcall {o : Expr} {x : Str} {apos cpos : Pos} {xs : List Expr} {q : E} {ds : List (Nat × Nat)} {ps : List E} (C : Cok X k T R W N sc) (P : PG X.prog X.w X.K X.mg X.base T R k cf gl G) (hb : nsup o = true) (hd : methB G x ds = true)
    (hpl : plainEs xs = true) (hl : xs.length < 20) (hline : apos.endLine = cpos.line) (h0 : xs = [] → ps = [])
    (ho : PE X o (LE X T W (ev ⟨cf, gl, gf⟩ q))) (hx : PA X xs (LA X T W (evs ⟨cf, gl, gf⟩ ps))) : PE X (.Call (.Attribute o x apos) xs [] cpos) (LE X T W (ev ⟨cf, gl, gf⟩ (.mcall q x ds ps))) := by
  refine ⟨fun pins s σ H Q I h => ?_⟩
  obtain ⟨S, io, env, rel, er, post⟩ := h
  simp only [ev] at post
  have start := ho.run pins s σ H (fun v H1 => ∃ S io p, Rel X.K T S io H1 ∧ EnvR X.K S.length io H1 env σ ∧ Rep X.K S.length io H1 p v ∧ Post X.K T W (Rep X.K) S io H1 Q (match mclF x ds p S with
    | some f => (evs ⟨cf, gl, gf⟩ ps env S).bind fun ps S => cf f (p :: ps) S
    | none => .bad)) I (Post.headG rel er post fun S io H p v rel er rp post => ⟨S, io, p, rel, er, rp, post⟩)
  have meth : ∀ {S : Sto} {io : Nat → Addr} {H1 : Hp} {p : PV} {v : V} {f : Nat}, Rel X.K T S io H1 → Rep X.K S.length io H1 p v → mclF x ds p S = some f → ∃ a C' dx fs fa fd pn, v = .ref a ∧ H1 a = some (.ins C' dx fs) ∧ Cls X.K C' ∧ Meth X.K C' x fa ∧ fs.lookup x = none ∧
      Binds X.K fd pn [] ∧ (∀ as S, cf f as S ≠ .bad → as.length = pn.length) ∧ FnOk X.prog X.w X.K X.mg X.base (L2.CX X.prog X.w) k fa fd pn (spOf X.K T R pn.length (cf f)) := by
    intro S io H1 p v f rel rp e
    unfold mclF at e
    split at e
    · rename_i i
      obtain ⟨hi, rfl⟩ := rp
      split at e
      · rename_i c fs es
        obtain ⟨dx, xs, h1, h2⟩ := rel.ins es
        split at e
        · cases e
        · rename_i en
          have hm := List.all_eq_true.mp hd _ (lookupMem e)
          simp only at hm
          split at hm
          · rename_i ci ec
            have K := P.cls c ci ec
            obtain ⟨fa, hmt, fd, pn, hbn, hlen, F⟩ := K.meth x f (of_decide_eq_true hm)
            exact ⟨_, _, dx, xs, fa, fd, pn, rfl, h1, K.cls.cl, hmt, (h2.look x).2 en, hbn, hlen, F⟩
          · cases hm
      · cases e
    · cases e
  have hfew : ((backTo cpos (starEach xs X.env)).all (fun x => !x.1) && (backToKw cpos (keywordEach [] X.env)).all (fun x => x.1.isSome)
      && decide (xs.length + ([] : List Keyword).length + (if ([] : List Keyword).isEmpty then 0 else 1) < 30)) = true := by
    rw [star_few hpl]
    have : xs.length + ([] : List Keyword).length + (if ([] : List Keyword).isEmpty then 0 else 1) < 30 := by
      show xs.length + 0 + 0 < 30
      omega
    rw [decide_eq_true this]
    rfl
  refine wp_own (nsup_base hb) hfew (by simp [hline]) (thn start fun u s1 ⟨v, H1, I1, r1, S, io, p, rel, er, rp, post⟩ pl => ?_)
  cases em : mclF x ds p S with
  | none => rw [em] at post; exact post.elim
  | some f =>
    rw [em] at post
    obtain ⟨a, C', dx, fs, fa, fd, pn, rfl, ha, hcl, hmt, hno, hbn, hlen, F⟩ := meth rel rp em
    obtain rfl : u = Value.ref a := r1
    refine getmeth_ok I1 ha hcl hmt hno ?_
    have args : LA X T W (evs ⟨cf, gl, gf⟩ ps) σ H1 fun vs H2 => spOf X.K T R pn.length (cf f) (.ref a :: vs) H2 Q (EW X.K T R W) :=
      ⟨S, io, env, rel, er, post.bind fun as S2 io2 H2 vs ex l rel2 ras post2 => fn_sp hlen rel2 (Reps.cons (rp.mono ex l) ras) (post2.wish fun x S io H rel w cls d hr => ⟨x, S, io, rel, hr, w⟩)⟩
    cases xs with
    | nil =>
      have e := h0 rfl
      subst e
      refine PySem.W.callWith_K0 (first := [.ref a]) I1.kIn hmt.kp (run_fn (us := [.ref a]) (vs := [.ref a]) (dvs := []) (ds := []) F C.room hbn .nil C.pass I1 (.cons rfl .nil) ?_)
      simp only [evs, Res.bind_ok] at post
      exact fn_sp hlen rel (Reps.cons rp Reps.nil) (post.wish fun x S io H rel w cls d hr => ⟨x, S, io, rel, hr, w⟩)
    | cons e es =>
      simp only [plainEs, List.all_cons, Bool.and_eq_true] at hpl
      refine PySem.W.callWith_K (first := [.ref a]) (h₀ := X.base) I1.ok.mod.kin hmt.kp (thn (hx.run cpos pins s1 σ H1 _ I1 args) fun us s2 ⟨vs, H2, I2, r, q2⟩ => ⟨I2.kIn, ?_⟩) (star_cons hpl.1) (star_any hpl.2)
      exact run_fn (us := .ref a :: us) (vs := .ref a :: vs) (dvs := []) (ds := []) F C.room hbn .nil C.pass I2 (.cons rfl r) (by rw [List.append_nil]; exact q2)
theorem Rel.made {S : Sto} {io : Nat → Addr} {H : Hp} {K : PySem.W.Frag} {c : Nat} {x dx : Addr} (rel : Rel K T S io H) (nx : H x = none) (nd : H dx = none) (ne : dx ≠ x) :
    ∃ io', Rel K T (S ++ [.ins c []]) io' (upd (upd H dx (.own x)) x (.ins (T.cl c) dx [])) ∧ Ex S.length io H io' (upd (upd H dx (.own x)) x (.ins (T.cl c) dx [])) ∧ io' S.length = x := by
  obtain ⟨r1, e1⟩ := rel.fresh (o := .own x) nd
  obtain ⟨r2, e2⟩ := r1.alloc (a := x) (o := .ins (T.cl c) dx []) (q := .ins c []) (by rw [upd_ne ne.symm]; exact nx) ⟨dx, [], upd_same, rfl⟩
  exact ⟨_, r2, e1.trans (Nat.le_refl _) e2, if_pos rfl⟩
theorem sMake {x : Str} {p pos : Pos} {xs : List Expr} {c f : Nat} {ps : List E} (C : Cok X k T R W N sc) (P : PG X.prog X.w X.K X.mg X.base T R k cf gl G) (h1 : glbB sc x = true) (h2 : isClsB G x c = true) (h3 : nameB x = true)
    (h4 : (match clsOf c G with | some ci => decide (ci.init = f) | none => false) = true) (hpl : plainEs xs = true) (h0 : xs = [] → ps = [])
    (hx : PA X xs (LA X T W (evs ⟨cf, gl, gf⟩ ps))) : PE X (.Call (.Name x p) xs [] pos) (LE X T W (ev ⟨cf, gl, gf⟩ (.make c f ps))) := by
  split at h4
  · rename_i ci ec
    have h4 := of_decide_eq_true h4
    subst h4
    have K := P.cls c ci ec
    obtain ⟨fa, M, fd, pn, hbn, hlen, F⟩ := K.mkd
    have sp : ∀ {S : Sto} {io : Nat → Addr} {H : Hp} {as : List PV} {vs : List V} {Q : VK}, Rel X.K T S io H → Reps X.K S.length io H as vs →
        Post X.K T W (Rep X.K) S io H Q ((cf ci.init (.obj S.length :: as) (S ++ [.ins c []])).bind fun r S' => match r with | .non => .ok (.obj S.length) S' | _ => .bad) →
        ∀ x dx, H x = none → H dx = none → dx ≠ x → spOf X.K T R pn.length (cf ci.init) (.ref x :: (vs ++ [])) (upd (upd H dx (.own x)) x (.ins (T.cl c) dx [])) (fun v H2 => v = .non ∧ Q (.ref x) H2) (EW X.K T R W) := by
      intro S io H as vs Q rel rp post x dx nx nd ne
      obtain ⟨io', rel', ex, hi⟩ := rel.made (c := c) nx nd ne
      rw [List.append_nil]
      refine fn_sp (as := .obj S.length :: as) hlen rel' (Reps.cons ⟨by simp, by rw [hi]⟩ (rp.mono ex (by simp))) ?_
      have post := Post.start ex (show S.length ≤ (S ++ [PO.ins c []]).length by simp) post
      refine Post.wish (W := W) (post.bind fun r S2 io2 H2 v ex2 l2 rel2 rr post2 => ?_) fun x S io H rel w cls d hr => ⟨x, S, io, rel, hr, w⟩
      split at post2
      · cases rr
        refine ⟨rfl, post2.val rel2 ⟨?_, ?_⟩⟩
        · simp at l2; omega
        · rw [ex2.io _ (by simp), hi]
      · exact post2.elim
    cases xs with
    | nil =>
      refine PE.imp (pe_make0 M F C.room1 (glb_of C h1) (P.cnm _ _ h2) hbn .nil C.pass (name_of h3).1) fun σ H Q h => ?_
      obtain ⟨S, io, env, rel, er, post⟩ := h
      have e := h0 rfl
      subst e
      simp only [ev, evs, Res.bind_ok] at post
      exact fun x dx nx nd ne => sp rel Reps.nil post x dx nx nd ne
    | cons e es =>
      simp only [plainEs, List.all_cons, Bool.and_eq_true] at hpl
      refine PE.imp (pe_make M F C.room1 (glb_of C h1) (P.cnm _ _ h2) hbn .nil C.pass hx (name_of h3).1 (star_cons hpl.1) (star_any hpl.2)) fun σ H Q h => ?_
      obtain ⟨S, io, env, rel, er, post⟩ := h
      simp only [ev] at post
      refine Post.headG rel er post fun S io H as vs rel er rp post => ?_
      exact fun x dx nx nd ne => sp rel rp post x dx nx nd ne
  · cases h4
/-! ### dicts -/
theorem Repd.get {S : Sto} {io : Nat → Addr} {H : Hp} {K : PySem.W.Frag} {a : Addr} {kvs : List (PV × PV)} {xs : List (Key × V)} {q : PV} {y : V} (h : Repd K S.length io H kvs xs) (ha : H a = some (.dK xs)) (hk : isK q = true) (rq : Rep K S.length io H q y) :
    ∃ o, DGet H a y o ∧ (∀ p, valD q kvs = some p → ∃ v, o = some v ∧ Rep K S.length io H p v) ∧ (valD q kvs = none → o = none) := by
  have e := kP_V hk rq
  subst e
  exact ⟨_, .k ha, (h.val hk).1, (h.val hk).2⟩
theorem dicV_at {S : Sto} {io : Nat → Addr} {H : Hp} {K : PySem.W.Frag} {p : PV} {v : V} {kvs : List (PV × PV)} (rel : Rel K T S io H) (rp : Rep K S.length io H p v) (e : dicV S p = some kvs) : ∃ a xs, v = .ref a ∧ H a = some (.dK xs) ∧ Repd K S.length io H kvs xs := by
  unfold dicV at e
  split at e
  · rename_i i
    obtain ⟨_, rfl⟩ := rp
    split at e
    · rename_i kv es
      cases e
      obtain ⟨xs, h1, h2⟩ := rel.dic es
      exact ⟨_, xs, rfl, h1, h2⟩
    · cases e
  · cases e
theorem sDnew {pos : Pos} {c : Ctx} : PE X (.Dict [] [] pos) (LE X T W (ev c .dnew)) := by
  refine PE.imp pe_dnewK fun σ H Q h => ?_
  obtain ⟨S, io, env, rel, er, post⟩ := h
  simp only [ev] at post
  intro p n
  obtain ⟨rel', ex⟩ := rel.alloc (o := .dK []) (q := .dic []) n ⟨[], upd_same, rfl⟩
  refine post _ _ _ ex (by simp) rel' ⟨by simp, ?_⟩
  show V.ref p = .ref (if S.length = S.length then p else io S.length)
  rw [if_pos rfl]
theorem unit1 (C : Cok X k T R W N sc) : X.A.units + 1 < cLine := by have := C.room.units; omega
theorem sDget {x y z : Expr} {apos cpos : Pos} {d q p : E} {c : Ctx} (C : Cok X k T R W N sc) (hb : nsup x = true) (hy : plainE y = true) (hz : plainE z = true) (hl : apos.endLine = cpos.line)
    (hd : PE X x (LE X T W (ev c d))) (hk : PE X y (LE X T W (ev c q))) (hp : PE X z (LE X T W (ev c p))) : PE X (.Call (.Attribute x "get" apos) [y, z] [] cpos) (LE X T W (ev c (.dget d q p))) := by
  have tr : backTo cpos (starEach [y, z] X.env) = [(false, eval y X.env), (false, eval z X.env)] := by
    rw [star_cons hy, star_cons hz]; rfl
  refine PE.imp (pe_dget2 (unit1 C) hd hk hp ⟨nsup_base hb, by rw [tr]; rfl, by simp [hl], tr⟩) fun σ H Q h => ?_
  obtain ⟨S, io, env, rel, er, post⟩ := h
  simp only [ev] at post
  refine Post.headG rel er post fun S io H d v rel er rd post => ?_
  cases e0 : dicV S d with
  | none => rw [e0] at post; exact post.elim
  | some kvs0 =>
    rw [e0] at post
    obtain ⟨a, xs, rfl, h1, h2⟩ := dicV_at rel rd e0
    refine ⟨a, rfl, .inl ⟨xs, .inl h1⟩, S, io, env, rel, er, post.bind fun q S2 io2 H2 y ex2 l2 rel2 rq post2 => ⟨S2, io2, env, rel2, er.mono ex2 l2, post2.bind fun p S3 io3 H3 z ex3 l3 rel3 rp post3 => ?_⟩⟩
    have rd3 := (rd.mono ex2 l2).mono ex3 l3
    have rq3 := rq.mono ex3 l3
    cases e3 : dicV S3 d with
    | none => rw [e3] at post3; exact post3.elim
    | some kvs =>
      rw [e3] at post3
      simp only at post3
      split at post3
      · rename_i hk
        obtain ⟨a', xs', e', h3, h4⟩ := dicV_at rel3 rd3 e3
        cases e'
        obtain ⟨o, g, g1, g2⟩ := h4.get h3 hk rq3
        refine ⟨o, g, post3.val rel3 ?_⟩
        cases ev : valD q kvs with
        | none => rw [g2 ev]; exact rp
        | some w =>
          obtain ⟨v, rfl, rv⟩ := g1 w ev
          exact rv
      · exact post3.elim
theorem noSl_of {y : Expr} (h : plainE y = true) : NoSl y := fun ov iv => by
  cases y <;> first | rfl | cases h
theorem sDidx {x y : Expr} {pos : Pos} {d q : E} {c : Ctx} (C : Cok X k T R W N sc) (hy : plainE y = true) (hd : PE X x (LE X T W (ev c d))) (hk : PE X y (LE X T W (ev c q))) : PE X (.Subscript x y pos) (LE X T W (ev c (.didx d q))) := by
  refine PE.imp (pe_dget (unit1 C) hd hk (noSl_of hy)) fun σ H Q h => ?_
  obtain ⟨S, io, env, rel, er, post⟩ := h
  simp only [ev] at post
  refine ⟨S, io, env, rel, er, post.bind fun d S2 io2 H2 v ex2 l2 rel2 rd post2 => ⟨S2, io2, env, rel2, er.mono ex2 l2, post2.bind fun q S3 io3 H3 y ex3 l3 rel3 rq post3 => ?_⟩⟩
  have rd3 := rd.mono ex3 l3
  cases e3 : dicV S3 d with
  | none => rw [e3] at post3; exact post3.elim
  | some kvs =>
    rw [e3] at post3
    simp only at post3
    split at post3
    · rename_i hk
      obtain ⟨a, xs, rfl, h3, h4⟩ := dicV_at rel3 rd3 e3
      obtain ⟨o, g, g1, g2⟩ := h4.get h3 hk rq
      cases ev : valD q kvs with
      | none => rw [ev] at post3; exact post3.elim
      | some w =>
        rw [ev] at post3
        obtain ⟨v, rfl, rv⟩ := g1 w ev
        exact ⟨a, v, rfl, g, post3.val rel3 rv⟩
    · exact post3.elim
theorem sDin {x y : Expr} {pos : Pos} {neg : Bool} {d q : E} {c : Ctx} (C : Cok X k T R W N sc) (hy : plainE y = true) (hk : PE X x (LE X T W (ev c q))) (hd : PE X y (LE X T W (ev c d))) : PE X (.Compare x [if neg then .NotIn else .In] [y] pos) (LE X T W (ev c (.din neg q d))) := by
  have key : ∀ σ H Q, LE X T W (ev c (.din neg q d)) σ H Q → (LE X T W (ev c q)) σ H fun y H1 => (LE X T W (ev c d)) σ H1 fun x H2 => ∃ a o, x = .ref a ∧ DGet H2 a y o ∧ Q (.bl (o.isSome != neg)) H2 := by
    intro σ H Q h
    obtain ⟨S, io, env, rel, er, post⟩ := h
    simp only [ev] at post
    refine ⟨S, io, env, rel, er, post.bind fun q S2 io2 H2 v ex2 l2 rel2 rq post2 => ⟨S2, io2, env, rel2, er.mono ex2 l2, post2.bind fun d S3 io3 H3 y ex3 l3 rel3 rd post3 => ?_⟩⟩
    have rq3 := rq.mono ex3 l3
    cases e3 : dicV S3 d with
    | none => rw [e3] at post3; exact post3.elim
    | some kvs =>
      rw [e3] at post3
      simp only at post3
      split at post3
      · rename_i hk
        obtain ⟨a, xs, rfl, h3, h4⟩ := dicV_at rel3 rd e3
        obtain ⟨o, g, g1, g2⟩ := h4.get h3 hk rq3
        have eo : o.isSome = (valD q kvs).isSome := by
          cases ev : valD q kvs with
          | none => rw [g2 ev]; rfl
          | some w => obtain ⟨v, rfl, _⟩ := g1 w ev; rfl
        exact ⟨a, o, rfl, g, by rw [eo]; exact post3.val rel3 rfl⟩
      · exact post3.elim
  cases neg with
  | false => exact PE.imp (pe_cmp (pc_din (unit1 C) hk hd) (plain_mark hy)) fun σ H Q h => by have z := key σ H Q h; simp only [Bool.bne_false] at z; exact z
  | true => exact PE.imp (pe_cmp (pc_dnotin (unit1 C) hk hd) (plain_mark hy)) fun σ H Q h => by have z := key σ H Q h; simp only [Bool.bne_true] at z; exact z
/-! ### isinstance of an own class -/
theorem isc_ok {S : Sto} {io : Nat → Addr} {H : Hp} {K : PySem.W.Frag} {p : PV} {v : V} {c : Nat} {b : Bool} {ci : CI} (rel : Rel K T S io H) (rp : Rep K S.length io H p v) (e : iscV S p c = some b) (Kc : ClsK K (T.cl c) ci) :
    ∃ t, TyX K H v t ∧ PySem.W.kitOne K t (.ref (T.cl c)) = some b := by
  unfold iscV at e
  cases p with
  | non => cases rp; cases e; exact ⟨_, .base .non, Kc.nis _ (by simp)⟩
  | bl x => cases rp; cases e; exact ⟨_, .base (.bl x), Kc.nis _ (by simp)⟩
  | int i => cases rp; cases e; exact ⟨_, .base (.int i), Kc.nis _ (by simp)⟩
  | str cs => cases rp; cases e; exact ⟨_, .base (.str _), Kc.nis _ (by simp)⟩
  | tup ps =>
    obtain ⟨a, vs, rfl, h1, h2⟩ := rp
    cases e
    rcases h1 with (h1 | ⟨o, h1⟩) | ⟨o, its, n, h1, h3, _⟩
    · exact ⟨_, .base (.tup h1), Kc.nis _ (by simp)⟩
    · exact ⟨_, .fTuple h1, Kc.nis _ (by simp)⟩
    · exact ⟨_, .kTuple h1 h3, Kc.nis _ (by simp)⟩
  | obj i =>
    obtain ⟨_, rfl⟩ := rp
    simp only at e
    split at e
    · rename_i c' fs es
      split at e
      · rename_i ec
        cases e
        subst ec
        obtain ⟨dx, xs, h1, h2⟩ := rel.ins es
        exact ⟨_, .base (.ins h1 Kc.isC.cl Kc.isC.ha Kc.isC.hn Kc.isC.htk Kc.isC.hm), Kc.isC.me⟩
      · cases e
    · rename_i xs es
      cases e
      obtain ⟨vs, h1, h2⟩ := rel.lst es
      exact ⟨_, .base (.lst h1), Kc.nis _ (by simp)⟩
    · cases e
theorem sIsc {x z : Str} {p pz pos : Pos} {y : Expr} {q : E} {c : Nat} {cc : Ctx} (C : Cok X k T R W N sc) (P : PG X.prog X.w X.K X.mg X.base T R k cf gl G) (h1 : glbB sc x = true) (h2 : gvB G x .blt = true) (h3 : x = "isinstance") (hy : plainE y = true)
    (hq : PE X y (LE X T W (ev cc q))) (h4 : glbB sc z = true) (h5 : isClsB G z c = true) (h6 : (clsOf c G).isSome = true) (h7 : nameB z = true) : PE X (.Call (.Name x p) [y, .Name z pz] [] pos) (LE X T W (ev cc (.isc q c))) := by
  subst h3
  cases ec : clsOf c G with
  | none => rw [ec] at h6; cases h6
  | some ci =>
  have K := P.cls c ci ec
  refine PE.imp (pe_callB call_isi (glb_of C h1) (P.blt _ h2) boot_isinstance (pa_cons hq (pa_cons (pe_glob (v := .ref (T.cl c)) (glb_of C h4) (P.cnm _ _ h5) rfl (name_of h7).1) pa_nil) (star_cons hy)) (by decide +kernel) (by decide +kernel) (star_cons hy) rfl) fun σ H Q h => ?_
  obtain ⟨S, io, env, rel, er, post⟩ := h
  simp only [ev] at post
  refine Post.headG rel er post fun S io H p v rel er rp post => ?_
  cases e : iscV S p c with
  | none => rw [e] at post; exact post.elim
  | some b =>
    rw [e] at post
    obtain ⟨t, ty, hk⟩ := isc_ok rel rp e K.cls
    exact ⟨v, .ref (T.cl c), t, _, b, rfl, .own _, ty, hk, post.val rel rfl⟩
/-! ### len(o) by __len__, a == b by __eq__ -/
def rLenI (X : Cx) (k : Nat) : List V → Hp → VK → Prop := fun xs H Q => ∃ (a C dx : Addr) (fs : List (Str × V)) (fa : Addr) (fd : FuncData) (pn : List Str) (sp : Sp), xs = [.ref a] ∧ H a = some (.ins C dx fs) ∧ Meth X.K C "__len__" fa ∧
  Binds X.K fd pn [] ∧ FnOk X.prog X.w X.K X.mg X.base (L2.CX X.prog X.w) k fa fd pn sp ∧ sp [.ref a] H (fun v H' => ∃ n : Int, v = .int n ∧ 0 ≤ n ∧ n < 4611686018427387904 ∧ Q (.int n) H') (fun _ _ _ => False)
theorem call_lenI (hr : Room (k + 1) X.A) : CallR X (.builtin "len") (rLenI X k) := by
  intro pins s σ H xs us Q I r h
  obtain ⟨a, C, dx, fs, fa, fd, pn, sp, rfl, ha, hm, hb, F, hq⟩ := h
  obtain ⟨u, rfl, rx⟩ := vals1 r
  cases rx
  obtain ⟨mA, J, _⟩ := ins_get I.hok ha
  obtain ⟨od, J, _⟩ := J.look
  obtain ⟨m, hF⟩ := I.fr
  have hl := F.len _ _ _ _ hq
  refine PySem.W.len_K hF I.ok.mod.kin J hm.at_ hm.fn ?_
  refine wpAny_call (codeAny_mono (F.run X.A.in1 X.stack s H ⟨[.ref a], []⟩ [.ref a] [.ref a] _ _ hr.in1 I.env0.in1 (by
    have := hb s [.ref a] I.kIn (by simpa using hl)
    simpa using this) (.cons rfl .nil) hq) fun r s' hq => ?_)
  cases r with
  | error e => exact (pass_nox pins σ H s e s' (I.wish _) hq).elim
  | ok fl =>
    cases fl with
    | ret w =>
      obtain ⟨z, H', I', rz, n, ez, h0, h1, q⟩ := I.after hq
      subst ez
      obtain ⟨t, rfl⟩ := rz
      exact ⟨⟨h0, by omega⟩, .int n, H', I'.tok _, ⟨_, rfl⟩, q⟩
    | next => exact False.elim hq
    | brk => exact False.elim hq
    | cont => exact False.elim hq
theorem sLeni {x : Str} {p pos : Pos} {y : Expr} {q : E} {ds : List (Nat × Nat)} (C : Cok X k T R W N sc) (P : PG X.prog X.w X.K X.mg X.base T R k cf gl G) (h1 : glbB sc x = true) (h2 : gvB G x .blt = true) (h3 : x = "len") (hy : plainE y = true) (hd : methB G "__len__" ds = true)
    (hq : PE X y (LE X T W (ev ⟨cf, gl, gf⟩ q))) : PE X (.Call (.Name x p) [y] [] pos) (LE X T W (ev ⟨cf, gl, gf⟩ (.leni q ds))) := by
  subst h3
  refine PE.imp (pe_callB (call_lenI C.room1) (glb_of C h1) (P.blt _ h2) PySem.boot_len (pa_cons hq pa_nil (star_cons hy)) (by decide +kernel) (by decide +kernel) (star_cons hy) rfl) fun σ H Q h => ?_
  obtain ⟨S, io, env, rel, er, post⟩ := h
  simp only [ev] at post
  refine Post.headG rel er post fun S io H p v rel er rp post => ?_
  split at post
  · rename_i i
    obtain ⟨hi, rfl⟩ := rp
    split at post
    · rename_i c fs es
      obtain ⟨dx, xs, g1, g2⟩ := rel.ins es
      split at post
      · rename_i f ed
        have hm := List.all_eq_true.mp hd _ (lookupMem ed)
        simp only at hm
        split at hm
        · rename_i ci ec
          have K := P.cls c ci ec
          obtain ⟨fa, hmt, fd, pn, hbn, hlen, F⟩ := K.meth "__len__" f (of_decide_eq_true hm)
          refine ⟨_, _, dx, xs, fa, fd, pn, _, rfl, g1, hmt, hbn, F, fn_sp hlen rel (Reps.cons (show Rep X.K S.length io H (.obj i) (.ref (io i)) from ⟨hi, rfl⟩) Reps.nil) ?_⟩
          cases ec2 : cf f [.obj i] S with
          | bad => rw [ec2] at post; exact post.elim
          | exc x S' => rw [ec2] at post; exact post.elim
          | ok r S' =>
            rw [ec2] at post
            intro io' H' v ex l rel' rr
            simp only [Res.nox, Res.bind_ok] at post
            split at post
            · rename_i n
              split at post
              · rename_i hb
                rw [Bool.and_eq_true, decide_eq_true_eq, decide_eq_true_eq] at hb
                cases rr
                exact ⟨n, rfl, hb.1, hb.2, post io' H' (.int n) ex l rel' rfl⟩
              · exact post.elim
            · exact post.elim
        · cases hm
      · exact post.elim
    · exact post.elim
  · exact post.elim
theorem bty (C : Addr) (K : PySem.W.Frag) : ∀ t ∈ ["NoneType", "bool", "int", "str", "tuple", "list"], PySem.W.notFirst K C (.type t) = true := by
  intro t ht
  have e : ∀ t ∈ ["NoneType", "bool", "int", "str", "tuple", "list"], ∃ l, fastBuiltinMro t = some l ∧ l.all (fun v => match v with | .type _ => true | _ => false) = true := by
    intro t ht
    simp only [List.mem_cons, List.not_mem_nil, or_false] at ht
    rcases ht with rfl | rfl | rfl | rfl | rfl | rfl
    · exact ⟨[.type "NoneType", .type "object"], by decide +kernel, rfl⟩
    · exact ⟨[.type "bool", .type "int", .type "object"], by decide +kernel, rfl⟩
    · exact ⟨[.type "int", .type "object"], by decide +kernel, rfl⟩
    · exact ⟨[.type "str", .type "object"], by decide +kernel, rfl⟩
    · exact ⟨[.type "tuple", .type "object"], by decide +kernel, rfl⟩
    · exact ⟨[.type "list", .type "object"], by decide +kernel, rfl⟩
  obtain ⟨l, h1, h2⟩ := e t ht
  have : PySem.W.subIn K (.type t) (.ref C) = some false := by
    show (fastBuiltinMro t).map (·.contains (.ref C)) = some false
    rw [h1]
    simp only [Option.map_some, Option.some.injEq]
    rw [List.contains_eq_any_beq, List.any_eq_false]
    intro v hv
    have := List.all_eq_true.mp h2 v hv
    cases v <;> simp_all
  unfold PySem.W.notFirst
  rw [this]
  simp
/-- the type of the right side -/
theorem right_ty {S : Sto} {io : Nat → Addr} {H : Hp} {s : Shared} {pins : List (Addr × Obj)} {σ : L2.St} {p : PV} {v : V} {u : Value} {c : Nat} {b : Bool} (I : Inv X pins σ H s) (ru : RelV v u) (rel : Rel X.K T S io H) (rp : Rep X.K S.length io H p v) (e : iscV S p c = some b) :
    ∃ t, PySem.W.Looks (model X.prog X.w) s.heap (typeOf u) t ∧ PySem.W.notFirst X.K (T.cl c) t = true := by
  unfold iscV at e
  cases p with
  | non => cases rp; cases ru; exact ⟨_, PySem.W.Looks.of_pure rfl, bty _ _ "NoneType" (by simp)⟩
  | bl x => cases rp; cases ru; exact ⟨_, PySem.W.Looks.of_pure rfl, bty _ _ "bool" (by simp)⟩
  | int i => cases rp; obtain ⟨t, rfl⟩ := ru; exact ⟨_, PySem.W.Looks.of_pure rfl, bty _ _ "int" (by simp)⟩
  | str cs => cases rp; obtain ⟨t, rfl⟩ := ru; exact ⟨_, PySem.W.Looks.of_pure rfl, bty _ _ "str" (by simp)⟩
  | tup ps =>
    obtain ⟨a, vs, rfl, h1, h2⟩ := rp
    cases ru
    obtain ⟨its, r', pl, hz⟩ := I.tuple h1
    obtain ⟨o, ho, hc, n, hd⟩ := pl
    refine ⟨_, (PySem.W.Looks.ld ho).andThen .now, ?_⟩
    rw [hc]
    exact bty _ _ "tuple" (by simp)
  | obj i =>
    obtain ⟨_, rfl⟩ := rp
    cases ru
    simp only at e
    split at e
    · rename_i c' fs es
      split at e
      · rename_i ec
        subst ec
        obtain ⟨dx, xs, h1, h2⟩ := rel.ins es
        obtain ⟨mA, J, _⟩ := ins_get I.hok h1
        obtain ⟨od, J, _⟩ := J.look
        exact ⟨_, J.type, by simp [PySem.W.notFirst]⟩
      · cases e
    · rename_i xs es
      obtain ⟨vs, h1, h2⟩ := rel.lst es
      obtain ⟨its, r', pl, hz⟩ := I.list (.inl (.inl h1))
      obtain ⟨o, ho, hc, n, hd⟩ := pl.isList
      refine ⟨_, (PySem.W.Looks.ld ho).andThen .now, ?_⟩
      rw [hc]
      exact bty _ _ "list" (by simp)
    · cases e
def oeqV (cf : Nat → List PV → Sto → Res PV) (ds : List (Nat × Nat)) (p q : PV) (S : Sto) : Res PV := match p with
    | .obj i => match S[i]? with
      | some (.ins c _) => match ds.lookup c, iscV S q c with
        | some f, some _ => (cf f [.obj i, q] S).nox.bind fun r S => match r with
          | .bl b => .ok (.bl b) S
          | _ => .bad
        | _, _ => .bad
      | _ => .bad
    | _ => .bad
theorem op_oeq {ds : List (Nat × Nat)} (C : Cok X k T R W N sc) (P : PG X.prog X.w X.K X.mg X.base T R k cf gl G) (hd : methB G "__eq__" ds = true) : OpR X (compareOp .Eq) (fun x y H Q => ∃ S io p q, Rel X.K T S io H ∧ Rep X.K S.length io H p x ∧ Rep X.K S.length io H q y ∧ Post X.K T W (Rep X.K) S io H Q (oeqV cf ds p q S)) := by
  intro pins s σ H x y v u Q I rx ry h
  obtain ⟨S, io, p, q, rel, rp, rq, post⟩ := h
  unfold oeqV at post
  split at post
  · rename_i i
    have hp := rp
    obtain ⟨hi, rfl⟩ := rp
    cases rx
    split at post
    · rename_i c fs es
      obtain ⟨dx, xs, g1, g2⟩ := rel.ins es
      split at post
      · rename_i f b ed ei
        have hm := List.all_eq_true.mp hd _ (lookupMem ed)
        simp only at hm
        split at hm
        · rename_i ci ec
          have K := P.cls c ci ec
          obtain ⟨fa, hmt, fd, pn, hbn, hlen, F⟩ := K.meth "__eq__" f (of_decide_eq_true hm)
          obtain ⟨t, L, nf⟩ := right_ty I ry rel rq ei
          obtain ⟨mA, J, _⟩ := ins_get I.hok g1
          obtain ⟨od, J, _⟩ := J.look
          obtain ⟨m, hF⟩ := I.fr
          show wpAny (model X.prog X.w) X.A (richCompare .Eq (.ref (io i)) u) (EP X pins σ Q) X.xe s
          refine PySem.W.cmp_K (op := .Eq) C.room.units0 hF I.ok.mod.kin J L nf hmt.at_ hmt.fn ?_
          have sp : spOf X.K T R pn.length (cf f) [.ref (io i), y] H (fun v H' => ∃ b, v = .bl b ∧ Q (.bl b) H') (EW X.K T R W) := by
            refine fn_sp hlen rel (Reps.cons hp (Reps.cons rq Reps.nil)) ?_
            cases ec2 : cf f [.obj i, q] S with
            | bad => rw [ec2] at post; exact post.elim
            | exc x S' => rw [ec2] at post; exact post.elim
            | ok r S' =>
              rw [ec2] at post
              intro io' H' v ex l rel' rr
              simp only [Res.nox, Res.bind_ok] at post
              split at post
              · rename_i b
                cases rr
                exact ⟨b, rfl, post io' H' (.bl b) ex l rel' rfl⟩
              · exact post.elim
          refine wpAny_mono (run_fn (us := [.ref (io i), u]) (vs := [.ref (io i), y]) (dvs := []) (ds := []) F C.room hbn .nil C.pass I (.cons rfl (.cons ry .nil)) sp) (fun w s' hw => ?_) fun _ _ e => e
          obtain ⟨z, H', I', rz, b, ez, hq⟩ := hw
          subst ez
          cases rz
          exact ⟨.bl b, H', I', rfl, hq⟩
        · cases hm
      · exact post.elim
    · exact post.elim
  · exact post.elim
theorem sOeq {y z : Expr} {pos : Pos} {p q : E} {ds : List (Nat × Nat)} (C : Cok X k T R W N sc) (P : PG X.prog X.w X.K X.mg X.base T R k cf gl G) (hd : methB G "__eq__" ds = true) (hz : plainE z = true)
    (hp : PE X y (LE X T W (ev ⟨cf, gl, gf⟩ p))) (hq : PE X z (LE X T W (ev ⟨cf, gl, gf⟩ q))) : PE X (.Compare y [.Eq] [z] pos) (LE X T W (ev ⟨cf, gl, gf⟩ (.oeq p q ds))) := by
  refine PE.imp (pe_cmpR (op_oeq (T := T) (W := W) C P hd) hp hq (plain_mark hz)) fun σ H Q h => ?_
  obtain ⟨S, io, env, rel, er, post⟩ := h
  have e : ev ⟨cf, gl, gf⟩ (.oeq p q ds) env S = (ev ⟨cf, gl, gf⟩ p env S).bind fun p S => (ev ⟨cf, gl, gf⟩ q env S).bind fun q S => oeqV cf ds p q S := rfl
  rw [e] at post
  exact ⟨S, io, env, rel, er, post.bind fun p S1 io1 H1 v e1 l1 rel1 rp post1 => ⟨S1, io1, env, rel1, er.mono e1 l1, post1.bind fun q S2 io2 H2 w e2 l2 rel2 rq post2 => ⟨S2, io2, p, q, rel2, rp.mono e2 l2, rq, post2⟩⟩⟩
end
end TM

/-! TM, part U: sets of texts. -/
namespace TxS
open PySem PySem.Spec PyProof.Rows L2
/-- the text of a set's entry -/
def tx (e : Int × Value) : Str := match e.2 with
  | .str x _ => x
  | _ => Str.empty
def Fine (w : World) (e : Int × Value) : Prop := ∃ x t, e = (hashStr w x, Value.str x t)
/-- a set of texts: xs its texts as its entries keep them -/
structure TSet (w : World) (h : Heap) (a : Addr) (xs : List Str) : Prop where
  ex : ∃ o es ep t, h.get? a = some o ∧ o.ExactSet ∧ o.data = .set es ep t ∧ (∀ e ∈ es.toList, Fine w e) ∧ es.toList.map tx = xs ∧ es.size < scanBound ∧ t.fits es.size = true ∧ Ris t.place.toList ∧ (w.params.followText "set-order" = true ∨ t.led = true)
  nd : xs.Nodup
theorem TSet.keep {w : World} {h h' : Heap} {a : Addr} {xs : List Str} (T : TSet w h a xs) (k : ∀ o, h.get? a = some o → h'.get? a = some o) : TSet w h' a xs := by
  obtain ⟨o, es, ep, t, e, r⟩ := T.ex
  exact ⟨⟨o, es, ep, t, k o e, r⟩, T.nd⟩
section
variable {P : Program} {w : World}
theorem fine_el {l : List (Int × Value)} (g : ∀ e ∈ l, Fine w e) : ElemsOf (PySem.strKind P w) l := fun e he => by
  obtain ⟨x, t, rfl⟩ := g e he
  exact ⟨⟨x, strKind_is P w x t, rfl⟩, rfl⟩
theorem fine_is {e : Int × Value} (g : Fine w e) (y : Str) : (PySem.strKind P w).is y e.2 = true ↔ tx e = y := by
  obtain ⟨x, t, rfl⟩ := g
  constructor
  · intro q
    have q : Value.isStrOf y (Value.str x t) = true := q
    obtain ⟨u, hu⟩ := Value.isStrOf_shape q
    injection hu
  · intro q
    have q : x = y := q
    rw [← q]; exact strKind_is P w x t
end
section
variable {P : Program} {w : World} {A : Around} {E : Value → Shared → Prop} {s : Shared} {a : Addr} {xs : List Str}
theorem put_there {h : Heap} {a : Addr} {o : Obj} {es es' : Array (Int × Value)} {ep : Nat} {t t' : SetTable} (ho : h.get? a = some o) (hd : o.data = .set es ep t) :
    (h.update a (Obj.putSet es' t')).get? a = some { o with data := .set es' (ep + 1) t' } := L2.store_at ho hd
/-- behind a new entry: laid anew or not -/
theorem behind {g : Bool → Sem Unit} (hg : ∀ (b : Bool) (s₁ : Shared) (Q' : Unit → Shared → Prop), Q' () s₁ → wpAny (model P w) A (g b) Q' E s₁) {o : Obj} {es : Array (Int × Value)} {ep : Nat} {t : SetTable} (ho : s.heap.get? a = some o) (hx : o.ExactSet)
    (hd : o.data = .set es ep t) {n1 : Array (Int × Value)} {t2 : SetTable} (f1 : ∀ e ∈ n1.toList, Fine w e) (d1 : (n1.toList.map tx).Nodup) (b1 : n1.size < scanBound) (ft : t2.fits n1.size = true) (rs : Ris t2.place.toList) (ld : w.params.followText "set-order" = true ∨ t2.led = true)
    {dm : Bool} {R : Option Bool → Shared → Prop} (k : ∀ h' ys, ys.Perm (n1.toList.map tx) → Heap.SameBut a s.heap h' → TSet w h' a ys → R (some true) { s with heap := h' }) :
    wpAny (model P w) A (do
        storeSet a n1 t2
        if (!dm && t2.tooFull) = true then do
            g (relayAll t2 n1 (SetTable.grown n1.size)).2.2
            storeSet a (relayAll t2 n1 (SetTable.grown n1.size)).1 (relayAll t2 n1 (SetTable.grown n1.size)).2.1
            pure (some true)
          else pure (some true)) R E s := by
  have o1 := put_there (es' := n1) (t' := t2) ho hd
  have same1 := Heap.SameBut.update s.heap a (Obj.putSet n1 t2)
  refine wpAny_bind (wpAny_storeSet_of ho hd ?_ (fits_of_scanBound b1))
  by_cases hc : (!dm && t2.tooFull) = true
  · rw [if_pos hc]
    have pm := relayAll_perm t2 n1 (SetTable.grown n1.size)
    have fz := relayAll_fits t2 n1 (SetTable.grown n1.size)
    have rz := relayAll_ris t2 n1 (SetTable.grown n1.size)
    have lz := relayAll_led t2 n1 (SetTable.grown n1.size)
    revert pm fz rz lz
    cases relayAll t2 n1 (SetTable.grown n1.size) with
    | mk n2 r =>
      obtain ⟨t3, gv⟩ := r
      intro pm fz rz lz
      have sz : n2.size = n1.size := by
        have := pm.length_eq
        simpa using this
      refine wpAny_bind (hg _ _ _ (wpAny_bind (wpAny_storeSet_of o1 rfl ?_ (fits_of_scanBound (by show n2.size < scanBound; rw [sz]; exact b1)))))
      have o2 := put_there (es' := n2) (t' := t3) o1 rfl
      have pt : (n2.toList.map tx).Perm (n1.toList.map tx) := pm.map tx
      refine wpAny_pure (k _ _ pt (same1.trans (Heap.SameBut.update _ a _)) ⟨⟨_, n2, _, t3, o2, hx, rfl, fun e he => f1 e (pm.mem_iff.mp he), rfl, by rw [sz]; exact b1, fz, rz, ld.imp id fun z => ?_⟩, pt.nodup_iff.mpr d1⟩)
      have lz : t3.led = t2.led := lz
      rw [lz]; exact z
  · rw [if_neg hc]
    exact wpAny_pure (k _ _ (.refl _) same1 ⟨⟨_, n1, _, t2, o1, hx, rfl, f1, rfl, b1, ft, rs, ld⟩, d1⟩)
/-- x put into the set -/
theorem put_in {x : Str} {t : Tok} {Q : Bool → Shared → Prop} (T : TSet w s.heap a xs) (room : xs.length + 1 < scanBound)
    (k : ∀ h' ys b, Heap.SameBut a s.heap h' → TSet w h' a ys → ys.Perm (if x ∈ xs then xs else x :: xs) → Q b { s with heap := h' }) :
    wpAny (model P w) A (setAddHashed a (.str x t) (hashStr w x)) Q E s := by
  obtain ⟨o, es, ep, tb, ho, hx, hd, fn, et, sb, ft, rs, ld⟩ := T.ex
  have el : ElemsOf (PySem.strKind P w) es.toList := fine_el fn
  have len : es.size = xs.length := by rw [← et, List.length_map, Array.length_toList]
  unfold setAddHashed setAddHashedIn
  refine wpAny_holding (wpAny_bind (wpAny_setState_of ho hd ft ?_))
  dsimp only
  rw [byScan_of (show (Value.str x t).scannable = true from rfl) sb el]
  simp only [↓reduceIte]
  unfold setAddByScan
  refine wpAny_bind (wpAny_bind (wpAny_rule (wpAny_bind (wpAny_setScan_of (strKind_is P w x t) ho hd ft el ?_))))
  cases fi : List.findIdx? (fun e => (PySem.strKind P w).is x e.2) es.toList with
  | some j =>
    dsimp only
    obtain ⟨hj, pj, _⟩ := List.findIdx?_eq_some_iff_getElem.mp fi
    have mx : x ∈ xs := by
      rw [← et]
      exact List.mem_map.mpr ⟨_, List.getElem_mem hj, (fine_is (P := P) (fn _ (List.getElem_mem hj)) x).mp pj⟩
    refine wpAny_pure (wpAny_pure ?_)
    exact k s.heap xs _ (Heap.SameBut.refl a s.heap) T (by rw [if_pos mx])
  | none =>
    dsimp only
    have nx : x ∉ xs := fun mx => by
      rw [← et] at mx
      obtain ⟨e, he, q⟩ := List.mem_map.mp mx
      have z := List.findIdx?_eq_none_iff.mp fi e he
      rw [(fine_is (P := P) (fn e he) x).mpr q] at z
      cases z
    have pm := layNew_perm tb es (hashStr w x) (.str x t)
    have fz := layNew_fits tb es (hashStr w x) (.str x t)
    have rz := layNew_ris tb es (hashStr w x) (.str x t) rs
    have lz := layNew_led tb es (hashStr w x) (.str x t)
    revert pm fz rz lz
    show _ → _ → _ → _ → wpAny (model P w) A _ _ E s
    cases layNew tb es (hashStr w x) (.str x t) with
    | mk n1 r =>
      obtain ⟨t1, dm, gv⟩ := r
      intro pm fz rz lz
      dsimp only at pm fz rz lz ⊢
      rw [Array.toList_push] at pm
      have pc : n1.toList.Perm ((hashStr w x, Value.str x t) :: es.toList) := pm.trans (List.perm_append_singleton _ _)
      have pt : (n1.toList.map tx).Perm (x :: xs) := by
        have q := pc.map tx
        rw [List.map_cons, et] at q
        exact q
      have f1 : ∀ e ∈ n1.toList, Fine w e := fun e he => by
        rcases List.mem_cons.mp (pc.mem_iff.mp he) with z | z
        · exact ⟨x, t, z⟩
        · exact fn e z
      have d1 : (n1.toList.map tx).Nodup := pt.nodup_iff.mpr (List.nodup_cons.mpr ⟨nx, T.nd⟩)
      have b1 : n1.size < scanBound := by
        have q := pt.length_eq
        rw [List.length_map, Array.length_toList, List.length_cons] at q
        rw [q]; exact room
      have l1 : w.params.followText "set-order" = true ∨ t1.led = true := ld.imp id fun z => by rw [lz]; exact z
      have gw : ∀ (b : Bool) {s₁ : Shared} {Q' : Unit → Shared → Prop}, Q' () s₁ → wpAny (model P w) A (match b with | true => rule "set.scan.the-table-gave-way" | false => pure ()) Q' E s₁ := fun b s₁ Q' q => by
        cases b
        · exact wpAny_pure q
        · exact wpAny_rule q
      have fin : ∀ h' ys b, ys.Perm (n1.toList.map tx) → Heap.SameBut a s.heap h' → TSet w h' a ys → Q b { s with heap := h' } := fun h' ys b p sm T' => k h' ys b sm T' (by rw [if_neg nx]; exact p.trans pt)
      refine wpAny_bind (gw _ ?_)
      split
      · refine wpAny_bind ?_
        rw [hashByValue_scannable 8 (show (Value.str x t).scannable = true from rfl)]
        refine wpAny_pure (behind (fun b s₁ Q' q => ?_) ho hx hd f1 d1 b1 ?_ ?_ ?_ fun h' ys p sm T' => wpAny_pure (fin h' ys _ p sm T'))
        · cases b <;> first | exact wpAny_pure q | exact wpAny_rule q
        · first | exact fz | (split <;> first | exact fz | exact SetTable.fits_plain_off fz)
        · first | exact rz | (split <;> exact rz)
        · first | exact l1 | (split <;> exact l1)
      · refine wpAny_bind (wpAny_pure ?_)
        simp only [↓reduceIte]
        refine behind (fun b s₁ Q' q => ?_) ho hx hd f1 d1 b1 fz rz l1 fun h' ys p sm T' => wpAny_pure (fin h' ys _ p sm T')
        cases b <;> first | exact wpAny_pure q | exact wpAny_rule q
end
/-- each once, as a list grows; up to turns -/
def Once (ys xs : List Str) : Prop := xs.Nodup ∧ ∀ x, x ∈ xs ↔ x ∈ ys
theorem Once.step {ys xs zs : List Str} {x : Str} (o : Once ys xs) (p : zs.Perm (if x ∈ xs then xs else x :: xs)) : Once (ys ++ [x]) zs := by
  by_cases m : x ∈ xs
  · rw [if_pos m] at p
    refine ⟨p.nodup_iff.mpr o.1, fun y => ?_⟩
    rw [p.mem_iff, o.2, List.mem_append, List.mem_singleton]
    exact ⟨.inl, fun h => h.elim id fun e => e ▸ (o.2 x).mp m⟩
  · rw [if_neg m] at p
    refine ⟨p.nodup_iff.mpr (List.nodup_cons.mpr ⟨m, o.1⟩), fun y => ?_⟩
    rw [p.mem_iff, List.mem_cons, o.2, List.mem_append, List.mem_singleton]
    exact Or.comm
theorem Once.len {ys xs : List Str} (o : Once ys xs) : xs.length ≤ ys.length := by
  have key : ∀ (a b : List Str), a.Nodup → (∀ x ∈ a, x ∈ b) → a.length ≤ b.length := by
    intro a
    induction a with
    | nil => intro b _ _; exact Nat.zero_le _
    | cons x a ih =>
      intro b nd h
      obtain ⟨n1, n2⟩ := List.nodup_cons.mp nd
      have mb := h x List.mem_cons_self
      have := ih (b.erase x) n2 fun y hy => (List.mem_erase_of_ne fun e => n1 (by rw [← e]; exact hy)).mpr (h y (List.mem_cons_of_mem _ hy))
      have l2 := List.length_erase_of_mem mb
      have l3 : 0 < b.length := List.length_pos_of_mem mb
      rw [List.length_cons]
      omega
  exact key xs ys o.1 fun x h => (o.2 x).mp h
section
variable {P : Program} {w : World} {A : Around} {I : Addr} {fp wr : List Addr} {G : Array GenState → Array GenState → Prop} {n : Nat} {Pv : Nat → Value → Prop} {St : Nat → Shared → Prop} {R : Result → Shared → Prop}
/-- the texts of a walk put into the set at D -/
theorem fill_up (W : WalksS P w A.in1 I fp wr G n Pv St) (D : Addr) (nD : D ∉ fp) (ys : List Str) (hn : ys.length = n) (few : n + 1 < scanBound) (val : ∀ i v, Pv i v → ∃ y t, ys[i]? = some y ∧ v = .str y t) :
    ∀ (k i : Nat) (s s0 : Shared) (xs : List Str), n - i = k → i ≤ n → St i s → Moved (D :: wr) G s0 s → TSet w s.heap D xs → Once (ys.take i) xs →
      (∀ s' xs, Moved (D :: wr) G s0 s' → TSet w s'.heap D xs → Once ys xs → R (.ok (.ret .none)) s') →
      codeAny (model P w) A (.builtin "set.update.loop" ⟨[.ref D, .ref I], []⟩) R s := by
  have nw : D ∉ wr := fun h => nD (W.sub _ h)
  have up : ∀ {s1 s2}, Moved wr G s1 s2 → Moved (D :: wr) G s1 s2 := fun m => m.mono fun b hb => List.mem_cons_of_mem _ hb
  intro k
  induction k with
  | zero =>
    intro i s s0 xs hk hi hst mv hT on fin
    obtain rfl : i = n := by omega
    refine codeAny_builtin PyProof.Rows.F.entry_set_update_loop ?_
    rw [Around.under_plainId PyProof.Rows.F.plain_set_update_loop _]
    show wpAny _ A.in1 (pyNext (.ref I) >>= _) _ _ s
    refine wpAny_bind (W.done s _ _ hst fun s2 m2 => ?_)
    show wpAny _ A.in1 (ret Value.none) _ _ s2
    refine wpAny_pure (fin s2 xs (Moved.trans W.gtrans mv (up m2)) (hT.keep fun o e => m2.heap D o nw e) ?_)
    rwa [← hn, List.take_length] at on
  | succ k ih =>
    intro i s s0 xs hk hi hst mv hT on fin
    have lt : i < n := by omega
    refine codeAny_builtin PyProof.Rows.F.entry_set_update_loop ?_
    rw [Around.under_plainId PyProof.Rows.F.plain_set_update_loop _]
    show wpAny _ A.in1 (pyNext (.ref I) >>= _) _ _ s
    refine wpAny_bind (W.item i s _ _ lt hst fun v s2 pv st2 m2 => ?_)
    obtain ⟨y, t, hy, rfl⟩ := val i v pv
    have T2 := hT.keep fun o e => m2.heap D o nw e
    have ll := on.len
    rw [List.length_take] at ll
    show wpAny _ A.in1 (holding [Value.str y t] (setAdd D (.str y t)) >>= _) _ _ s2
    refine wpAny_bind (wpAny_holding ?_)
    unfold setAdd
    refine wpAny_holding (wpAny_bind ((PySem.strKind P w).pyHash (k := y) (strKind_is P w y t) ?_))
    refine put_in (s := { s2 with toks := s2.toks + 1 }) T2 (by omega) fun h' zs b sm T3 pz => ?_
    have on3 : Once (ys.take (i + 1)) zs := by
      have q := on.step pz
      rwa [List.take_succ, hy]
    have m3 : Moved (D :: wr) G s { s2 with toks := s2.toks + 1, heap := h' } := (up m2).then_heap (Nat.le_succ _) fun b o hb e => by
      rw [sm.2 b fun z => hb (by rw [z]; exact List.mem_cons_self)]; exact e
    refine wpAny_pure ⟨plainId_quiet PyProof.Rows.F.plain_set_update_loop _, ih (i + 1) _ s0 zs (by omega) lt (W.frame _ s2 _ _ st2 (Nat.le_succ _) fun b hb o e => ?_) (Moved.trans W.gtrans mv m3) T3 on3 fin⟩
    rw [sm.2 b fun z => nD (by rw [← z]; exact hb)]; exact e
end
/-- the set as it is born -/
def bare (w : World) : Obj := { cls := .type "set", dict := none, data := .set #[] 0 (.fresh 0 0 (!w.params.followText "set-order")) }
theorem bare_set {w : World} {h : Heap} {a : Addr} (e : h.get? a = some (bare w)) : TSet w h a [] := by
  refine ⟨⟨_, #[], 0, _, e, ⟨rfl, rfl, rfl⟩, rfl, fun e he => by simp at he, rfl, by decide, by rfl, List.Pairwise.nil, ?_⟩, List.nodup_nil⟩
  cases q : w.params.followText "set-order" with
  | true => exact .inl rfl
  | false => exact .inr (by simp [SetTable.fresh, q])
section
variable {P : Program} {w : World} {A : Around} {E : Value → Shared → Prop} {s : Shared}
/-- set(v), v a row of texts -/
theorem set_of {v : Value} {T : String} {o : Obj} {HH : Heap → Prop} {n : Nat} {Pv : Nat → Value → Prop} {St : Nat → Heap → Prop} {fp wr : List Addr} (B : Begins v o HH) (ty : ∀ s1 : Shared, HH s1.heap → s1.TypeIs v T) (hH : HH s.heap) (hh : A.handled = none)
    (h1 : isSubtype (.type T) (.type "set") = pure false) (h2 : isSubtype (.type T) (.type "frozenset") = pure false) (h3 : (Value.type T == Value.type "dict") = false)
    (W : ∀ A' : Around, A'.handled = none → Walks P w A' (s.heap.objs.size + 1) fp wr n Pv St) (st0 : ∀ h : Heap, HH h → h.objs.size = s.heap.objs.size + 1 → St 0 (h.push o)) (nfp : s.heap.objs.size ∉ fp) (nwr : ∀ b ∈ wr, b = s.heap.objs.size + 1)
    (ys : List Str) (hn : ys.length = n) (few : n + 1 < scanBound) (val : ∀ i v, Pv i v → ∃ y t, ys[i]? = some y ∧ v = .str y t) {Q : Value → Shared → Prop}
    (k : ∀ h' tk xs, TSet w h' s.heap.objs.size xs → Once ys xs → (∀ b o, s.heap.get? b = some o → h'.get? b = some o) → Q (.ref s.heap.objs.size) { s with heap := h', toks := tk }) :
    wpAny (model P w) A (call (.type "set") [v]) Q E s := by
  obtain ⟨c, tl, hmro⟩ := PySem.F.called_set.mro
  have made := PySem.F.called_set.made
  have sub := PySem.F.called_set.sub
  have nt := PySem.F.called_set.notType
  have cc := PySem.F.called_set.canCreate
  have tc := PySem.F.typeCall_set_1 v
  refine wpAny_call (codeAny_of_tree ?_)
  show wpAny _ _ (callAny (.type "set") _) _ _ _
  refine wpAny_pure ⟨Code.quiet_builtin _ (by decide +kernel), codeAny_builtin PySem.F.entry_type_call ?_⟩
  rw [Around.under_plain (weight_type_call_type "set" [v] []) rfl]
  repeat any_goals (first | assumption | wp_step)
  refine codeAny_mono (code_set_led1 v (E := E) (Q₁ := fun obj s₁ => obj = .ref s.heap.objs.size ∧ s₁ = { s with heap := s.heap.push (bare w) }) ⟨rfl, rfl⟩) fun r s₁ hr => ?_
  cases r with
  | error e => exact hr
  | ok fl =>
    cases fl with
    | next => exact hr.elim
    | brk => exact hr.elim
    | cont => exact hr.elim
    | ret obj =>
      obtain ⟨rfl, rfl⟩ := hr
      have gS : (s.heap.push (bare w)).get? s.heap.objs.size = some (bare w) := Heap.get?_push_size _ rfl
      have tS : Shared.TypeIs { s with heap := s.heap.push (bare w) } (.ref s.heap.objs.size) "set" := ⟨_, gS, rfl⟩
      have il := PySem.F.called_set.init.lookup
      have ib := PySem.F.called_set.init.bind (.ref s.heap.objs.size)
      repeat any_goals (first | assumption | wp_step)
      refine codeAny_mono (codeAny_call_builtin (R := wants (fun r s₂ => r = .none ∧ ∃ h' tk xs, s₂ = { s with heap := h', toks := tk } ∧ TSet w h' s.heap.objs.size xs ∧ Once ys xs ∧ (∀ b o, s.heap.get? b = some o → h'.get? b = some o)) E)
        PySem.F.called_set.init.plain PySem.F.entry_set_init (check_set_init_1 tS ?_)) fun r₂ s₂ hr₂ => ?_
      · have hH1 : HH (s.heap.push (bare w)) := B.keeps _ _ hH fun b o e => Heap.get?_push_of_some _ e
        have tv : Shared.TypeIs { s with heap := s.heap.push (bare w) } v T := ty _ hH1
        unfold Builtin.«set.__init__» noKeywords Builtin.Frozenset.updateFrom
        generalize hPI : pyIter = PI
        wp_walk
        subst hPI
        refine B.iter _ _ _ _ _ _ hH1 ?_
        have z1 : (s.heap.push (bare w)).objs.size = s.heap.objs.size + 1 := Heap.size_push ..
        have hh3 : A.in1.in1.in1.handled = none := by simp [hh]
        refine wpAny_bind (wpAny_runValue ?_)
        show codeAny _ _ (.builtin "set.update.loop" ⟨[.ref s.heap.objs.size, .ref (s.heap.push (bare w)).objs.size], []⟩) _ { s with heap := (s.heap.push (bare w)).push o }
        rw [z1]
        have g2 : ((s.heap.push (bare w)).push o).get? s.heap.objs.size = some (bare w) := Heap.get?_push_of_some _ gS
        refine fill_up ((W _ hh3).toS) s.heap.objs.size nfp ys hn few val n 0 _ { s with heap := (s.heap.push (bare w)).push o } [] (by omega) (Nat.zero_le _) (st0 _ hH1 z1) ⟨fun b o _ e => e, rfl, rfl, rfl, Nat.le_refl _⟩ (bare_set g2) ⟨List.nodup_nil, fun x => by simp⟩ fun s' xs mv hT on => ?_
        obtain ⟨h', g', d', tk', os'⟩ := s'
        have eg : g' = s.gens := mv.gens
        have ed : d' = s.drawn := mv.drawn
        have eo : os' = s.os := mv.os
        subst eg; subst ed; subst eo
        show wpAny _ _ _ _ _ _
        refine wpAny_pure ?_
        show wpAny _ _ (ret Value.none) _ _ _
        refine wpAny_pure ⟨rfl, h', tk', xs, rfl, hT, on, fun b u e => ?_⟩
        have lb := Heap.lt_size e
        refine mv.heap b u (fun z => ?_) (Heap.get?_push_of_some _ (Heap.get?_push_of_some _ e))
        rcases List.mem_cons.mp z with z | z
        · exact Nat.lt_irrefl _ (z ▸ lb)
        · exact Nat.not_succ_lt_self (nwr b z ▸ lb)
      · cases r₂ with
        | error e => exact hr₂
        | ok fl₂ =>
          cases fl₂ with
          | ret r =>
            obtain ⟨rfl, h', tk, xs, rfl, hT, on, kp⟩ := hr₂
            repeat any_goals (first | assumption | wp_step)
            exact k _ _ _ hT on kp
          | _ => exact hr₂.elim
end
end TxS

/-! TM, part V: sets of texts sorted. -/
namespace TxS
open PySem PySem.Spec PyProof.Rows L2 PySem.W
/-! ### sorted, len -/
theorem encs_alike (l : List Str) : AllAlike (l.map PyData.str) := AllAlike.of fun _ _ => rfl
theorem fine_vals {w : World} : ∀ {l : List (Int × Value)}, (∀ e ∈ l, Fine w e) → EachIs (fun v (x : Str) => ∃ t, v = .str x t) (l.map (·.2)) (l.map tx)
  | [], _ => .nil
  | e :: l, h => by
    obtain ⟨x, t, rfl⟩ := h e List.mem_cons_self
    exact .cons ⟨t, rfl⟩ (fine_vals fun e he => h e (List.mem_cons_of_mem _ he))
theorem fine_vals_perm {w : World} {l : List (Int × Value)} (h : ∀ e ∈ l, Fine w e) {vs : List Value} (p : vs.Perm (l.map (·.2))) : ∃ bs : List Str, EachIs (fun v (x : Str) => ∃ t, v = .str x t) vs bs ∧ bs.Perm (l.map tx) := by
  have all : ∀ vs : List Value, (∀ v ∈ vs, ∃ x t, v = Value.str x t) → EachIs (fun v (x : Str) => ∃ t, v = .str x t) vs (vs.map fun v => tx (0, v)) := by
    intro vs
    induction vs with
    | nil => intro _; exact .nil
    | cons v vs ih =>
      intro h
      obtain ⟨x, t, rfl⟩ := h v List.mem_cons_self
      exact .cons ⟨t, rfl⟩ (ih fun u hu => h u (List.mem_cons_of_mem _ hu))
  refine ⟨vs.map fun v => tx (0, v), all vs fun v hv => ?_, ?_⟩
  · obtain ⟨e, he, rfl⟩ := List.mem_map.mp (p.mem_iff.mp hv)
    obtain ⟨x, t, rfl⟩ := h e he
    exact ⟨x, t, rfl⟩
  · have q := p.map fun v => tx (0, v)
    rw [List.map_map] at q
    exact q
theorem each_imp {α β : Type} {R R' : α → β → Prop} (h : ∀ a b, R a b → R' a b) : ∀ {as : List α} {bs : List β}, EachIs R as bs → EachIs R' as bs
  | _, _, .nil => .nil
  | _, _, .cons r t => .cons (h _ _ r) (each_imp h t)
theorem each_len {α β : Type} {R : α → β → Prop} : ∀ {as : List α} {bs : List β}, EachIs R as bs → as.length = bs.length
  | _, _, .nil => rfl
  | _, _, .cons _ t => by rw [List.length_cons, List.length_cons, each_len t]
section
variable {P : Program} {w : World} {A : Around} {E : Value → Shared → Prop} {s : Shared} {a : Addr} {xs : List Str}
/-- sorted of such a set: a new list at p -/
theorem sorted_of {Q : Value → Shared → Prop} (T : TSet w s.heap a xs) (hh : A.handled = none) (hu : A.units + 64 < cLine)
    (k : ∀ s' p (out : Array Value) (c : Nat) (zs : List Str), (∀ b o, s.heap.get? b = some o → s'.heap.get? b = some o) → s'.gens = s.gens → s'.os = s.os → s.heap.objs.size ≤ p → s'.heap.get? p = some (seqObj "list" out c) →
      EachIs (fun v x => ∃ t, v = Value.str x t) out.toList zs → zs.Perm xs → zs.Pairwise (fun x y => x.cps.toList ≤ y.cps.toList) → Q (.ref p) s') :
    wpAny (model P w) A (call (.builtin "sorted") [.ref a]) Q E s := by
  obtain ⟨o, es, ep, tb, ho, hx, hd, fn, et, sb, ft, rs, ld⟩ := T.ex
  refine Calls.call_function_entry kind_sorted plain_sorted entry_sorted (args_sorted1 _) ?_
  unfold Builtin.«sorted»
  refine wpAny_bind (m := checkCount "sorted" 1 1 _) (wpAny_pure (wpAny_bind (collect_set (A := A.in1) hh ⟨o, ho, hx.1, hd⟩ ft sb rs ld fun s1 vs k1 z1 g1 o1 pm => ?_)))
  obtain ⟨bs, ev, pb⟩ := fine_vals_perm fn pm
  rw [et] at pb
  have lb := each_len ev
  have few : vs.length ≤ sizeLine := by
    rw [pm.length_eq, List.length_map, Array.length_toList]
    exact fits_of_scanBound sb
  refine wpAny_bind (wpAny_newList ?_ few)
  have hL : (s1.heap.push (seqObj "list" vs.toArray 0)).get? s1.heap.objs.size = some (seqObj "list" vs.toArray 0) := Heap.get?_push_size _ rfl
  have er : EachIs (fun v (x : Str) => ∃ as, Reads (s1.heap.push (seqObj "list" vs.toArray 0)) v (PyData.str x) as ∧ s1.heap.objs.size ∉ as) vs bs := each_imp (fun v x ⟨t, e⟩ => ⟨[], by rw [e]; exact .str x t, by simp⟩) ev
  refine wpAny_bind (wpAny_holding (PySem.W.list_sort_data (s := { s1 with heap := s1.heap.push (seqObj "list" vs.toArray 0) }) (enc := PyData.str) hL ev er (encs_alike bs) (.others fun b => ⟨fun z => (by cases z), fun _ z => by cases z⟩) (by rw [← lb]; exact few) (fun b _ => ?_) fun out ol eo => ?_))
  · show A.in1.units + 1 + 0 < cLine
    have : A.in1.units = A.units + 1 := rfl
    omega
  · obtain ⟨c, hc⟩ := sortedHeap_at (vs := vs) (out := out.toArray) hL
    have dl : PySem.W.dataLe false PyData.str = fun x y : Str => decide (x.cps.toList ≤ y.cps.toList) := PySem.W.dataLe_str id
    rw [dl] at eo
    refine wpAny_pure ⟨_, rfl, k { s1 with heap := sortedHeap (s1.heap.push (seqObj "list" vs.toArray 0)) s1.heap.objs.size vs out.toArray } s1.heap.objs.size out.toArray c _ (fun b u e => ?_) g1 o1 z1 hc eo ((List.mergeSort_perm _ _).trans pb) ?_⟩
    · have q := k1 b u e
      have hlt := Heap.lt_size q
      show (sortedHeap (s1.heap.push (seqObj "list" vs.toArray 0)) s1.heap.objs.size vs out.toArray).get? b = some u
      rw [sortedHeap_old (Nat.ne_of_lt hlt) (by rw [size_push']; exact Nat.lt_succ_of_lt hlt)]
      exact Heap.get?_push_of_some _ q
    · have q := List.pairwise_mergeSort (le := fun x y : Str => decide (x.cps.toList ≤ y.cps.toList)) (fun x y z h1 h2 => by
        simp only [decide_eq_true_eq] at h1 h2 ⊢
        exact List.le_trans h1 h2) (fun x y => by
        simp only [Bool.or_eq_true, decide_eq_true_eq]
        exact List.le_total _ _) bs
      exact q.imp fun h => by simpa using h
/-- len of such a set -/
theorem len_of {Q : Value → Shared → Prop} (T : TSet w s.heap a xs) (k : ∀ t tk, Q (.int xs.length t) { s with toks := tk }) : wpAny (model P w) A (call (.builtin "len") [.ref a]) Q E s := by
  obtain ⟨o, es, ep, tb, ho, hx, hd, fn, et, sb, ft, rs, ld⟩ := T.ex
  have sz : es.size = xs.length := by rw [← et, List.length_map, Array.length_toList]
  refine call_len_set ho hx hd ft ?_ ?_
  · unfold scanBound at sb; omega
  · rw [sz]; exact k _ _
end
end TxS

/-! TM, part Gb: sets of texts in expressions. -/
namespace TM
open PySem PySem.Spec PyProof.Rows L2 TxS
/-- a row of texts: a list, a tuple -/
def TxtRow (K : PySem.W.Frag) (H : Hp) (x : V) (ys : List Str) : Prop := ∃ a, x = .ref a ∧ (SqL K H a (ys.map V.str) ∨ SqT K H a (ys.map V.str))
/-- a set of texts as an object -/
def SetT (w : World) (a : Addr) (xs : List Str) : HO := .ext fun h => TSet w h a xs
theorem setT_new {w : World} {P : Program} {H : Hp} {h : Heap} {a : Addr} {xs : List Str} (T : TSet w h a xs) : ObjOk P w H h a (SetT w a xs) := by
  obtain ⟨o, es, ep, t, e, _⟩ := T.ex
  exact ⟨T, ⟨o, e⟩, fun h1 h2 t1 k => t1.keep k⟩
theorem strs_get : ∀ {ys : List Str} {us : List Value}, Vals (ys.map V.str) us → ∀ (i : Nat) (v : Value), us[i]? = some v → ∃ y t, ys[i]? = some y ∧ v = .str y t
  | [], _, .nil, i, v, h => by simp at h
  | y :: ys, _, .cons r rs, 0, v, h => by
    simp at h
    subst h
    obtain ⟨t, rfl⟩ := r
    exact ⟨y, t, rfl, rfl⟩
  | y :: ys, _, .cons r rs, i + 1, v, h => by
    simp only [List.getElem?_cons_succ] at h
    exact strs_get rs i v h
section
variable {X : Cx}
def rSetT (K : PySem.W.Frag) (w : World) : List V → Hp → VK → Prop := fun vs H Q => ∃ x ys, vs = [x] ∧ TxtRow K H x ys ∧ ys.length + 1 < scanBound ∧ ∀ p xs, H p = none → Once ys xs → Q (.ref p) (upd H p (SetT w p xs))
theorem cr_setT (hc : X.calm = true) : CallR X (.type "set") (rSetT X.K X.w) := by
  intro pins s σ H vs us Q I r h
  obtain ⟨x, ys, rfl, ⟨a, rfl, row⟩, few, q⟩ := h
  obtain ⟨u, rfl, ru⟩ := vals1 r
  obtain rfl : u = Value.ref a := ru
  have fin : ∀ h' tk xs, TSet X.w h' s.heap.objs.size xs → Once ys xs → (∀ b o, s.heap.get? b = some o → h'.get? b = some o) → EP X pins σ Q (.ref s.heap.objs.size) { s with heap := h', toks := tk } := fun h' tk xs T on kp =>
    ⟨.ref s.heap.objs.size, upd H s.heap.objs.size (SetT X.w s.heap.objs.size xs), I.laid kp (Nat.le_refl _) (setT_new T), rfl, q _ xs (I.hok.fresh (Nat.le_refl _)) on⟩
  rcases row with row | row
  · obtain ⟨its, rv, pl, hz⟩ := I.list row
    have lt : a < s.heap.objs.size := by
      obtain ⟨o, e, _⟩ := pl.isList
      exact Heap.lt_size e
    have hl : its.toArray.size = ys.length := by rw [List.size_toArray, ← rv.length, List.length_map]
    refine set_of (T := "list") (St := _) (Pv := _) (begins_list a its.toArray) (fun s1 h1 => h1.typeIs) pl.isList (I.ok.hd hc) PySem.F.sub_list_set PySem.F.sub_list_frozenset (by decide) (fun A' hA => Walks.list hA _ a (Nat.ne_of_lt (Nat.lt_succ_of_lt lt)) its.toArray) (fun h1 e1 z1 => ?_) ?_ ?_ ys hl.symm (by rw [hl]; exact few) (fun i v hv => ?_) fin
    · rw [show s.heap.objs.size.succ = h1.objs.size from z1.symm]
      exact ⟨⟨_, Heap.get?_push_size _ rfl, rfl, rfl⟩, e1.push _⟩
    · simp only [List.mem_cons, List.not_mem_nil, or_false, not_or]
      exact ⟨Nat.ne_of_lt (Nat.lt_succ_self _), (Nat.ne_of_lt lt).symm⟩
    · intro b hb
      simpa using hb
    · exact strs_get rv i v (by simpa using hv)
  · obtain ⟨its, rv, pl, hz⟩ := I.tuple row
    have lt : a < s.heap.objs.size := by
      obtain ⟨o, e, _⟩ := pl
      exact Heap.lt_size e
    have hl : its.toArray.size = ys.length := by rw [List.size_toArray, ← rv.length, List.length_map]
    refine set_of (T := "tuple") (St := _) (Pv := _) (begins_tuple a its.toArray) (fun s1 h1 => h1.typeIs) pl (I.ok.hd hc) PySem.F.sub_tuple_set PySem.F.sub_tuple_frozenset (by decide) (fun A' hA => Walks.tuple hA _ a (Nat.ne_of_lt (Nat.lt_succ_of_lt lt)) its.toArray) (fun h1 e1 z1 => ?_) ?_ ?_ ys hl.symm (by rw [hl]; exact few) (fun i v hv => ?_) fin
    · rw [show s.heap.objs.size.succ = h1.objs.size from z1.symm]
      exact ⟨⟨_, Heap.get?_push_size _ rfl, rfl, rfl⟩, e1.push _⟩
    · simp only [List.mem_cons, List.not_mem_nil, or_false, not_or]
      exact ⟨Nat.ne_of_lt (Nat.lt_succ_self _), (Nat.ne_of_lt lt).symm⟩
    · intro b hb
      simpa using hb
    · exact strs_get rv i v (by simpa using hv)
theorem each_vals : ∀ {us : List Value} {zs : List Str}, PySem.W.EachIs (fun v x => ∃ t, v = Value.str x t) us zs → Vals (zs.map V.str) us
  | _, _, .nil => .nil
  | _, _, .cons r t => .cons r (each_vals t)
def rSortT (w : World) : List V → Hp → VK → Prop := fun vs H Q => ∃ a xs, vs = [.ref a] ∧ H a = some (SetT w a xs) ∧ ∀ p (zs : List Str), H p = none → zs.Perm xs → zs.Pairwise (fun x y => x.cps.toList ≤ y.cps.toList) → Q (.ref p) (upd H p (.lst (zs.map V.str)))
theorem cr_sortT (hc : X.calm = true) (hu : X.A.units + 64 < cLine) : CallR X (.builtin "sorted") (rSortT X.w) := by
  intro pins s σ H vs us Q I r h
  obtain ⟨a, xs, rfl, ha, q⟩ := h
  obtain ⟨u, rfl, ru⟩ := vals1 r
  obtain rfl : u = Value.ref a := ru
  have T : TSet X.w s.heap a xs := (I.hok a _ ha).1
  have few : xs.length ≤ sizeLine := by
    obtain ⟨o, es, ep, tb, _, _, _, _, et, sb, _⟩ := T.ex
    rw [← et, List.length_map, Array.length_toList]
    exact fits_of_scanBound sb
  refine sorted_of T (I.ok.hd hc) hu fun s' p out c zs kp g o hp ho ev pm pw => ?_
  obtain ⟨h', g', d', tk', os'⟩ := s'
  have g : g' = s.gens := g
  have o : os' = s.os := o
  subst g; subst o
  have np : H p = none := I.hok.fresh hp
  have lz : (zs.map V.str).length ≤ sizeLine := by rw [List.length_map, pm.length_eq]; exact few
  have J : L2.Inv X pins σ (upd H p (.lst (zs.map V.str))) { heap := h', gens := s.gens, drawn := d', toks := tk', os := s.os } :=
    I.call (ch := []) (Un.laid kp hp np) (I.hok.laid kp hp ⟨lz, out.toList, c, each_vals ev, by simpa using ho⟩) I.bare fun _ z => nomatch z
  exact ⟨.ref p, _, J, rfl, q p zs np pm pw⟩
def rLenT (w : World) : List V → Hp → VK → Prop := fun vs H Q => ∃ a xs, vs = [.ref a] ∧ H a = some (SetT w a xs) ∧ Q (.int (xs.length : Nat)) H
theorem cr_lenT : CallR X (.builtin "len") (rLenT X.w) := by
  intro pins s σ H vs us Q I r h
  obtain ⟨a, xs, rfl, ha, q⟩ := h
  obtain ⟨u, rfl, ru⟩ := vals1 r
  obtain rfl : u = Value.ref a := ru
  exact len_of (I.hok a _ ha).1 fun t tk => ⟨.int (xs.length : Nat), H, I.tok tk, ⟨t, rfl⟩, q⟩
end
/-! ### the plain side -/
theorem nub_mem {x : List Nat} : ∀ l : List (List Nat), x ∈ nubS l ↔ x ∈ l
  | [] => Iff.rfl
  | a :: l => by
    have ih := nub_mem (x := x) l
    simp only [nubS]
    split
    · rename_i h
      rw [ih, List.mem_cons]
      refine ⟨.inr, fun q => q.elim (fun e => ?_) id⟩
      rw [e]
      exact (nub_mem l).mp (by simpa using h)
    · rw [List.mem_cons, List.mem_cons, ih]
theorem nub_nodup : ∀ l : List (List Nat), (nubS l).Nodup
  | [] => List.nodup_nil
  | a :: l => by
    simp only [nubS]
    split
    · exact nub_nodup l
    · rename_i h
      exact List.nodup_cons.mpr ⟨fun q => h (by simpa using q), nub_nodup l⟩
theorem leN_eq (a b : List Nat) : leN a b = decide (a ≤ b) := by
  unfold leN
  rw [ltN_eq]
  simp only [← List.not_lt, decide_not]
theorem leN_total : PySem.W.TotalLe leN := by
  constructor
  · intro a b c h1 h2
    simp only [leN_eq, decide_eq_true_eq] at h1 h2 ⊢
    exact List.le_trans h1 h2
  · intro a b
    simp only [leN_eq, decide_eq_true_eq]
    exact List.le_total a b
theorem mkS_of (x : Str) : mkS x.cps.toList = x := by
  cases x; simp [mkS]
/-- the one sorted row of the texts -/
theorem sort_uniq {ys : List (List Nat)} {xs zs : List Str} (on : Once (ys.map mkS) xs) (pm : zs.Perm xs) (pw : zs.Pairwise (fun x y => x.cps.toList ≤ y.cps.toList)) : zs = (isort leN (nubS ys)).map mkS := by
  have e : zs = (zs.map fun x => x.cps.toList).map mkS := by
    rw [List.map_map]
    conv => lhs; rw [← List.map_id zs]
    exact List.map_congr_left fun x _ => (mkS_of x).symm
  rw [e]
  congr 1
  have nz : zs.Nodup := pm.nodup_iff.mpr on.1
  have nz2 : (zs.map fun x => x.cps.toList).Nodup := by
    refine List.Pairwise.map _ (fun x y ne q => ne ?_) nz
    rw [← mkS_of x, ← mkS_of y, q]
  have pi : (isort leN (nubS ys)).Perm (nubS ys) := by rw [isort_eq leN_total]; exact List.mergeSort_perm _ _
  have ni : (isort leN (nubS ys)).Nodup := pi.nodup_iff.mpr (nub_nodup ys)
  have pz : (zs.map fun x => x.cps.toList).Perm (isort leN (nubS ys)) := by
    refine (List.perm_ext_iff_of_nodup nz2 ni).mpr fun y => ?_
    rw [pi.mem_iff, nub_mem, List.mem_map]
    constructor
    · rintro ⟨x, hx, rfl⟩
      obtain ⟨z, hz, e⟩ := List.mem_map.mp ((on.2 x).mp (pm.mem_iff.mp hx))
      rw [← e]; exact hz
    · intro hy
      exact ⟨mkS y, pm.mem_iff.mpr ((on.2 _).mpr (List.mem_map.mpr ⟨y, hy, rfl⟩)), rfl⟩
  refine pz.eq_of_pairwise (le := fun a b : List Nat => a ≤ b) (fun a b _ _ h1 h2 => List.le_antisymm h1 h2) (List.pairwise_map.mpr pw) ((isort_pair leN_total _).imp fun h => ?_)
  rw [leN_eq] at h
  simpa using h
section
variable {X : Cx} {k : Nat} {T : Tb} {R : PXT} {W : Wish} {N : List Str} {sc : Scope} {cf : Nat → List PV → Sto → Res PV} {gl : Nat → PV} {gf : Nat → Env → Sto → Res PV} {gk : Nat → Expr → Bool} {G : GT}
theorem txts_row {S : Sto} {io : Nat → Addr} {H : Hp} {K : PySem.W.Frag} {p : PV} {v : V} {ys : List (List Nat)} (rel : Rel K T S io H) (rp : Rep K S.length io H p v) (e : txtsOf S p = some ys) : TxtRow K H v (ys.map mkS) := by
  unfold txtsOf at e
  cases e1 : seqV S p with
  | none => rw [e1] at e; cases e
  | some xs =>
    rw [e1] at e
    unfold seqV at e1
    split at e1
    · obtain ⟨_, rfl⟩ := rp
      obtain ⟨vs, h1, h2⟩ := rel.sq e1
      rw [strs_reps e h2] at h1
      exact ⟨_, rfl, .inl h1⟩
    · cases e1
      obtain ⟨a, vs, rfl, h1, h2⟩ := rp
      rw [strs_reps e h2] at h1
      exact ⟨_, rfl, .inr h1⟩
    · cases e1
theorem fresh_upd {H : Hp} {p q : Addr} {o : HO} (n : upd H p o q = none) : q ≠ p ∧ H q = none := by
  by_cases e : q = p
  · rw [e, upd_same] at n; cases n
  · rw [upd_ne e] at n; exact ⟨e, n⟩
theorem sSset {x y : Str} {z : Expr} {p1 p2 p3 pos : Pos} {q : E} {c : Ctx} (C : Cok X k T R W N sc) (P : PG X.prog X.w X.K X.mg X.base T R k cf gl G) (h1 : glbB sc x = true) (h2 : gvB G x .blt = true) (h3 : x = "sorted") (h4 : glbB sc y = true) (h5 : gvB G y .blt = true) (h6 : y = "set")
    (hz : plainE z = true) (hq : PE X z (LE X T W (ev c q))) : PE X (.Call (.Name x p1) [.Call (.Name y p2) [z] [] p3] [] pos) (LE X T W (ev c (.sset q))) := by
  subst h3; subst h6
  refine PE.imp (pe_callB (cr_sortT C.calm C.room.units) (glb_of C h1) (P.blt _ h2) PyProof.Rows.boot_sorted (pa_cons (pe_callTy (cr_setT C.calm) (glb_of C h4) (P.blt _ h5) PyProof.Rows.boot_set (pa_cons hq pa_nil (star_cons hz)) (by decide +kernel) (by decide +kernel) (star_cons hz) rfl) pa_nil rfl) (by decide +kernel) (by decide +kernel) rfl rfl) fun σ H Q h => ?_
  obtain ⟨S, io, env, rel, er, post⟩ := h
  simp only [ev] at post
  refine Post.headG rel er post fun S io H p v rel er rp post => ?_
  unfold ssetV at post
  split at post
  · rename_i ys e
    split at post
    · rename_i hl
      refine ⟨v, ys.map mkS, rfl, txts_row rel rp e, by rw [List.length_map]; unfold SETS at hl; unfold scanBound; omega, fun p xs np on => ⟨p, xs, rfl, upd_same, fun p' zs np' pm pw => ?_⟩⟩
      obtain ⟨ne, np2⟩ := fresh_upd np'
      obtain ⟨rel1, ex1⟩ := rel.fresh (o := SetT X.w p xs) np
      rw [sort_uniq on pm pw]
      exact Post.lst rel1 (Post.start ex1 (Nat.le_refl _) post) (reps_strs _) p' np'
    · exact post.elim
  · exact post.elim
theorem sLset {x y : Str} {z : Expr} {p1 p2 p3 pos : Pos} {q : E} {c : Ctx} (C : Cok X k T R W N sc) (P : PG X.prog X.w X.K X.mg X.base T R k cf gl G) (h1 : glbB sc x = true) (h2 : gvB G x .blt = true) (h3 : x = "len") (h4 : glbB sc y = true) (h5 : gvB G y .blt = true) (h6 : y = "set")
    (hz : plainE z = true) (hq : PE X z (LE X T W (ev c q))) : PE X (.Call (.Name x p1) [.Call (.Name y p2) [z] [] p3] [] pos) (LE X T W (ev c (.lset q))) := by
  subst h3; subst h6
  refine PE.imp (pe_callB cr_lenT (glb_of C h1) (P.blt _ h2) boot_len (pa_cons (pe_callTy (cr_setT C.calm) (glb_of C h4) (P.blt _ h5) PyProof.Rows.boot_set (pa_cons hq pa_nil (star_cons hz)) (by decide +kernel) (by decide +kernel) (star_cons hz) rfl) pa_nil rfl) (by decide +kernel) (by decide +kernel) rfl rfl) fun σ H Q h => ?_
  obtain ⟨S, io, env, rel, er, post⟩ := h
  simp only [ev] at post
  refine Post.headG rel er post fun S io H p v rel er rp post => ?_
  unfold lsetV at post
  split at post
  · rename_i ys e
    split at post
    · rename_i hl
      refine ⟨v, ys.map mkS, rfl, txts_row rel rp e, by rw [List.length_map]; unfold SETS at hl; unfold scanBound; omega, fun p xs np on => ⟨p, xs, rfl, upd_same, ?_⟩⟩
      obtain ⟨rel1, ex1⟩ := rel.fresh (o := SetT X.w p xs) np
      have len : xs.length = (nubS ys).length := by
        have q : xs.Perm ((nubS ys).map mkS) := (List.perm_ext_iff_of_nodup on.1 (List.Pairwise.map _ (fun a b ne q => ne (mkS_inj.mp q)) (nub_nodup ys))).mpr fun x => by
          rw [on.2, List.mem_map, List.mem_map]
          exact ⟨fun ⟨a, h, e⟩ => ⟨a, (nub_mem ys).mpr h, e⟩, fun ⟨a, h, e⟩ => ⟨a, (nub_mem ys).mp h, e⟩⟩
        rw [q.length_eq, List.length_map]
      rw [len]
      exact (Post.start ex1 (Nat.le_refl _) post).val rel1 rfl
    · exact post.elim
  · exact post.elim
end
end TM

/-! TM, part H: expressions are sound, the theorem. -/
namespace TM
open PySem PySem.Spec PyProof.Rows L2
section
variable {X : Cx} {k : Nat} {T : Tb} {R : PXT} {W : Wish} {N : List Str} {sc : Scope} {cf : Nat → List PV → Sto → Res PV} {gl : Nat → PV} {gf : Nat → Env → Sto → Res PV} {gk : Nat → Expr → Bool} {G : GT}
theorem Post.bind2 {a b c a' b' c' : Type} {K : PySem.W.Frag} {R1 : Nat → (Nat → Addr) → Hp → a → a' → Prop} {R2 : Nat → (Nat → Addr) → Hp → b → b' → Prop} {R3 : Nat → (Nat → Addr) → Hp → c → c' → Prop}
    {m1 : Env → Sto → Res a} {m2 : Env → Sto → Res b} {f : a → b → Sto → Res c} {σ : L2.St} {S : Sto} {io : Nat → Addr} {H : Hp} {env : Env} {Q : c' → Hp → Prop} {N : a' → b' → Hp → Prop}
    (mono : ∀ {n n' io io' H H' p v}, Ex n io H io' H' → n ≤ n' → R1 n io H p v → R1 n' io' H' p v)
    (rel : Rel K T S io H) (er : EnvR K S.length io H env σ) (post : Post K T W R3 S io H Q ((m1 env S).bind fun p S => (m2 env S).bind fun q S => f p q S))
    (k : ∀ S io H p q v w, Rel K T S io H → R1 S.length io H p v → R2 S.length io H q w → Post K T W R3 S io H Q (f p q S) → N v w H) :
    lift K T W R1 m1 σ H fun v H1 => lift K T W R2 m2 σ H1 fun w H2 => N v w H2 :=
  Lift2 mono ⟨S, io, env, rel, er, post⟩ k
/-- the bind's head, lifted -/
theorem Post.head {a b a' b' : Type} {K : PySem.W.Frag} {R1 : Nat → (Nat → Addr) → Hp → a → a' → Prop} {R3 : Nat → (Nat → Addr) → Hp → b → b' → Prop}
    {m1 : Env → Sto → Res a} {f : a → Sto → Res b} {σ : L2.St} {S : Sto} {io : Nat → Addr} {H : Hp} {env : Env} {Q : b' → Hp → Prop} {N : a' → Hp → Prop}
    (rel : Rel K T S io H) (er : EnvR K S.length io H env σ) (post : Post K T W R3 S io H Q ((m1 env S).bind f))
    (k : ∀ S io H p v, Rel K T S io H → EnvR K S.length io H env σ → R1 S.length io H p v → Post K T W R3 S io H Q (f p S) → N v H) : lift K T W R1 m1 σ H N :=
  ⟨S, io, env, rel, er, post.bind fun p S1 io1 H1 v e1 l1 rel1 rp post1 => k S1 io1 H1 p v rel1 (er.mono e1 l1) rp post1⟩
theorem sNever {a : Expr} : PE X a (LE X T W (fun _ _ => .bad)) := ⟨fun _ _ _ _ _ _ h => by obtain ⟨_, _, _, _, _, h⟩ := h; exact h.elim⟩
theorem sVar {x : Str} {pos : Pos} {i : Nat} {c : Ctx} (C : Cok X k T R W N sc) (h1 : slotB N x i = true) (h2 : visB sc x = true) (h3 : nameB x = true) : PE X (.Name x pos) (LE X T W (ev c (.var i))) := by
  refine PE.imp (pe_var (slot_of C h1) (by rw [C.hsc]; exact vis_of h2) (name_of h3).1 (name_of h3).2.1) fun σ H Q h => ?_
  obtain ⟨S, io, env, rel, er, post⟩ := h
  simp only [ev] at post
  split at post
  · rename_i p e
    obtain ⟨v, h1, h2⟩ := er.2 i p e
    exact ⟨v, h1, post.val rel h2⟩
  · exact post.elim
theorem sCst {cc : Const} {j : Nat} {pos : Pos} {p : PV} {c : Ctx} (h : cstB cc p = true) : PE X (.Constant cc j pos) (LE X T W (ev c (.cst p))) := by
  refine ⟨fun pins s σ H Q I hh => ?_⟩
  obtain ⟨S, io, env, rel, er, post⟩ := hh
  obtain ⟨v, h1, h2⟩ := cst_rep (X := X) (K := X.K) (n := S.length) (io := io) (H := H) h
  exact h2.run pins s σ H Q I (post.val rel h1)
theorem sGlob {x : Str} {pos : Pos} {g : Nat} (C : Cok X k T R W N sc) (P : PG X.prog X.w X.K X.mg X.base T R k cf gl G) (h1 : glbB sc x = true) (h2 : gvB G x (.cst g) = true) (h3 : nameB x = true) : PE X (.Name x pos) (LE X T W (ev ⟨cf, gl, gf⟩ (.glob g))) := by
  obtain ⟨u, v, hm, rv, rp⟩ := P.cst x g h2
  refine PE.imp (pe_glob (glb_of C h1) hm rv (name_of h3).1) fun σ H Q h => ?_
  obtain ⟨S, io, env, rel, er, post⟩ := h
  exact post.val rel (rp _ _ _)
theorem sBin {x y : Expr} {pos : Pos} {o : Op2} {p q : E} {c : Ctx} (hx : PE X x (LE X T W (ev c p))) (hy : PE X y (LE X T W (ev c q))) : PE X (.BinOp x (toOp o) y pos) (LE X T W (ev c (.bin o p q))) := by
  refine PE.imp (pe_op (binV_ok (T := T) (W := W) o) hx hy) fun σ H Q h => ?_
  obtain ⟨S, io, env, rel, er, post⟩ := h
  simp only [ev] at post
  exact Post.bind2 rmono rel er post fun S io H p q v w rel rp rq post => ⟨S, io, p, q, rel, rp, rq, post⟩
theorem sNeg {x : Expr} {pos : Pos} {p : E} {c : Ctx} (hx : PE X x (LE X T W (ev c p))) : PE X (.UnaryOp .USub x pos) (LE X T W (ev c (.neg p))) := by
  refine PE.imp (pe_un un_neg hx) fun σ H Q h => ?_
  obtain ⟨S, io, env, rel, er, post⟩ := h
  simp only [ev] at post
  refine Post.head rel er post fun S io H p v rel er rp post => ?_
  split at post
  · cases rp
    exact ⟨_, rfl, post.val rel rfl⟩
  · exact post.elim
theorem sIdx {x y : Expr} {pos : Pos} {p q : E} {c : Ctx} (hp : plainE y = true) (hx : PE X x (LE X T W (ev c p))) (hy : PE X y (LE X T W (ev c q))) : PE X (.Subscript x y pos) (LE X T W (ev c (.idx p q))) := by
  refine PE.imp (pe_ix (ix_ok (T := T) (W := W)) hx hy (plain_ix hp)) fun σ H Q h => ?_
  obtain ⟨S, io, env, rel, er, post⟩ := h
  simp only [ev] at post
  exact Post.bind2 rmono rel er post fun S io H p q v w rel rp rq post => ⟨S, io, p, q, rel, rp, rq, post⟩
theorem sSlc {x : Expr} {lo hi : Option Expr} {p2 pos : Pos} {p : E} {l u : Option E} {c : Ctx} (hx : PE X x (LE X T W (ev c p))) (hl : L2.PO X lo (LO X T W (evO c l))) (hu : L2.PO X hi (LO X T W (evO c u))) :
    PE X (.Subscript x (.Slice lo hi none p2) pos) (LE X T W (ev c (.slc p l u))) := by
  refine PE.imp (pe_slice (sl_ok (T := T) (W := W)) hx hl hu) fun σ H Q h => ?_
  obtain ⟨S, io, env, rel, er, post⟩ := h
  simp only [ev] at post
  refine ⟨S, io, env, rel, er, post.bind fun p S1 io1 H1 v e1 l1 rel1 rp post1 => ?_⟩
  refine ⟨S1, io1, env, rel1, er.mono e1 l1, post1.bind fun a S2 io2 H2 w e2 l2 rel2 ea post2 => ?_⟩
  refine ⟨S2, io2, env, rel2, (er.mono e1 l1).mono e2 l2, post2.bind fun b S3 io3 H3 w3 e3 l3 rel3 eb post3 => ?_⟩
  have ea : w = a := ea
  have eb : w3 = b := eb
  subst ea; subst eb
  exact ⟨S3, io3, p, rel3, (rp.mono e2 l2).mono e3 l3, post3⟩
theorem cmp_fin {o : Cop} {S : Sto} {io : Nat → Addr} {H : Hp} {p q : PV} {v w : V} {Q : VK} (rel : Rel X.K T S io H) (rp : Rep X.K S.length io H p v) (rq : Rep X.K S.length io H q w) (post : Post X.K T W (Rep X.K) S io H Q (ofO ((cmpV o p q S).map PV.bl) S)) :
    LRc X.K T W (cmpV o) v w H Q := ⟨S, io, p, q, rel, rp, rq, post⟩
theorem iCmp {o : Cop} {p q : E} {c : Ctx} {σ : L2.St} {H : Hp} {Q : VK} (h : LE X T W (ev c (.cmp o p q)) σ H Q) : tOp (LRc X.K T W (cmpV o)) (LE X T W (ev c p)) (LE X T W (ev c q)) σ H Q := by
  obtain ⟨S, io, env, rel, er, post⟩ := h
  simp only [ev] at post
  exact Post.bind2 rmono rel er post fun S io H p q v w rel rp rq post => cmp_fin rel rp rq post
theorem sCmp {x y : Expr} {pos : Pos} {o : Cop} {p q : E} {c : Ctx} (C : Cok X k T R W N sc) (hp : plainE y = true) (hx : PE X x (LE X T W (ev c p))) (hy : PE X y (LE X T W (ev c q))) : PE X (.Compare x [toCop o] [y] pos) (LE X T W (ev c (.cmp o p q))) :=
  PE.imp (pe_cmpR (cmpV_ok (T := T) (W := W) C.room.units o) hx hy (plain_mark hp)) fun σ H Q h => iCmp h
/-- a test whose value is a bool -/
theorem lt_le {m : E} {c : Ctx} {σ : L2.St} {H : Hp} {Q : Bool → Hp → Prop} (hb : ∀ env S p S', ev c m env S = .ok p S' → ∃ b, p = .bl b) (h : LT X T W (evT c (.e m)) σ H Q) : LE X T W (ev c m) σ H (fun x H' => ∃ k, x = .bl k ∧ Q k H') := by
  obtain ⟨S, io, env, rel, er, post⟩ := h
  refine ⟨S, io, env, rel, er, ?_⟩
  simp only [evT] at post
  cases e1 : ev c m env S with
  | bad => rw [e1] at post; exact post.elim
  | exc x S' => rw [e1] at post; exact post
  | ok p S1 =>
    rw [e1] at post
    obtain ⟨b, rfl⟩ := hb _ _ _ _ e1
    intro io1 H1 v ex1 l1 rel1 rp
    cases rp
    exact ⟨b, rfl, post io1 H1 b ex1 l1 rel1 rfl⟩
theorem bl_cmp {o : Cop} {p q : E} {c : Ctx} : ∀ env S r S', ev c (.cmp o p q) env S = .ok r S' → ∃ b, r = .bl b := by
  intro env S r S' h
  simp only [ev] at h
  cases e1 : ev c p env S with
  | bad => rw [e1] at h; cases h
  | exc x S' => rw [e1] at h; cases h
  | ok p1 S1 =>
    rw [e1, Res.bind_ok] at h
    cases e2 : ev c q env S1 with
    | bad => rw [e2] at h; cases h
    | exc x S' => rw [e2] at h; cases h
    | ok q1 S2 =>
      rw [e2, Res.bind_ok] at h
      cases e3 : cmpV o p1 q1 S2 with
      | none => rw [e3] at h; cases h
      | some b => rw [e3] at h; cases h; exact ⟨b, rfl⟩
theorem tCmp {x y : Expr} {pos : Pos} {o : Cop} {p q : E} {c : Ctx} (C : Cok X k T R W N sc) (hp : plainE y = true) (hx : PE X x (LE X T W (ev c p))) (hy : PE X y (LE X T W (ev c q))) : PT X (.Compare x [toCop o] [y] pos) (LT X T W (evT c (.e (.cmp o p q)))) :=
  PT.imp (pt_cmpR (cmpV_ok (T := T) (W := W) C.room.units o) hx hy (plain_mark hp)) fun σ H Q h => iCmp (lt_le bl_cmp h)
theorem iChain {o o2 : Cop} {p q r : E} {c : Ctx} {σ : L2.St} {H : Hp} {Q : VK} (h : LE X T W (ev c (.chain o o2 p q r)) σ H Q) :
    tChain (LRc X.K T W (cmpV o)) (LRc X.K T W (cmpV o2)) (LE X T W (ev c p)) (LE X T W (ev c q)) (LE X T W (ev c r)) σ H Q := by
  obtain ⟨S, io, env, rel, er, post⟩ := h
  simp only [ev] at post
  refine Post.head rel er post fun S io H p v rel er rp post => ?_
  refine ⟨S, io, env, rel, er, post.bind fun q S2 io2 H2 w e2 l2 rel2 rq post2 => ?_⟩
  have rp2 := rp.mono e2 l2
  have er2 := er.mono e2 l2
  cases e3 : cmpV o p q S2 with
  | none => rw [e3] at post2; exact post2.elim
  | some b =>
    rw [e3] at post2
    simp only [ofO_some, Res.bind_ok] at post2
    refine ⟨S2, io2, p, q, rel2, rp2, rq, ?_⟩
    show Post X.K T W (Rep X.K) S2 io2 H2 _ (ofO ((cmpV o p q S2).map PV.bl) S2)
    rw [e3]
    intro io3 H3 z ex3 l3 rel3 rz
    cases rz
    refine ⟨b, rfl, ?_⟩
    have post3 := Post.start ex3 l3 post2
    cases b with
    | false => exact iteF (post3.val rel3 rfl)
    | true =>
      refine iteT ?_
      simp only [if_true] at post3
      refine ⟨S2, io3, env, rel3, er2.mono ex3 l3, post3.bind fun r S4 io4 H4 u e4 l4 rel4 ru post4 => ?_⟩
      exact cmp_fin rel4 ((rq.mono ex3 l3).mono e4 l4) ru post4
theorem plain_last {op op' : CmpOp} {b c : Expr} (h : plainE c = true) : lastMarks [op, op'] [b, c] = false := by
  show behindInMarks op' c = false
  exact plain_mark h
theorem sChain {x y z : Expr} {pos : Pos} {o o2 : Cop} {p q r : E} {c : Ctx} (C : Cok X k T R W N sc) (hp : plainE z = true) (hx : PE X x (LE X T W (ev c p))) (hy : PE X y (LE X T W (ev c q))) (hz : PE X z (LE X T W (ev c r))) :
    PE X (.Compare x [toCop o, toCop o2] [y, z] pos) (LE X T W (ev c (.chain o o2 p q r))) :=
  PE.imp (pe_chain (cmpV_ok (T := T) (W := W) C.room.units o) (cmpV_ok (T := T) (W := W) C.room.units o2) hx hy hz (plain_last hp)) fun σ H Q h => iChain h
theorem bl_chain {o o2 : Cop} {p q r : E} {c : Ctx} : ∀ env S v S', ev c (.chain o o2 p q r) env S = .ok v S' → ∃ b, v = .bl b := by
  intro env S v S' h
  simp only [ev] at h
  cases e1 : ev c p env S with
  | bad => rw [e1] at h; cases h
  | exc x S' => rw [e1] at h; cases h
  | ok p1 S1 =>
    rw [e1, Res.bind_ok] at h
    cases e2 : ev c q env S1 with
    | bad => rw [e2] at h; cases h
    | exc x S' => rw [e2] at h; cases h
    | ok q1 S2 =>
      rw [e2, Res.bind_ok] at h
      cases e3 : cmpV o p1 q1 S2 with
      | none => rw [e3] at h; cases h
      | some b =>
        rw [e3] at h
        simp only [ofO_some, Res.bind_ok] at h
        cases b with
        | false => cases h; exact ⟨_, rfl⟩
        | true =>
          simp only [if_true] at h
          cases e4 : ev c r env S2 with
          | bad => rw [e4] at h; cases h
          | exc x S' => rw [e4] at h; cases h
          | ok r1 S3 =>
            rw [e4, Res.bind_ok] at h
            cases e5 : cmpV o2 q1 r1 S3 with
            | none => rw [e5] at h; cases h
            | some b => rw [e5] at h; cases h; exact ⟨b, rfl⟩
theorem tChain' {x y z : Expr} {pos : Pos} {o o2 : Cop} {p q r : E} {c : Ctx} (C : Cok X k T R W N sc) (hp : plainE z = true) (hx : PE X x (LE X T W (ev c p))) (hy : PE X y (LE X T W (ev c q))) (hz : PE X z (LE X T W (ev c r))) :
    PT X (.Compare x [toCop o, toCop o2] [y, z] pos) (LT X T W (evT c (.e (.chain o o2 p q r)))) :=
  PT.imp (pt_chain (cmpV_ok (T := T) (W := W) C.room.units o) (cmpV_ok (T := T) (W := W) C.room.units o2) hx hy hz (plain_last hp)) fun σ H Q h => iChain (lt_le bl_chain h)
/-! ### and, or, not -/
theorem iAnd {p q : E} {c : Ctx} {σ : L2.St} {H : Hp} {Q : VK} (h : LE X T W (ev c (.andv p q)) σ H Q) : tAndT X.K (LE X T W (ev c p)) (LE X T W (ev c q)) σ H Q := by
  obtain ⟨S, io, env, rel, er, post⟩ := h
  simp only [ev] at post
  refine Post.head rel er post fun S io H p v rel er rp post => ?_
  cases e : truth S p with
  | none => rw [e] at post; exact post.elim
  | some b =>
    rw [e] at post
    simp only [ofO_some, Res.bind_ok] at post
    refine ⟨b, truth_ok rel rp e, ?_⟩
    cases b with
    | true => exact iteT ⟨S, io, env, rel, er, post⟩
    | false => exact iteF (post.val rel rp)
theorem iOr {p q : E} {c : Ctx} {σ : L2.St} {H : Hp} {Q : VK} (h : LE X T W (ev c (.orv p q)) σ H Q) : tOrT X.K (LE X T W (ev c p)) (LE X T W (ev c q)) σ H Q := by
  obtain ⟨S, io, env, rel, er, post⟩ := h
  simp only [ev] at post
  refine Post.head rel er post fun S io H p v rel er rp post => ?_
  cases e : truth S p with
  | none => rw [e] at post; exact post.elim
  | some b =>
    rw [e] at post
    simp only [ofO_some, Res.bind_ok] at post
    refine ⟨b, truth_ok rel rp e, ?_⟩
    cases b with
    | true => exact iteT (post.val rel rp)
    | false => exact iteF ⟨S, io, env, rel, er, post⟩
theorem sNot {x : Expr} {pos : Pos} {p : E} {c : Ctx} (hx : PE X x (LE X T W (ev c p))) : PE X (.UnaryOp .Not x pos) (LE X T W (ev c (.notv p))) := by
  refine PE.imp (pe_notT hx) fun σ H Q h => ?_
  obtain ⟨S, io, env, rel, er, post⟩ := h
  simp only [ev] at post
  refine Post.head rel er post fun S io H p v rel er rp post => ?_
  cases e : truth S p with
  | none => rw [e] at post; exact post.elim
  | some b =>
    rw [e] at post
    exact ⟨b, truth_ok rel rp e, post.val rel rfl⟩
theorem tTru {x : Expr} {p : E} {c : Ctx} (ht : tstE x = true) (hx : PE X x (LE X T W (ev c p))) : PT X x (LT X T W (evT c (.e p))) := by
  refine PT.imp (pt_truth hx (tst_truth ht)) fun σ H Q h => ?_
  obtain ⟨S, io, env, rel, er, post⟩ := h
  simp only [evT] at post
  refine Post.head rel er post fun S io H p v rel er rp post => ?_
  cases e : truth S p with
  | none => rw [e] at post; exact post.elim
  | some b =>
    rw [e] at post
    exact ⟨b, truth_ok rel rp e, Post.val (R := fun _ _ _ a b => b = a) rel post rfl⟩
theorem iTAnd {p q : TM.T} {c : Ctx} {σ : L2.St} {H : Hp} {Q : Bool → Hp → Prop} (h : LT X T W (evT c (.and p q)) σ H Q) : tAnd (LT X T W (evT c p)) (LT X T W (evT c q)) σ H Q := by
  obtain ⟨S, io, env, rel, er, post⟩ := h
  simp only [evT] at post
  refine Post.head rel er post fun S io H b v rel er rp post => ?_
  have rp : v = b := rp
  subst rp
  cases v with
  | true => exact iteT ⟨S, io, env, rel, er, post⟩
  | false => exact iteF (Post.val (R := fun _ _ _ a b => b = a) rel post rfl)
theorem iTOr {p q : TM.T} {c : Ctx} {σ : L2.St} {H : Hp} {Q : Bool → Hp → Prop} (h : LT X T W (evT c (.or p q)) σ H Q) : tOr (LT X T W (evT c p)) (LT X T W (evT c q)) σ H Q := by
  obtain ⟨S, io, env, rel, er, post⟩ := h
  simp only [evT] at post
  refine Post.head rel er post fun S io H b v rel er rp post => ?_
  have rp : v = b := rp
  subst rp
  cases v with
  | true => exact iteT (Post.val (R := fun _ _ _ a b => b = a) rel post rfl)
  | false => exact iteF ⟨S, io, env, rel, er, post⟩
theorem tNotT' {x : Expr} {pos : Pos} {p : TM.T} {c : Ctx} (hx : PT X x (LT X T W (evT c p))) : PT X (.UnaryOp .Not x pos) (LT X T W (evT c (.not p))) := by
  refine PT.imp (pt_not hx) fun σ H Q h => ?_
  obtain ⟨S, io, env, rel, er, post⟩ := h
  simp only [evT] at post
  refine Post.head rel er post fun S io H b v rel er rp post => ?_
  have rp : v = b := rp
  subst rp
  exact Post.val (R := fun _ _ _ a b => b = a) rel post rfl
theorem sIfe {t x y : Expr} {pos : Pos} {tt : TM.T} {p q : E} {c : Ctx} (ht : PT X t (LT X T W (evT c tt))) (hx : PE X x (LE X T W (ev c p))) (hy : PE X y (LE X T W (ev c q))) : PE X (.IfExp t x y pos) (LE X T W (ev c (.ife tt p q))) := by
  refine PE.imp (pe_ifExp ht hx hy) fun σ H Q h => ?_
  obtain ⟨S, io, env, rel, er, post⟩ := h
  simp only [ev] at post
  refine Post.head rel er post fun S io H b v rel er rp post => ?_
  have rp : v = b := rp
  subst rp
  cases v with
  | true => exact iteT ⟨S, io, env, rel, er, post⟩
  | false => exact iteF ⟨S, io, env, rel, er, post⟩
/-! ### arguments, displays -/
theorem aNil {c : Ctx} : PA X [] (LA X T W (evs c [])) := by
  refine ⟨fun pos pins s σ H Q I h => pa_nil.run pos pins s σ H Q I ?_⟩
  obtain ⟨S, io, env, rel, er, post⟩ := h
  exact Post.val (R := Reps X.K) rel post Reps.nil
theorem aCons {x : Expr} {xs : List Expr} {p : E} {ps : List E} {c : Ctx} (hp : plainE x = true) (hx : PE X x (LE X T W (ev c p))) (hr : PA X xs (LA X T W (evs c ps))) : PA X (x :: xs) (LA X T W (evs c (p :: ps))) := by
  refine ⟨fun pos pins s σ H Q I h => (pa_cons hx hr (star_cons hp)).run pos pins s σ H Q I ?_⟩
  obtain ⟨S, io, env, rel, er, post⟩ := h
  simp only [evs] at post
  refine Post.head rel er post fun S io H p v rel er rp post => ?_
  refine ⟨S, io, env, rel, er, post.bind fun ps S2 io2 H2 vs e2 l2 rel2 rps post2 => ?_⟩
  exact Post.val (R := Reps X.K) rel2 post2 (Reps.cons (rp.mono e2 l2) rps)
theorem sLst {xs : List Expr} {pos : Pos} {ps : List E} {c : Ctx} (hx : PA X xs (LA X T W (evs c ps))) : PE X (.List xs pos) (LE X T W (ev c (.lst ps))) := by
  refine PE.imp (pe_lst hx) fun σ H Q h => ?_
  obtain ⟨S, io, env, rel, er, post⟩ := h
  simp only [ev] at post
  refine Post.head rel er post fun S io H ps vs rel er rps post => ?_
  split at post
  · rename_i hl
    exact ⟨by rw [rps.length, line_eq]; exact hl, Post.lst rel post rps⟩
  · exact post.elim
theorem sTup {xs : List Expr} {j : Nat} {pos : Pos} {ps : List E} {c : Ctx} (hx : PA X xs (LA X T W (evs c ps))) : PE X (.Tuple xs j pos) (LE X T W (ev c (.tup ps))) := by
  refine PE.imp (pe_tup hx) fun σ H Q h => ?_
  obtain ⟨S, io, env, rel, er, post⟩ := h
  simp only [ev] at post
  refine Post.head rel er post fun S io H ps vs rel er rps post => ?_
  split at post
  · rename_i hl
    exact ⟨by rw [rps.length, line_eq]; exact hl, Post.tup rel post rps⟩
  · exact post.elim
theorem sCall {x : Str} {p pos : Pos} {xs : List Expr} {f : Nat} {ps : List E} (C : Cok X k T R W N sc) (P : PG X.prog X.w X.K X.mg X.base T R k cf gl G) (h1 : glbB sc x = true) (h2 : gvB G x (.fn f) = true) (h3 : nameB x = true) (hpl : plainEs xs = true) (h0 : xs = [] → ps = [])
    (hx : PA X xs (LA X T W (evs ⟨cf, gl, gf⟩ ps))) : PE X (.Call (.Name x p) xs [] pos) (LE X T W (ev ⟨cf, gl, gf⟩ (.call f ps))) := by
  obtain ⟨fa, fd, pn, hm, hk, hb, hlen, F⟩ := P.fn x f h2
  have key : ∀ σ H Q, LE X T W (ev ⟨cf, gl, gf⟩ (.call f ps)) σ H Q → tCall (spOf X.K T R pn.length (cf f)) [] (EW X.K T R W) (LA X T W (evs ⟨cf, gl, gf⟩ ps)) σ H Q := by
    intro σ H Q h
    obtain ⟨S, io, env, rel, er, post⟩ := h
    simp only [ev] at post
    refine Post.head rel er post fun S io H ps vs rel er rps post => ?_
    rw [List.append_nil]
    refine ⟨?_, S, io, ps, rel, rps, post.wish fun x S io H rel w cls d hr => ⟨x, S, io, rel, hr, w⟩⟩
    rw [rps.length]
    exact hlen ps S fun z => by rw [show cf f ps S = .bad from z] at post; exact post.elim
  cases xs with
  | nil =>
    refine ⟨fun pins s σ H Q I h => (pe_call0 F C.room (glb_of C h1) hm hk hb .nil C.pass (name_of h3).1).run pins s σ H Q I ?_⟩
    have q := key σ H Q h
    obtain ⟨S, io, env, rel, er, post⟩ := h
    simp only [ev] at post
    have e := h0 rfl
    subst e
    simp only [evs, Res.bind_ok] at post
    refine ⟨?_, S, io, [], rel, Reps.nil, post.wish fun x S io H rel w cls d hr => ⟨x, S, io, rel, hr, w⟩⟩
    have := hlen [] S fun z => by rw [show cf f [] S = .bad from z] at post; exact post.elim
    exact this
  | cons e es =>
    simp only [plainEs, List.all_cons, Bool.and_eq_true] at hpl
    exact PE.imp (pe_call F C.room (glb_of C h1) hm hk hb .nil C.pass hx (name_of h3).1 (star_cons hpl.1) (star_any hpl.2)) key
theorem sBi {x : Str} {p pos : Pos} {y : Expr} {ys : List Expr} {b : BI} {ps : List E} {c : Ctx} (C : Cok X k T R W N sc) (P : PG X.prog X.w X.K X.mg X.base T R k cf gl G) (h1 : glbB sc x = true) (h2 : gvB G x .blt = true) (h3 : x = biS b) (hpl : plainEs (y :: ys) = true)
    (hx : PA X (y :: ys) (LA X T W (evs c ps))) : PE X (.Call (.Name x p) (y :: ys) [] pos) (LE X T W (ev c (.bi b ps))) := by
  subst h3
  refine PE.imp (pe_bi (biV_ok (T := T) (W := W) C.room.units C.calm b) (glb_of C h1) (P.blt _ h2) (bi_boot b) (bi_kind b) hx (bi_name b).1 (bi_name b).2 hpl) fun σ H Q h => ?_
  obtain ⟨S, io, env, rel, er, post⟩ := h
  simp only [ev] at post
  exact Post.head rel er post fun S io H ps vs rel er rps post => ⟨S, io, ps, rel, rps, post⟩
theorem ty_boot (t : Ty) : bootBuiltins (tyS t) = some (.type (tyN t)) ∧ tyS t ≠ ("__name__" : Str) ∧ (tyS t == ("__debug__" : Str)) = false := by
  cases t <;> exact ⟨by first | exact boot_int | exact boot_bool | exact boot_str | exact boot_tuple | exact boot_list, by decide +kernel, by decide +kernel⟩
theorem isTy_pe {z : Expr} {t : Ty} (C : Cok X k T R W N sc) (P : PG X.prog X.w X.K X.mg X.base T R k cf gl G) (h : isTyB sc G z t = true) : PE X z (tC (.ty (tyN t))) ∧ plainE z = true := by
  unfold isTyB at h
  split at h
  · simp only [Bool.and_eq_true, decide_eq_true_eq] at h
    obtain ⟨⟨rfl, h2⟩, h3⟩ := h
    obtain ⟨b1, b2, b3⟩ := ty_boot t
    exact ⟨pe_bltn (glb_of C h2) (P.blt _ h3) b1 rfl b2 b3, rfl⟩
  · cases h
theorem isTys_pa (C : Cok X k T R W N sc) (P : PG X.prog X.w X.K X.mg X.base T R k cf gl G) : ∀ {zs : List Expr} {ts : List Ty}, isTysB sc G zs ts = true → PA X zs (fun σ H Q => Q (ts.map fun t => V.ty (tyN t)) H) ∧ zs.length = ts.length
  | [], [], _ => ⟨⟨fun pos pins s σ H Q I h => pa_nil.run pos pins s σ H Q I h⟩, rfl⟩
  | z :: zs, t :: ts, h => by
    simp only [isTysB, Bool.and_eq_true] at h
    obtain ⟨h1, h2⟩ := isTy_pe C P h.1
    obtain ⟨h3, h4⟩ := isTys_pa C P h.2
    exact ⟨⟨fun pos pins s σ H Q I h => (pa_cons h1 h3 (star_cons h2)).run pos pins s σ H Q I h⟩, by simp [h4]⟩
  | [], _ :: _, h => by cases h
  | _ :: _, [], h => by cases h
theorem clsV_all : ∀ ts : List Ty, Paired ClsV (ts.map fun t => V.ty (tyN t)) (ts.map fun t => Value.type (tyN t))
  | [] => .nil
  | t :: ts => .cons (.ty _) (clsV_all ts)
/-- one type for all the classes asked -/
theorem typ_all {K : PySem.W.Frag} {S : Sto} {io : Nat → Addr} {H : Hp} {p : PV} {v : V} (rel : Rel K T S io H) (hp : Rep K S.length io H p v) (h0 : ∃ t b, isiV S p t = some b) :
    ∃ u, TyX K H v (.type u) ∧ ∀ (K' : PySem.W.Frag) t b, isiV S p t = some b → PySem.W.kitOne K' (.type u) (.type (tyN t)) = some b := by
  obtain ⟨t0, b0, h0⟩ := h0
  unfold isiV at h0
  cases p with
  | non => cases hp; exact ⟨_, .base .non, fun K' t b e => by cases e; cases t <;> rfl⟩
  | bl c => cases hp; exact ⟨_, .base (.bl c), fun K' t b e => by cases e; cases t <;> rfl⟩
  | int i => cases hp; exact ⟨_, .base (.int i), fun K' t b e => by cases e; cases t <;> rfl⟩
  | str cs => cases hp; exact ⟨_, .base (.str _), fun K' t b e => by cases e; cases t <;> rfl⟩
  | tup ps =>
    obtain ⟨a, vs, rfl, h1, h2⟩ := hp
    rcases h1 with (h1 | ⟨o, h1⟩) | ⟨o, its, n, h1, h3, _⟩
    · exact ⟨_, .base (.tup h1), fun K' t b e => by cases e; cases t <;> rfl⟩
    · exact ⟨_, .fTuple h1, fun K' t b e => by cases e; cases t <;> rfl⟩
    · exact ⟨_, .kTuple h1 h3, fun K' t b e => by cases e; cases t <;> rfl⟩
  | obj i =>
    obtain ⟨_, rfl⟩ := hp
    simp only at h0
    split at h0
    · rename_i xs e1
      obtain ⟨vs, h1, h2⟩ := rel.lst e1
      refine ⟨_, .base (.lst h1), fun K' t b e => ?_⟩
      simp only [isiV, e1] at e
      cases e
      cases t <;> rfl
    · cases h0
theorem isiL_any {K' : PySem.W.Frag} {S : Sto} {p : PV} {u : String} (h : ∀ t b, isiV S p t = some b → PySem.W.kitOne K' (.type u) (.type (tyN t)) = some b) : ∀ {ts : List Ty} {b : Bool}, isiL S p ts = some b → PySem.W.kitAny K' (.type u) (ts.map fun t => Value.type (tyN t)) = some b
  | [], _, e => by cases e; rfl
  | t :: ts, b, e => by
    unfold isiL at e
    split at e
    · rename_i a b' e1 e2
      cases e
      show (match PySem.W.kitOne K' (.type u) (.type (tyN t)) with | some true => some true | some false => PySem.W.kitAny K' (.type u) (ts.map fun t => Value.type (tyN t)) | none => none) = _
      rw [h t a e1]
      cases a with
      | true => rfl
      | false => simpa using isiL_any h e2
    · cases e
theorem isiL_some {S : Sto} {p : PV} : ∀ {ts : List Ty} {b : Bool}, isiL S p ts = some b → ts ≠ [] → ∃ t b, isiV S p t = some b
  | [], _, _, h => absurd rfl h
  | t :: ts, b, e, _ => by
    unfold isiL at e
    split at e
    · rename_i a b' e1 e2
      exact ⟨t, a, e1⟩
    · cases e
theorem sIsi1 {x : Str} {p pos : Pos} {y z : Expr} {t : Ty} {q : E} {c : Ctx} (C : Cok X k T R W N sc) (P : PG X.prog X.w X.K X.mg X.base T R k cf gl G) (h1 : glbB sc x = true) (h2 : gvB G x .blt = true) (h3 : x = "isinstance") (hpl : plainE y = true) (hz : isTyB sc G z t = true)
    (hy : PE X y (LE X T W (ev c q))) : PE X (.Call (.Name x p) [y, z] [] pos) (LE X T W (ev c (.isi q [t]))) := by
  subst h3
  obtain ⟨z1, z2⟩ := isTy_pe C P hz
  refine PE.imp (pe_bi (f := .builtin "isinstance") call_isi (glb_of C h1) (P.blt _ h2) PyProof.Rows.boot_isinstance (.inl ⟨_, rfl⟩) (pa_cons hy (pa_cons z1 pa_nil (star_cons z2)) (star_cons hpl)) (by decide +kernel) (by decide +kernel) (by simp [plainEs, hpl, z2])) fun σ H Q h => ?_
  obtain ⟨S, io, env, rel, er, post⟩ := h
  simp only [ev] at post
  refine Post.head rel er post fun S io H p v rel er rp post => ?_
  cases e : isiL S p [t] with
  | none => rw [e] at post; exact post.elim
  | some b =>
    rw [e] at post
    obtain ⟨u, hu, hk⟩ := typ_all rel rp (isiL_some e (by simp))
    have e' : isiV S p t = some b := by
      unfold isiL at e
      split at e
      · rename_i a b' e1 e2
        cases e
        cases e2
        rw [e1, Bool.or_false]
      · cases e
    exact ⟨v, .ty (tyN t), .type u, .type (tyN t), b, rfl, .ty _, hu, hk X.K t b e', post.val rel rfl⟩
theorem sIsiT {x : Str} {p pos tp : Pos} {y : Expr} {zs : List Expr} {j : Nat} {ts : List Ty} {q : E} {c : Ctx} (C : Cok X k T R W N sc) (P : PG X.prog X.w X.K X.mg X.base T R k cf gl G) (h1 : glbB sc x = true) (h2 : gvB G x .blt = true) (h3 : x = "isinstance") (hpl : plainE y = true) (hz : isTysB sc G zs ts = true) (hzl : zs.length ≤ 100) (hts : ts ≠ [])
    (hy : PE X y (LE X T W (ev c q))) : PE X (.Call (.Name x p) [y, .Tuple zs j tp] [] pos) (LE X T W (ev c (.isi q ts))) := by
  subst h3
  obtain ⟨z1, z2⟩ := isTys_pa C P hz
  refine PE.imp (pe_bi (f := .builtin "isinstance") call_isiT (glb_of C h1) (P.blt _ h2) PyProof.Rows.boot_isinstance (.inl ⟨_, rfl⟩) (pa_cons hy (pa_cons (pe_tup z1) pa_nil (star_cons rfl)) (star_cons hpl)) (by decide +kernel) (by decide +kernel) (by simp only [plainEs, List.all_cons, hpl, List.all_nil]; rfl)) fun σ H Q h => ?_
  obtain ⟨S, io, env, rel, er, post⟩ := h
  simp only [ev] at post
  refine Post.head rel er post fun S io H p v rel er rp post => ?_
  refine ⟨by rw [List.length_map, ← z2, line_eq]; unfold LINE; omega, fun a na => ?_⟩
  cases e : isiL S p ts with
  | none => rw [e] at post; exact post.elim
  | some b =>
    rw [e] at post
    obtain ⟨rel', ex⟩ := rel.fresh (o := .tup (ts.map fun t => V.ty (tyN t))) na
    have rp' := rp.mono ex (Nat.le_refl _)
    have fin : Q (.bl b) (upd H a (.tup (ts.map fun t => V.ty (tyN t)))) := post io _ _ ex (Nat.le_refl _) rel' rfl
    obtain ⟨u, hu, hk⟩ := typ_all rel' rp' (isiL_some e hts)
    exact ⟨v, a, _, .type u, _, b, rfl, upd_same, clsV_all ts, hu, isiL_any (hk X.K) e, fin⟩
theorem sMe {x : Expr} {name : Str} {apos cpos : Pos} {xs : List Expr} {m : ME} {o : E} {ps : List E} {c : Ctx} (h1 : apos.endLine = cpos.line) (h2 : nsup x = true) (h3 : name = meS m) (h4 : xs.length < 20) (hpl : plainEs xs = true) (h0 : xs = [] → ps = [])
    (hx : PE X x (LE X T W (ev c o))) (ha : PA X xs (LA X T W (evs c ps))) : PE X (.Call (.Attribute x name apos) xs [] cpos) (LE X T W (ev c (.me m o ps))) := by
  subst h3
  cases xs with
  | nil =>
    have e := h0 rfl
    subst e
    refine PE.imp (pe_me0 hx h2 h1) fun σ H Q h => ?_
    obtain ⟨S, io, env, rel, er, post⟩ := h
    simp only [ev] at post
    refine Post.head rel er post fun S io H p v rel er rp post => ?_
    cases e1 : mty S p with
    | none => rw [e1] at post; exact post.elim
    | some t =>
      simp only [e1] at post
      cases e2 : meOk m t with
      | false => rw [e2] at post; exact post.elim
      | true =>
        rw [e2] at post
        simp only [if_true, evs, Res.bind_ok] at post
        obtain ⟨T', id, f1, f2, f3, f4, f5⟩ := me_ok (X := X) (T := T) (W := W) e2
        exact ⟨T', id, _, f1, f2, f3, f4, f5 S io H p v rel rp e1, S, io, p, [], rel, rp, Reps.nil, post⟩
  | cons y ys =>
    refine PE.imp (pe_me hx ha h2 hpl h4 h1) fun σ H Q h => ?_
    obtain ⟨S, io, env, rel, er, post⟩ := h
    simp only [ev] at post
    refine Post.head rel er post fun S io H p v rel er rp post => ?_
    cases e1 : mty S p with
    | none => rw [e1] at post; exact post.elim
    | some t =>
      simp only [e1] at post
      cases e2 : meOk m t with
      | false => rw [e2] at post; exact post.elim
      | true =>
        rw [e2] at post
        simp only [if_true] at post
        obtain ⟨T', id, f1, f2, f3, f4, f5⟩ := me_ok (X := X) (T := T) (W := W) e2
        refine ⟨T', id, _, f1, f2, f3, f4, f5 S io H p v rel rp e1, S, io, env, rel, er, post.bind fun ps S2 io2 H2 vs ex2 l2 rel2 rps post2 => ?_⟩
        exact ⟨S2, io2, p, ps, rel2, rp.mono ex2 l2, rps, post2⟩
theorem ckEs_nil {ps : List E} {xs : List Expr} (h : ckEs gk N sc G ps xs = true) (e : xs = []) : ps = [] := by
  subst e
  cases ps with
  | nil => rfl
  | cons _ _ => simp [ckEs] at h
mutual
theorem sE (C : Cok X k T R W N sc) (P : PG X.prog X.w X.K X.mg X.base T R k cf gl G) (Hg : ∀ g a, gk g a = true → PE X a (LE X T W (gf g))) : ∀ (e : E) (a : Expr), ckE gk N sc G e a = true → PE X a (LE X T W (ev ⟨cf, gl, gf⟩ e))
  | .never, a, _ => PE.imp sNever fun σ H Q h => h
  | .var i, a, h => by
    simp only [ckE] at h
    split at h
    · simp only [Bool.and_eq_true] at h
      exact sVar C h.1.1 h.1.2 h.2
    · cases h
  | .cst p, a, h => by
    simp only [ckE] at h
    split at h
    · exact sCst h
    · cases h
  | .glob g, a, h => by
    simp only [ckE] at h
    split at h
    · simp only [Bool.and_eq_true] at h
      exact sGlob C P h.1.1 h.1.2 h.2
    · cases h
  | .bin o p q, a, h => by
    simp only [ckE] at h
    split at h
    · simp only [Bool.and_eq_true] at h
      rw [op_of h.1.1]
      exact sBin (sE C P Hg p _ h.1.2) (sE C P Hg q _ h.2)
    · cases h
  | .neg p, a, h => by
    simp only [ckE] at h
    split at h
    · exact sNeg (sE C P Hg p _ h)
    · cases h
  | .idx p q, a, h => by
    simp only [ckE] at h
    split at h
    · simp only [Bool.and_eq_true] at h
      exact sIdx h.1.1 (sE C P Hg p _ h.1.2) (sE C P Hg q _ h.2)
    · cases h
  | .slc p l u, a, h => by
    simp only [ckE] at h
    split at h
    · simp only [Bool.and_eq_true] at h
      exact sSlc (sE C P Hg p _ h.1.1) (sO C P Hg l _ h.1.2) (sO C P Hg u _ h.2)
    · cases h
  | .cmp o p q, a, h => by
    simp only [ckE] at h
    split at h
    · simp only [Bool.and_eq_true, decide_eq_true_eq] at h
      rw [h.1.1.1]
      exact sCmp C h.1.1.2 (sE C P Hg p _ h.1.2) (sE C P Hg q _ h.2)
    · cases h
  | .chain o o2 p q r, a, h => by
    simp only [ckE] at h
    split at h
    · simp only [Bool.and_eq_true, decide_eq_true_eq] at h
      rw [h.1.1.1.1.1, h.1.1.1.1.2]
      exact sChain C h.1.1.1.2 (sE C P Hg p _ h.1.1.2) (sE C P Hg q _ h.1.2) (sE C P Hg r _ h.2)
    · cases h
  | .andv p q, a, h => by
    simp only [ckE] at h
    split at h
    · simp only [Bool.and_eq_true] at h
      exact PE.imp (pe_andT (sE C P Hg p _ h.1) (pe_one (sE C P Hg q _ h.2))) fun σ H Q h => iAnd h
    · simp only [Bool.and_eq_true] at h
      exact PE.imp (pe_andT (sE C P Hg p _ h.1) (sE C P Hg q _ h.2)) fun σ H Q h => iAnd h
    · cases h
  | .orv p q, a, h => by
    simp only [ckE] at h
    split at h
    · simp only [Bool.and_eq_true] at h
      exact PE.imp (pe_orT (sE C P Hg p _ h.1) (pe_one (sE C P Hg q _ h.2))) fun σ H Q h => iOr h
    · simp only [Bool.and_eq_true] at h
      exact PE.imp (pe_orT (sE C P Hg p _ h.1) (sE C P Hg q _ h.2)) fun σ H Q h => iOr h
    · cases h
  | .notv p, a, h => by
    simp only [ckE] at h
    split at h
    · exact sNot (sE C P Hg p _ h)
    · cases h
  | .ife t p q, a, h => by
    simp only [ckE] at h
    split at h
    · simp only [Bool.and_eq_true] at h
      exact sIfe (sT C P Hg t _ h.1.1) (sE C P Hg p _ h.1.2) (sE C P Hg q _ h.2)
    · cases h
  | .call f ps, a, h => by
    simp only [ckE] at h
    split at h
    · simp only [Bool.and_eq_true] at h
      exact sCall C P h.1.1.1 h.1.1.2 h.1.2 (ckEs_plain h.2) (ckEs_nil h.2) (sA C P Hg ps _ h.2)
    · cases h
  | .bi b ps, a, h => by
    simp only [ckE] at h
    split at h
    · simp only [Bool.and_eq_true, decide_eq_true_eq] at h
      exact sBi C P h.1.1.1 h.1.1.2 h.1.2 (ckEs_plain h.2) (sA C P Hg ps _ h.2)
    · cases h
  | .isi p ts, a, h => by
    simp only [ckE] at h
    split at h
    · simp only [Bool.and_eq_true, decide_eq_true_eq] at h
      obtain ⟨⟨⟨⟨⟨h1, h2⟩, h3⟩, h4⟩, h5⟩, h6⟩ := h
      split at h6
      · simp only [Bool.and_eq_true, decide_eq_true_eq, Bool.not_eq_true', List.isEmpty_eq_false_iff] at h6
        exact sIsiT C P h1 h2 h3 h4 h6.1.1 h6.1.2 h6.2 (sE C P Hg p _ h5)
      · split at h6
        · exact sIsi1 C P h1 h2 h3 h4 h6 (sE C P Hg p _ h5)
        · cases h6
    · cases h
  | .me m o ps, a, h => by
    simp only [ckE] at h
    split at h
    · simp only [Bool.and_eq_true, decide_eq_true_eq] at h
      obtain ⟨⟨⟨⟨⟨h1, h2⟩, h3⟩, h4⟩, h5⟩, h6⟩ := h
      exact sMe h1 h2 h3 h4 (ckEs_plain h6) (ckEs_nil h6) (sE C P Hg o _ h5) (sA C P Hg ps _ h6)
    · cases h
  | .lst ps, a, h => by
    simp only [ckE] at h
    split at h
    · exact sLst (sA C P Hg ps _ h)
    · cases h
  | .tup ps, a, h => by
    simp only [ckE] at h
    split at h
    · exact sTup (sA C P Hg ps _ h)
    · cases h
  | .gcall g, a, h => by
    simp only [ckE, Bool.and_eq_true] at h
    exact PE.imp (Hg g a h.1) fun σ H Q h => h
  | .fld o x ds, a, h => by
    simp only [ckE] at h
    split at h
    · simp only [Bool.and_eq_true, decide_eq_true_eq] at h
      obtain ⟨⟨⟨h1, h2⟩, h3⟩, h4⟩ := h
      subst h1
      exact sFld C P h2 h3 (sE C P Hg o _ h4)
    · cases h
  | .mcall o x ds ps, a, h => by
    simp only [ckE] at h
    split at h
    · simp only [Bool.and_eq_true, decide_eq_true_eq] at h
      obtain ⟨⟨⟨⟨⟨⟨h1, h2⟩, h3⟩, h4⟩, h5⟩, h6⟩, h7⟩ := h
      subst h1
      exact sMcall C P h3 h5 (ckEs_plain h7) h4 h2 (ckEs_nil h7) (sE C P Hg o _ h6) (sA C P Hg ps _ h7)
    · cases h
  | .make c f ps, a, h => by
    simp only [ckE] at h
    split at h
    · simp only [Bool.and_eq_true] at h
      obtain ⟨⟨⟨⟨h1, h2⟩, h3⟩, h4⟩, h5⟩ := h
      exact sMake C P h1 h2 h3 h4 (ckEs_plain h5) (ckEs_nil h5) (sA C P Hg ps _ h5)
    · cases h
  | .isc p c, a, h => by
    simp only [ckE] at h
    split at h
    · simp only [Bool.and_eq_true, decide_eq_true_eq] at h
      obtain ⟨⟨⟨⟨⟨⟨⟨⟨h1, h2⟩, h3⟩, h4⟩, h5⟩, h6⟩, h7⟩, h8⟩, h9⟩ := h
      exact sIsc C P h1 h2 h3 h4 (sE C P Hg p _ h5) h6 h7 h8 h9
    · cases h
  | .sset p, a, h => by
    simp only [ckE] at h
    split at h
    · simp only [Bool.and_eq_true, decide_eq_true_eq] at h
      obtain ⟨⟨⟨⟨⟨⟨⟨h1, h2⟩, h3⟩, h4⟩, h5⟩, h6⟩, h7⟩, h8⟩ := h
      exact sSset C P h1 h2 h3 h4 h5 h6 h7 (sE C P Hg p _ h8)
    · cases h
  | .lset p, a, h => by
    simp only [ckE] at h
    split at h
    · simp only [Bool.and_eq_true, decide_eq_true_eq] at h
      obtain ⟨⟨⟨⟨⟨⟨⟨h1, h2⟩, h3⟩, h4⟩, h5⟩, h6⟩, h7⟩, h8⟩ := h
      exact sLset C P h1 h2 h3 h4 h5 h6 h7 (sE C P Hg p _ h8)
    · cases h
  | .dnew, a, h => by
    simp only [ckE] at h
    split at h
    · exact sDnew
    · cases h
  | .dget d q p, a, h => by
    simp only [ckE] at h
    split at h
    · simp only [Bool.and_eq_true, decide_eq_true_eq] at h
      obtain ⟨⟨⟨⟨⟨⟨⟨h1, h2⟩, h3⟩, h4⟩, h5⟩, h6⟩, h7⟩, h8⟩ := h
      subst h1
      exact sDget C h3 h4 h5 h2 (sE C P Hg d _ h6) (sE C P Hg q _ h7) (sE C P Hg p _ h8)
    · cases h
  | .didx d q, a, h => by
    simp only [ckE] at h
    split at h
    · simp only [Bool.and_eq_true] at h
      exact sDidx C h.1.1 (sE C P Hg d _ h.1.2) (sE C P Hg q _ h.2)
    · cases h
  | .din neg q d, a, h => by
    simp only [ckE] at h
    split at h
    · simp only [Bool.and_eq_true, decide_eq_true_eq] at h
      obtain ⟨⟨⟨h1, h2⟩, h3⟩, h4⟩ := h
      subst h1
      exact sDin C h2 (sE C P Hg q _ h3) (sE C P Hg d _ h4)
    · cases h
  | .leni p ds, a, h => by
    simp only [ckE] at h
    split at h
    · simp only [Bool.and_eq_true, decide_eq_true_eq] at h
      obtain ⟨⟨⟨⟨⟨h1, h2⟩, h3⟩, h4⟩, h5⟩, h6⟩ := h
      exact sLeni C P h1 h2 h3 h4 h5 (sE C P Hg p _ h6)
    · cases h
  | .oeq p q ds, a, h => by
    simp only [ckE] at h
    split at h
    · simp only [Bool.and_eq_true, decide_eq_true_eq] at h
      obtain ⟨⟨⟨⟨h1, h2⟩, h3⟩, h4⟩, h5⟩ := h
      subst h1
      exact sOeq C P h3 h2 (sE C P Hg p _ h4) (sE C P Hg q _ h5)
    · cases h
theorem sA (C : Cok X k T R W N sc) (P : PG X.prog X.w X.K X.mg X.base T R k cf gl G) (Hg : ∀ g a, gk g a = true → PE X a (LE X T W (gf g))) : ∀ (ps : List E) (xs : List Expr), ckEs gk N sc G ps xs = true → PA X xs (LA X T W (evs ⟨cf, gl, gf⟩ ps))
  | [], [], _ => aNil
  | [], _ :: _, h => by simp [ckEs] at h
  | _ :: _, [], h => by simp [ckEs] at h
  | p :: ps, x :: xs, h => by
    simp only [ckEs, Bool.and_eq_true] at h
    exact aCons h.1.1 (sE C P Hg p _ h.1.2) (sA C P Hg ps _ h.2)
theorem sO (C : Cok X k T R W N sc) (P : PG X.prog X.w X.K X.mg X.base T R k cf gl G) (Hg : ∀ g a, gk g a = true → PE X a (LE X T W (gf g))) : ∀ (p : Option E) (x : Option Expr), ckO gk N sc G p x = true → L2.PO X x (LO X T W (evO ⟨cf, gl, gf⟩ p))
  | none, none, _ => ⟨fun pins s σ H Q I h => po_none.run pins s σ H Q I (by
      obtain ⟨S, io, env, rel, er, post⟩ := h
      exact Post.val (R := fun _ _ _ a b => b = a) rel post rfl)⟩
  | none, some _, h => by simp [ckO] at h
  | some _, none, h => by simp [ckO] at h
  | some p, some x, h => by
    simp only [ckO] at h
    refine ⟨fun pins s σ H Q I hh => (po_some (sE C P Hg p x h)).run pins s σ H Q I ?_⟩
    obtain ⟨S, io, env, rel, er, post⟩ := hh
    simp only [evO] at post
    refine Post.head rel er post fun S io H p v rel er rp post => ?_
    split at post
    · cases rp
      exact ⟨_, rfl, Post.val (R := fun _ _ _ a b => b = a) rel post rfl⟩
    · exact post.elim
theorem sT (C : Cok X k T R W N sc) (P : PG X.prog X.w X.K X.mg X.base T R k cf gl G) (Hg : ∀ g a, gk g a = true → PE X a (LE X T W (gf g))) : ∀ (t : TM.T) (a : Expr), ckT gk N sc G t a = true → PT X a (LT X T W (evT ⟨cf, gl, gf⟩ t))
  | .e e, a, h => by
    simp only [ckT, Bool.or_eq_true, Bool.and_eq_true] at h
    rcases h with h | h
    · exact tTru h.1 (sE C P Hg e a h.2)
    · split at h
      · rename_i o p q
        simp only [ckE] at h
        split at h
        · simp only [Bool.and_eq_true, decide_eq_true_eq] at h
          rw [h.1.1.1]
          exact tCmp C h.1.1.2 (sE C P Hg p _ h.1.2) (sE C P Hg q _ h.2)
        · cases h
      · rename_i o o2 p q r
        simp only [ckE] at h
        split at h
        · simp only [Bool.and_eq_true, decide_eq_true_eq] at h
          rw [h.1.1.1.1.1, h.1.1.1.1.2]
          exact tChain' C h.1.1.1.2 (sE C P Hg p _ h.1.1.2) (sE C P Hg q _ h.1.2) (sE C P Hg r _ h.2)
        · cases h
      · cases h
  | .and p q, a, h => by
    simp only [ckT] at h
    split at h
    · simp only [Bool.and_eq_true] at h
      exact PT.imp (PW.pt (pw_and (sT C P Hg p _ h.1) (pw_and1 (sT C P Hg q _ h.2)))) fun σ H Q h => iTAnd h
    · simp only [Bool.and_eq_true] at h
      exact PT.imp (PW.pt (pw_and (sT C P Hg p _ h.1) (sW C P Hg q _ _ _ h.2))) fun σ H Q h => iTAnd h
    · cases h
  | .or p q, a, h => by
    simp only [ckT] at h
    split at h
    · simp only [Bool.and_eq_true] at h
      exact PT.imp (PW.pt (pw_or (sT C P Hg p _ h.1) (pw_or1 (sT C P Hg q _ h.2)))) fun σ H Q h => iTOr h
    · simp only [Bool.and_eq_true] at h
      exact PT.imp (PW.pt (pw_or (sT C P Hg p _ h.1) (sW C P Hg q _ _ _ h.2))) fun σ H Q h => iTOr h
    · cases h
  | .not t, a, h => by
    simp only [ckT] at h
    split at h
    · exact tNotT' (sT C P Hg t _ h)
    · cases h
theorem sW (C : Cok X k T R W N sc) (P : PG X.prog X.w X.K X.mg X.base T R k cf gl G) (Hg : ∀ g a, gk g a = true → PE X a (LE X T W (gf g))) : ∀ (t : TM.T) (op : PySem.BoolOp) (vs : List Expr) (pos : Pos), ckT gk N sc G t (.BoolOp op vs pos) = true → PW X (.BoolOp op vs pos) (LT X T W (evT ⟨cf, gl, gf⟩ t))
  | .e e, op, vs, pos, h => by
    simp only [ckT, tstE, Bool.false_and, Bool.false_or] at h
    split at h
    · simp [ckE] at h
    · simp [ckE] at h
    · cases h
  | .and p q, op, vs, pos, h => by
    simp only [ckT] at h
    split at h
    · rename_i e
      cases e
      simp only [Bool.and_eq_true] at h
      exact PW.imp (pw_and (sT C P Hg p _ h.1) (pw_and1 (sT C P Hg q _ h.2))) fun σ H Q h => iTAnd h
    · rename_i e
      cases e
      simp only [Bool.and_eq_true] at h
      exact PW.imp (pw_and (sT C P Hg p _ h.1) (sW C P Hg q _ _ _ h.2)) fun σ H Q h => iTAnd h
    · cases h
  | .or p q, op, vs, pos, h => by
    simp only [ckT] at h
    split at h
    · rename_i e
      cases e
      simp only [Bool.and_eq_true] at h
      exact PW.imp (pw_or (sT C P Hg p _ h.1) (pw_or1 (sT C P Hg q _ h.2))) fun σ H Q h => iTOr h
    · rename_i e
      cases e
      simp only [Bool.and_eq_true] at h
      exact PW.imp (pw_or (sT C P Hg p _ h.1) (sW C P Hg q _ _ _ h.2)) fun σ H Q h => iTOr h
    · cases h
  | .not t, op, vs, pos, h => by simp [ckT] at h
end
end
end TM

/-! TM, part I: statements. -/
namespace TM
open PySem PySem.Spec PyProof.Rows L2
mutual
def ckP (N : List Str) (sc : Scope) : Pat → Expr → Bool
  | .nm i, a => match a with
    | .Name x _ => slotB N x i && locB sc x
    | _ => false
  | .tup ps, a => match a with
    | .Tuple es _ _ => ckPs N sc ps es
    | _ => false
def ckPs (N : List Str) (sc : Scope) : List Pat → List Expr → Bool
  | [], es => match es with
    | [] => true
    | _ => false
  | p :: ps, es => match es with
    | e :: es => ckP N sc p e && ckPs N sc ps es
    | [] => false
end
def notTup : Expr → Bool
  | .Tuple .. => false
  | .List .. => false
  | _ => true
def ckI (gk : Nat → Expr → Bool) (N : List Str) (sc : Scope) (G : GT) : It → Expr → Bool
  | .e e, a => ckE gk N sc G e a && plainE a
  | .rng1 e, a => match a with
    | .Call (.Name x _) [y] [] _ => glbB sc x && gvB G x .blt && decide (x = "range") && plainE y && ckE gk N sc G e y
    | _ => false
  | .rng2 e f, a => match a with
    | .Call (.Name x _) [y, z] [] _ => glbB sc x && gvB G x .blt && decide (x = "range") && plainE y && plainE z && ckE gk N sc G e y && ckE gk N sc G f z
    | _ => false
  | .enum e, a => match a with
    | .Call (.Name x _) [y] [] _ => glbB sc x && gvB G x .blt && decide (x = "enumerate") && plainE y && ckE gk N sc G e y
    | _ => false
  | .zip e f, a => match a with
    | .Call (.Name x _) [y, z] [] _ => glbB sc x && gvB G x .blt && decide (x = "zip") && plainE y && plainE z && ckE gk N sc G e y && ckE gk N sc G f z
    | _ => false
/-- a target of several names (where the items are new tuples) -/
def tgB : It → Expr → Bool
  | .enum _, a => match a with
    | .Tuple .. => true
    | _ => false
  | .zip _ _, a => match a with
    | .Tuple .. => true
    | _ => false
  | _, _ => true
/-- a, b = x, y with plain local names -/
def parB (gk : Nat → Expr → Bool) (N : List Str) (sc : Scope) (G : GT) (p : Pat) (e : E) (t v : Expr) : Bool := match p, e with
  | .tup [.nm i, .nm j], .tup [e1, e2] => match t with
    | .Tuple [.Name x px, .Name y py] _ _ => match v with
      | .Tuple [v1, v2] _ _ => decide (i ≠ j) && slotB N x i && slotB N y j && decide (sc.names.lookup x = some .local) && decide (sc.names.lookup y = some .local) && decide (sc.kind = .function) && decide (py.line = px.line) && decide (x ≠ y) &&
        plainE v1 && plainE v2 && !([v1, v2].all (foldedForSure 8)) && !([v1, v2].all (constantsAlone 8)) && ckE gk N sc G e1 v1 && ckE gk N sc G e2 v2
      | _ => false
    | _ => false
  | _, _ => false
mutual
def ckS (gk : Nat → Expr → Bool) (ga : Nat → Nat → Stmt → Bool) (N : List Str) (sc : Scope) (G : GT) : TM.S → Stmt → Bool
  | .never, _ => true
  | .pass, a => match a with
    | .Pass _ => true
    | _ => false
  | .brk, a => match a with
    | .Break _ => true
    | _ => false
  | .cnt, a => match a with
    | .Continue _ => true
    | _ => false
  | .set p e, a => match a with
    | .Assign [t] v _ => (noComp v && (notTup t || notTup v) && ckP N sc p t && ckE gk N sc G e v) || parB gk N sc G p e t v || (match p, e with
      | .nm i, .gcall g => ga g i a
      | _, _ => false)
    | _ => false
  | .seti o i e, a => match a with
    | .Assign [.Subscript x y _] v _ => noComp v && plainE y && ckE gk N sc G o x && ckE gk N sc G i y && ckE gk N sc G e v
    | _ => false
  | .setf o x cs e, a => match a with
    | .Assign [.Attribute y name _] v _ => decide (name = x) && setfB G x cs && ckE gk N sc G o y && ckE gk N sc G e v
    | _ => false
  | .dset d k e, a => match a with
    | .Assign [.Subscript x y _] v _ => plainE y && ckE gk N sc G d x && ckE gk N sc G k y && ckE gk N sc G e v
    | _ => false
  | .aug i o e, a => match a with
    | .AugAssign (.Name x _) op v _ => decide (op = toOp o) && slotB N x i && locB sc x && ckE gk N sc G e v
    | _ => false
  | .expr e, a => match a with
    | .Expr v _ => noComp v && ckE gk N sc G e v
    | _ => false
  | .ret e, a => match a with
    | .Return (some v) _ => ckE gk N sc G e v
    | _ => false
  | .retn, a => match a with
    | .Return none _ => true
    | _ => false
  | .ite t p q, a => match a with
    | .If c x y _ => ckT gk N sc G t c && ckB gk ga N sc G p x && ckB gk ga N sc G q y
    | _ => false
  | .whl t p, a => match a with
    | .While c x [] _ => ckT gk N sc G t c && ckB gk ga N sc G p x
    | _ => false
  | .for p it b, a => match a with
    | .For t i x [] _ => ckP N sc p t && tgB it t && ckI gk N sc G it i && ckB gk ga N sc G b x
    | _ => false
def ckB (gk : Nat → Expr → Bool) (ga : Nat → Nat → Stmt → Bool) (N : List Str) (sc : Scope) (G : GT) : List TM.S → List Stmt → Bool
  | [], as => match as with
    | [] => true
    | _ => false
  | s :: ss, as => match as with
    | a :: as => ckS gk ga N sc G s a && ckB gk ga N sc G ss as
    | [] => false
end
section
variable {X : Cx} {k : Nat} {T : Tb} {R : PXT} {W : Wish} {N : List Str} {sc : Scope} {cf : Nat → List PV → Sto → Res PV} {gl : Nat → PV} {gf : Nat → Env → Sto → Res PV} {gk : Nat → Expr → Bool} {G : GT}
/-! ### targets -/
mutual
/-- the slots of a target -/
def pSl : Pat → List Nat
  | .nm i => [i]
  | .tup ps => pSls ps
def pSls : List Pat → List Nat
  | [] => []
  | p :: ps => pSl p ++ pSls ps
end
structure SameBut (sl : List Nat) (σ σ' : L2.St) : Prop where
  len : σ'.length = σ.length
  at_ : ∀ j, j ∉ sl → σ'[j]? = σ[j]?
theorem SameBut.refl {sl : List Nat} {σ : L2.St} : SameBut sl σ σ := ⟨rfl, fun _ _ => rfl⟩
theorem SameBut.trans {a b : List Nat} {σ σ1 σ2 : L2.St} (h : SameBut a σ σ1) (k : SameBut b σ1 σ2) : SameBut (a ++ b) σ σ2 :=
  ⟨k.len.trans h.len, fun j hj => by
    rw [List.mem_append, not_or] at hj
    exact (k.at_ j hj.2).trans (h.at_ j hj.1)⟩
def gL (K : PySem.W.Frag) (T : Tb) (pt : Pat) : TG := fun v σ H Q =>
  ∃ S io env p env', Rel K T S io H ∧ EnvR K S.length io H env σ ∧ Rep K S.length io H p v ∧ bindP pt p env = some env' ∧ ∀ σ' : L2.St, EnvR K S.length io H env' σ' → SameBut (pSl pt) σ σ' → Q σ' H
def gLs (K : PySem.W.Frag) (T : Tb) (pts : List Pat) : TGs := fun vs σ H Q =>
  ∃ S io env ps env', Rel K T S io H ∧ EnvR K S.length io H env σ ∧ Reps K S.length io H ps vs ∧ bindPs pts ps env = some env' ∧ ∀ σ' : L2.St, EnvR K S.length io H env' σ' → SameBut (pSls pts) σ σ' → Q σ' H
theorem PG.imp {X : Cx} {a : Expr} {t t' : TG} (h : L2.PG X a t) (i : ∀ v s H Q, t' v s H Q → t v s H Q) : L2.PG X a t' := ⟨fun pins s σ H v u Q I r q => h.run pins s σ H v u Q I r (i _ _ _ _ q)⟩
theorem PGs.imp {X : Cx} {a : List Expr} {t t' : TGs} (h : PGs X a t) (i : ∀ v s H Q, t' v s H Q → t v s H Q) : PGs X a t' := ⟨fun pins s σ H v u Q I r q => h.run pins s σ H v u Q I r (i _ _ _ _ q)⟩
theorem tgt_cons {e : Expr} {es : List Expr} {env : PySem.Env} {p : Pat} (h : ckP N sc p e = true) : (assignEach (e :: es) env).map (·.2) = assign e env :: (assignEach es env).map (·.2) ∧ (assignEach (e :: es) env).length = (assignEach es env).length + 1 ∧
    ((assignEach es env).findIdx? (·.1) = none → (assignEach (e :: es) env).findIdx? (·.1) = none) := by
  have key : assignEach (e :: es) env = (false, assign e env) :: assignEach es env := by
    cases e <;> first | rfl | (cases p <;> simp [ckP] at h)
  rw [key]
  refine ⟨rfl, rfl, fun hn => ?_⟩
  rw [List.findIdx?_cons]
  simp [hn]
theorem tgt_all {env : PySem.Env} : ∀ {ps : List Pat} {es : List Expr}, ckPs N sc ps es = true → (assignEach es env).length = ps.length ∧ (assignEach es env).findIdx? (·.1) = none
  | [], [], _ => ⟨rfl, rfl⟩
  | [], _ :: _, h => by simp [ckPs] at h
  | _ :: _, [], h => by simp [ckPs] at h
  | p :: ps, e :: es, h => by
    simp only [ckPs, Bool.and_eq_true] at h
    obtain ⟨h1, h2⟩ := tgt_all (env := env) h.2
    obtain ⟨h3, h4, h5⟩ := tgt_cons (es := es) (env := env) h.1
    exact ⟨by rw [h4, h1]; rfl, h5 h2⟩
theorem bindPs_len : ∀ {ps : List Pat} {xs : List PV} {env env' : Env}, bindPs ps xs env = some env' → xs.length = ps.length
  | [], [], _, _, _ => rfl
  | [], _ :: _, _, _, h => by simp [bindPs] at h
  | _ :: _, [], _, _, h => by simp [bindPs] at h
  | p :: ps, x :: xs, env, env', h => by
    simp only [bindPs] at h
    split at h
    · simp [bindPs_len h]
    · cases h
mutual
theorem sP (C : CokP X N sc) : ∀ (p : Pat) (a : Expr), ckP N sc p a = true → L2.PG X a (gL X.K T p)
  | .nm i, a, h => by
    simp only [ckP] at h
    split at h
    · simp only [Bool.and_eq_true] at h
      refine PG.imp (pg_name (by rw [C.hN]; exact C.nd) (slot_ofP C h.1) (C.loc _ h.2).1 (C.loc _ h.2).2) fun v σ H Q hq => ?_
      obtain ⟨S, io, env, p, env', rel, er, rp, hb, q⟩ := hq
      simp only [bindP] at hb
      split at hb
      · cases hb
        exact q _ (er.set rp) ⟨by simp, fun j hj => List.getElem?_set_ne (by simp [pSl] at hj; omega)⟩
      · cases hb
    · cases h
  | .tup ps, a, h => by
    simp only [ckP] at h
    split at h
    · rename_i es k2 p2
      obtain ⟨h1, h2⟩ := tgt_all (env := X.env) h
      refine PG.imp (pg_tup C.calm (sPs C ps es h) h1 h2) fun v σ H Q hq => ?_
      obtain ⟨S, io, env, p, env', rel, er, rp, hb, q⟩ := hq
      simp only [bindP] at hb
      split at hb
      · rename_i xs
        obtain ⟨a, vs, rfl, h3, h4⟩ := rp
        exact ⟨a, vs, rfl, h3, by rw [h4.length]; exact bindPs_len hb, S, io, env, xs, env', rel, er, h4, hb, q⟩
      · cases hb
    · cases h
theorem sPs (C : CokP X N sc) : ∀ (ps : List Pat) (es : List Expr), ckPs N sc ps es = true → PGs X es (gLs X.K T ps)
  | [], [], _ => PGs.imp pgs_nil fun vs σ H Q hq => by
      obtain ⟨S, io, env, ps, env', rel, er, rp, hb, q⟩ := hq
      cases ps with
      | nil =>
        cases hb
        exact ⟨rp, q σ er .refl⟩
      | cons _ _ => simp [bindPs] at hb
  | [], _ :: _, h => by simp [ckPs] at h
  | _ :: _, [], h => by simp [ckPs] at h
  | p :: ps, e :: es, h => by
    simp only [ckPs, Bool.and_eq_true] at h
    refine PGs.imp (pgs_cons (sP C p e h.1) (sPs C ps es h.2) (tgt_cons h.1).1) fun vs σ H Q hq => ?_
    obtain ⟨S, io, env, qs, env', rel, er, rp, hb, q⟩ := hq
    cases qs with
    | nil => simp [bindPs] at hb
    | cons x xs =>
      obtain ⟨y, ys, rfl, h1, h2⟩ := rp
      simp only [bindPs] at hb
      split at hb
      · rename_i env1 e1
        exact ⟨y, ys, rfl, S, io, env, x, env1, rel, er, h1, e1, fun σ1 er1 sb1 => ⟨S, io, env1, xs, env', rel, er1, h2, hb, fun σ' er' sb' => q σ' er' (sb1.trans sb')⟩⟩
      · cases hb
end
/-! ### what is walked -/
/-- the signs of a text with their places, in new pairs -/
def IteS (x : Str) : L2.It := ⟨fun i _ => i < x.cps.size, fun i H v H' => ∃ T c, v = .ref T ∧ H T = none ∧ H' = upd H T (.tup [.int (i : Nat), .str ⟨#[c]⟩]) ∧ x.cps[i]? = some c, fun i _ => x.cps.size ≤ i⟩
theorem turn_enumS {P : Program} {w : World} {K : PySem.W.Frag} {elts : List Expr} {kk : Nat} {tpos : Pos} (x : Str) (t : Tok) {e it : Addr} (hei : e ≠ it) :
    Turn P w K (.Tuple elts kk tpos) (IteS x) [e, it] e (fun i h => ((∃ old, IsEnum h e it (0 + ((i : Nat) : Int)) old) ∧ h.IsStrIter it (strIterType x) x t i) ∧ i ≤ x.cps.size) where
  mem := by simp
  obj := fun i h st b hb => by
    obtain ⟨⟨⟨old, he⟩, ⟨o, ho, hc, hd⟩⟩, _⟩ := st
    have e' : b = e ∨ b = it := by simpa using hb
    rcases e' with z | z
    · rw [z]; exact ⟨_, he, fun v q => nomatch q⟩
    · rw [z]; exact ⟨o, ho, fun v q => by rw [hd] at q; cases q⟩
  keep := fun i h h' st k => by
    obtain ⟨⟨⟨old, he⟩, ⟨o, ho, r⟩⟩, hz⟩ := st
    exact ⟨⟨⟨old, k e (by simp) _ he⟩, ⟨o, k it (by simp) o ho, r⟩⟩, hz⟩
  item := by
    intro X hP hw hK hc i pins s σ H E I hf st hg
    subst hP hw hK
    have W := GoesN.enumFrom (prog := X.prog) (w := X.w) (A := X.A) (elts := elts) (x1 := kk) (pos := tpos) 0 (Draws.text (prog := X.prog) (w := X.w) (A := X.A.in1) (I.ok.hd hc) it x t) e hei (by simp [hei]) (by simp)
    obtain ⟨st, hz⟩ := st
    refine wpAny_mono (W.goes i s (fun v s2 => ∃ x' H', Inv X pins σ H' s2 ∧ RelV x' v ∧ (IteS x).yld i H x' H' ∧ (((∃ old, IsEnum s2.heap e it (0 + ((i + 1 : Nat) : Int)) old) ∧ s2.heap.IsStrIter it (strIterType x) x t (i + 1)) ∧ i + 1 ≤ x.cps.size) ∧ ∀ b ∈ [e, it], H' b = none) E hg st fun v h' tk hY st' kk _ => ?_) (fun r s1 h => h) fun _ _ z => z
    obtain ⟨T, tt, y, rfl, hT, ⟨c, u, hcx, rfl⟩, hI⟩ := hY
    have new : ObjOk X.prog X.w (upd H T (.tup [.int (i : Nat), .str ⟨#[c]⟩])) h' T (.tup [.int (i : Nat), .str ⟨#[c]⟩]) :=
      ⟨by show 2 ≤ sizeLine; decide, [.int (0 + (i : Int)) tt, .str ⟨#[c]⟩ u], .cons ⟨tt, by rw [Int.zero_add]⟩ (.cons ⟨u, rfl⟩ .nil), hI⟩
    have hfr : H T = none := I.hok.fresh hT
    have I1 : Inv X pins σ (upd H T (.tup [.int (i : Nat), .str ⟨#[c]⟩])) { s with heap := h', toks := tk } :=
      I.turnedNew (ch := [e, it]) (fun b ob hb q => kk b ob (by simpa using hb) q) hf hT new
    refine ⟨.ref T, _, I1, rfl, ⟨T, c, rfl, hfr, rfl, hcx⟩, ⟨st', hg⟩, fun b hb => ?_⟩
    obtain ⟨ob, hob⟩ : ∃ ob, s.heap.get? b = some ob := by
      obtain ⟨⟨old, he⟩, ⟨o, ho, _⟩⟩ := st
      have e' : b = e ∨ b = it := by simpa using hb
      rcases e' with z | z
      · rw [z]; exact ⟨_, he⟩
      · rw [z]; exact ⟨o, ho⟩
    rw [upd_ne (Nat.ne_of_lt (Nat.lt_of_lt_of_le (Heap.lt_size hob) hT))]
    exact (hf b hb).1
  done := by
    intro X hP hw hK hc i pins s σ H E I hf st hg
    subst hP hw hK
    have W := GoesN.enumFrom (prog := X.prog) (w := X.w) (A := X.A) (elts := elts) (x1 := kk) (pos := tpos) 0 (Draws.text (prog := X.prog) (w := X.w) (A := X.A.in1) (I.ok.hd hc) it x t) e hei (by simp [hei]) (by simp)
    obtain ⟨st, hz⟩ := st
    have hi : i = x.cps.size := Nat.le_antisymm hz hg
    subst hi
    refine W.stops s (fun s1 => Inv X pins σ H s1) E st fun h' tk kk _ => ?_
    exact I.turnedL (ch := [e, it]) (fun b ob hb q => kk b ob (by simpa using hb) q) hf
  self := fun A i s Q E st h => by
    obtain ⟨⟨⟨old, he⟩, _⟩, _⟩ := st
    exact wpAny_pyIter_enum he h
/-- the signs of two texts beside each other, in new pairs -/
def IzS (x y : Str) : L2.It := ⟨fun i _ => i < x.cps.size ∧ i < y.cps.size, fun i H v H' => ∃ T c d, v = .ref T ∧ H T = none ∧ H' = upd H T (.tup [.str ⟨#[c]⟩, .str ⟨#[d]⟩]) ∧ x.cps[i]? = some c ∧ y.cps[i]? = some d, fun i _ => x.cps.size ≤ i ∨ y.cps.size ≤ i⟩
theorem turn_zipS {P : Program} {w : World} {K : PySem.W.Frag} {elts : List Expr} {kk : Nat} {tpos : Pos} (x y : Str) (t t' : Tok) {z TI TO i1 i2 : Addr} (Z : ZipSep2 z TI TO i1 i2 [i1] [i2]) :
    Turn P w K (.Tuple elts kk tpos) (IzS x y) [z, TI, TO, i1, i2] z (fun i h => (IsZip h z TI TO .none ∧ IsTupOf2 h TI (.ref i1) (.ref i2) ∧ (∃ a1 a2, IsTupOf2 h TO a1 a2) ∧ h.IsStrIter i1 (strIterType x) x t i ∧ h.IsStrIter i2 (strIterType y) y t' i) ∧ i ≤ min x.cps.size y.cps.size) where
  mem := by simp
  obj := fun i h st b hb => by
    obtain ⟨⟨hz, hTI, ⟨a1, a2, hTO⟩, ⟨o1, e1, _, d1⟩, ⟨o2, e2, _, d2⟩⟩, _⟩ := st
    have e' : b = z ∨ b = TI ∨ b = TO ∨ b = i1 ∨ b = i2 := by simpa using hb
    rcases e' with q | q | q | q | q
    · rw [q]; exact ⟨_, hz, fun v q => nomatch q⟩
    · rw [q]; exact ⟨_, hTI, fun v q => nomatch q⟩
    · rw [q]; exact ⟨_, hTO, fun v q => nomatch q⟩
    · rw [q]; exact ⟨o1, e1, fun v q => by rw [d1] at q; cases q⟩
    · rw [q]; exact ⟨o2, e2, fun v q => by rw [d2] at q; cases q⟩
  keep := fun i h h' st k => by
    obtain ⟨⟨hz, hTI, ⟨a1, a2, hTO⟩, ⟨o1, e1, r1⟩, ⟨o2, e2, r2⟩⟩, hm⟩ := st
    exact ⟨⟨k z (by simp) _ hz, k TI (by simp) _ hTI, ⟨a1, a2, k TO (by simp) _ hTO⟩, ⟨o1, k i1 (by simp) o1 e1, r1⟩, ⟨o2, k i2 (by simp) o2 e2, r2⟩⟩, hm⟩
  item := by
    intro X hP hw hK hc i pins s σ H E I hf st hg
    subst hP hw hK
    have W := GoesN.zip2 (prog := X.prog) (w := X.w) (A := X.A) (elts := elts) (x1 := kk) (pos := tpos) Z (Draws.text (prog := X.prog) (w := X.w) (A := X.A.in1) (I.ok.hd hc) i1 x t) (Draws.text (prog := X.prog) (w := X.w) (A := X.A.in1) (I.ok.hd hc) i2 y t')
    obtain ⟨st, hz⟩ := st
    refine wpAny_mono (W.goes i s (fun v s2 => ∃ x' H', Inv X pins σ H' s2 ∧ RelV x' v ∧ (IzS x y).yld i H x' H' ∧ ((IsZip s2.heap z TI TO .none ∧ IsTupOf2 s2.heap TI (.ref i1) (.ref i2) ∧ (∃ a1 a2, IsTupOf2 s2.heap TO a1 a2) ∧ s2.heap.IsStrIter i1 (strIterType x) x t (i + 1) ∧ s2.heap.IsStrIter i2 (strIterType y) y t' (i + 1)) ∧ i + 1 ≤ min x.cps.size y.cps.size) ∧ ∀ b ∈ [z, TI, TO, i1, i2], H' b = none) E (by have := hg.1; have := hg.2; omega) st fun v h' tk hY st' kk _ => ?_) (fun r s1 h => h) fun _ _ z => z
    obtain ⟨T, u, u', rfl, hT, ⟨c, t1, hcx, rfl⟩, ⟨d, t2, hcy, rfl⟩, hI⟩ := hY
    have new : ObjOk X.prog X.w (upd H T (.tup [.str ⟨#[c]⟩, .str ⟨#[d]⟩])) h' T (.tup [.str ⟨#[c]⟩, .str ⟨#[d]⟩]) :=
      ⟨by show 2 ≤ sizeLine; decide, [.str ⟨#[c]⟩ t1, .str ⟨#[d]⟩ t2], .cons ⟨t1, rfl⟩ (.cons ⟨t2, rfl⟩ .nil), hI⟩
    have hfr : H T = none := I.hok.fresh hT
    have I1 : Inv X pins σ (upd H T (.tup [.str ⟨#[c]⟩, .str ⟨#[d]⟩])) { s with heap := h', toks := tk } :=
      I.turnedNew (ch := [z, TI, TO, i1, i2]) (fun b ob hb q => kk b ob (fun m => hb (by simp at m ⊢; rcases m with m | m | m | m <;> simp [m])) q) hf hT new
    refine ⟨.ref T, _, I1, rfl, ⟨T, c, d, rfl, hfr, rfl, hcx, hcy⟩, ⟨st', by have := hg.1; have := hg.2; omega⟩, fun b hb => ?_⟩
    obtain ⟨ob, hob⟩ : ∃ ob, s.heap.get? b = some ob := by
      obtain ⟨hz, hTI, ⟨a1, a2, hTO⟩, ⟨o1, e1, _⟩, ⟨o2, e2, _⟩⟩ := st
      have e' : b = z ∨ b = TI ∨ b = TO ∨ b = i1 ∨ b = i2 := by simpa using hb
      rcases e' with q | q | q | q | q
      · rw [q]; exact ⟨_, hz⟩
      · rw [q]; exact ⟨_, hTI⟩
      · rw [q]; exact ⟨_, hTO⟩
      · rw [q]; exact ⟨_, e1⟩
      · rw [q]; exact ⟨_, e2⟩
    rw [upd_ne (Nat.ne_of_lt (Nat.lt_of_lt_of_le (Heap.lt_size hob) hT))]
    exact (hf b hb).1
  done := by
    intro X hP hw hK hc i pins s σ H E I hf st hg
    subst hP hw hK
    have W := GoesN.zip2 (prog := X.prog) (w := X.w) (A := X.A) (elts := elts) (x1 := kk) (pos := tpos) Z (Draws.text (prog := X.prog) (w := X.w) (A := X.A.in1) (I.ok.hd hc) i1 x t) (Draws.text (prog := X.prog) (w := X.w) (A := X.A.in1) (I.ok.hd hc) i2 y t')
    obtain ⟨st, hz⟩ := st
    have hi : i = min x.cps.size y.cps.size := by
      rcases hg with h | h <;> omega
    subst hi
    refine W.stops s (fun s1 => Inv X pins σ H s1) E st fun h' tk kk _ => ?_
    exact I.turnedL (ch := [z, TI, TO, i1, i2]) (fun b ob hb q => kk b ob (fun m => hb (by simp at m ⊢; rcases m with m | m | m | m <;> simp [m])) q) hf
  self := fun A i s Q E st h => wpAny_pyIter_zip st.1.1 h
def JR (K : PySem.W.Frag) (n : Nat) (io : Nat → Addr) (H : Hp) : Wk → L2.It → Prop
  | .obj i, J => i < n ∧ J = Itl K (io i)
  | .seq xs, J => (∃ a vs, J = Itt K a ∧ SqT K H a vs ∧ Reps K n io H xs vs) ∨ (∃ cs : List Nat, J = Its (mkS cs) ∧ xs = cs.map fun c => .str [c]) ∨ (∃ cs : List Nat, J = IteS (mkS cs) ∧ xs = enumL 0 cs) ∨
    (∃ cs ds : List Nat, J = IzS (mkS cs) (mkS ds) ∧ xs = zipL (cs.map fun c => .str [c]) (ds.map fun c => .str [c])) ∨ (∃ a b us vs ps qs, J = RZ.ItzT K a b ∧ SqT K H a us ∧ SqT K H b vs ∧ Reps K n io H ps us ∧ Reps K n io H qs vs ∧ xs = zipL ps qs)
  | .zip i j, J => i < n ∧ j < n ∧ J = Itz K (io i) (io j)
  | .rng lo m, J => J = Itr lo m
theorem JR.mono {K : PySem.W.Frag} {n n' : Nat} {io io' : Nat → Addr} {H H' : Hp} {w : Wk} {J : L2.It} (e : Ex n io H io' H') (l : n ≤ n') (h : JR K n io H w J) : JR K n' io' H' w J := by
  cases w with
  | obj i => exact ⟨Nat.lt_of_lt_of_le h.1 l, by rw [e.io i h.1]; exact h.2⟩
  | seq xs =>
    rcases h with ⟨a, vs, h1, h2, h3⟩ | h | h | h | ⟨a, b, us, vs, ps, qs, h1, h2, h3, h4, h5, h6⟩
    · exact .inl ⟨a, vs, h1, e.sqT h2, h3.mono e l⟩
    · exact .inr (.inl h)
    · exact .inr (.inr (.inl h))
    · exact .inr (.inr (.inr (.inl h)))
    · exact .inr (.inr (.inr (.inr ⟨a, b, us, vs, ps, qs, h1, e.sqT h2, e.sqT h3, h4.mono e l, h5.mono e l, h6⟩)))
  | zip i j => exact ⟨Nat.lt_of_lt_of_le h.1 l, Nat.lt_of_lt_of_le h.2.1 l, by rw [e.io i h.1, e.io j h.2.1]; exact h.2.2⟩
  | rng lo m => exact h
theorem PI.imp {X : Cx} {tg a : Expr} {t t' : TI} (h : PI X tg a t) (i : ∀ s H Q, t' s H Q → t s H Q) : PI X tg a t' := ⟨fun pins s σ H Q I q => h.run pins s σ H Q I (i _ _ _ q)⟩
theorem pi_any {tg e : Expr} {te : TE} (he : PE X e te) : PI X tg e (fun σ H Q => te σ H fun x H1 => (∃ a, x = .ref a ∧ (∃ xs, SqL X.K H1 a xs) ∧ Q (Itl X.K a) H1) ∨ (∃ a, x = .ref a ∧ (∃ xs, SqT X.K H1 a xs) ∧ Q (Itt X.K a) H1) ∨ (∃ z, x = .str z ∧ Q (Its z) H1)) := by
  refine ⟨fun pins s σ H R I h => ?_⟩
  refine thn (he.run pins s σ H _ I h) fun v s1 ⟨x, H1, I1, r1, q1⟩ => ?_
  rcases q1 with ⟨a, e, ⟨xs, hq⟩, q⟩ | ⟨a, e, ⟨xs, hq⟩, q⟩ | ⟨z, e, q⟩
  · subst e
    cases r1
    obtain ⟨its, rv, p, hz⟩ := I1.list hq
    refine wpAny_pyIter_list p.isList ?_
    refine ⟨s1.heap.objs.size, [s1.heap.objs.size], _, _, H1, rfl, I1.kept (t' := s1.toks) fun b o e => Heap.get?_push_of_some _ e, turn_list a _, ⟨_, Heap.get?_push_size _ rfl, rfl, rfl⟩, fun b hb => ?_, q⟩
    have e : b = s1.heap.objs.size := by simpa using hb
    subst e
    exact I1.fpOk (Nat.le_refl _) (I1.hok.fresh (Nat.le_refl _))
  · subst e
    cases r1
    obtain ⟨its, rv, p, hz⟩ := I1.tuple hq
    refine wpAny_pyIter_tuple (show s1.heap.IsTuple a its.toArray from p) ?_
    refine ⟨s1.heap.objs.size, [s1.heap.objs.size], _, _, H1, rfl, I1.kept (t' := s1.toks) fun b o e => Heap.get?_push_of_some _ e, turn_tuple a _, ⟨_, Heap.get?_push_size _ rfl, rfl, rfl⟩, fun b hb => ?_, q⟩
    have e : b = s1.heap.objs.size := by simpa using hb
    subst e
    exact I1.fpOk (Nat.le_refl _) (I1.hok.fresh (Nat.le_refl _))
  · subst e
    obtain ⟨t, rfl⟩ := r1
    cases ha : z.cps.all (· < 128)
    · exact wpAny_pyIter_wide ha (pi_one (tk := s1.toks) I1 _ (turn_str _ z t "str_iterator" (.inr rfl)) ⟨_, Heap.get?_push_size _ rfl, rfl, rfl⟩ q)
    · exact wpAny_pyIter_ascii ha (pi_one (tk := s1.toks) I1 _ (turn_str _ z t "str_ascii_iterator" (.inl rfl)) ⟨_, Heap.get?_push_size _ rfl, rfl, rfl⟩ q)
abbrev LI (X : Cx) (T : Tb) (W : Wish) (m : Env → Sto → Res Wk) : TI := lift X.K T W (JR X.K) m
theorem sIE {tg a : Expr} {e : E} {c : Ctx} (he : PE X a (LE X T W (ev c e))) : PI X tg a (LI X T W (evI c (.e e))) := by
  refine PI.imp (pi_any he) fun σ H Q h => ?_
  obtain ⟨S, io, env, rel, er, post⟩ := h
  simp only [evI] at post
  refine Post.head rel er post fun S io H p v rel er rp post => ?_
  unfold wkOf at post
  split at post
  · rename_i xs
    obtain ⟨a, vs, rfl, h1, h2⟩ := rp
    exact .inr (.inl ⟨a, rfl, ⟨vs, h1⟩, post io H _ .refl (Nat.le_refl _) rel (.inl ⟨a, vs, rfl, h1, h2⟩)⟩)
  · rename_i i
    obtain ⟨hi, rfl⟩ := rp
    split at post
    · rename_i xs e
      obtain ⟨vs, h1, h2⟩ := rel.sq e
      exact .inl ⟨_, rfl, ⟨vs, h1⟩, post io H _ .refl (Nat.le_refl _) rel ⟨hi, rfl⟩⟩
    · exact post.elim
  · rename_i cs
    cases rp
    exact .inr (.inr ⟨_, rfl, post io H _ .refl (Nat.le_refl _) rel (.inr (.inl ⟨cs, rfl, rfl⟩))⟩)
  · exact post.elim
theorem pi_enumS {X : Cx} {e : Expr} {ta : TA} {p pos tpos : Pos} {elts : List Expr} {kk : Nat} (hg : Gl X "enumerate") (hm : X.mg "enumerate" = none) (ha : PA X [e] ta) (hs : starEach [e] X.env = [(false, eval e X.env)] := by rfl) :
    PI X (.Tuple elts kk tpos) (.Call (.Name "enumerate" p) [e] [] pos) (fun σ H R => ta σ H fun vs H1 => ∃ z, vs = [.str z] ∧ R (IteS z) H1) := by
  refine ⟨fun pins s σ H R I h => ?_⟩
  refine Call_ (ld_blt I hg hm boot_enumerate (PyProof.Rows.callWith_type1 (thn (ha.run pos pins s σ H _ I h) fun us s1 ⟨vs, H1, I1, r1, q1⟩ => ?_) hs rfl))
  obtain ⟨z, ex, q⟩ := q1
  subst ex
  obtain ⟨u, rfl, t, rfl⟩ := vals1 r1
  refine call_enumerate_str fun h' he hit hsz hk => wpAny_pyIter_enum he ?_
  have I2 : Inv X pins σ H1 { s1 with heap := h' } := I1.kept (t' := s1.toks) hk
  refine ⟨s1.heap.objs.size + 1, [s1.heap.objs.size + 1, s1.heap.objs.size], _, _, H1, rfl, I2, turn_enumS z t (Nat.succ_ne_self _), ⟨⟨⟨.none, he⟩, hit⟩, Nat.zero_le _⟩, fun b hb => ?_, q⟩
  have e' : b = s1.heap.objs.size + 1 ∨ b = s1.heap.objs.size := by simpa using hb
  have hle : s1.heap.objs.size ≤ b := by
    rcases e' with z | z
    · rw [z]; exact Nat.le_add_right _ _
    · rw [z]; exact Nat.le_refl _
  exact I1.fpOk hle (I1.hok.fresh hle)
/-- zip of two texts, two tuples, two lists -/
theorem pi_zipX {X : Cx} {e e2 : Expr} {ta : TA} {p pos tpos : Pos} {elts : List Expr} {kk : Nat} (hg : Gl X "zip") (hm : X.mg "zip" = none) (ha : PA X [e, e2] ta) (h1 : plainE e = true) (h2 : plainE e2 = true) :
    PI X (.Tuple elts kk tpos) (.Call (.Name "zip" p) [e, e2] [] pos) (fun σ H R => ta σ H fun vs H1 => (∃ x y, vs = [.str x, .str y] ∧ R (IzS x y) H1) ∨
      (∃ a b xs ys, vs = [.ref a, .ref b] ∧ SqL X.K H1 a xs ∧ SqL X.K H1 b ys ∧ R (Itz X.K a b) H1) ∨ (∃ a b xs ys, vs = [.ref a, .ref b] ∧ SqT X.K H1 a xs ∧ SqT X.K H1 b ys ∧ R (RZ.ItzT X.K a b) H1)) := by
  refine ⟨fun pins s σ H R I h => ?_⟩
  have pl : plainEs [e, e2] = true := by simp [plainEs, h1, h2]
  have pl2 : plainEs [e2] = true := by simp [plainEs, h2]
  refine Call_ (ld_blt I hg hm PyProof.Rows.boot_zip (PyProof.Rows.callWith_type1 (thn (ha.run pos pins s σ H _ I h) fun us s1 ⟨vs, H1, I1, r1, q1⟩ => ?_) (star_cons h1) (star_any pl2)))
  have five : ∀ c, c ∈ [s1.heap.objs.size + 4, s1.heap.objs.size + 2, s1.heap.objs.size + 3, s1.heap.objs.size, s1.heap.objs.size + 1] → FpOk X pins H1 c := fun c hc => by
    have le : s1.heap.objs.size ≤ c := by
      simp only [List.mem_cons, List.not_mem_nil, or_false] at hc
      rcases hc with z | z | z | z | z <;> rw [z] <;> first | exact Nat.le_add_right _ _ | exact Nat.le_refl _
    exact I1.fpOk le (I1.hok.fresh le)
  rcases q1 with ⟨x, y, rfl, q⟩ | ⟨a, b, xs, ys, rfl, k1, k2, q⟩ | ⟨a, b, xs, ys, rfl, k1, k2, q⟩
  · obtain ⟨u, u', rfl, ru, ru'⟩ := vals2 r1
    obtain ⟨t, rfl⟩ := ru
    obtain ⟨t', rfl⟩ := ru'
    refine zip_begins2 (begins_text x t) (begins_text y t') trivial trivial fun h' hz hTI hTO g1 g2 hsz hk => wpAny_pyIter_zip hz ?_
    have I2 : Inv X pins σ H1 { s1 with heap := h' } := I1.kept (t' := s1.toks) hk
    refine ⟨s1.heap.objs.size + 4, [s1.heap.objs.size + 4, s1.heap.objs.size + 2, s1.heap.objs.size + 3, s1.heap.objs.size, s1.heap.objs.size + 1], _, _, H1, rfl, I2, turn_zipS x y t t' ?_, ⟨⟨hz, hTI, ⟨_, _, hTO⟩, ⟨_, g1, rfl, rfl⟩, ⟨_, g2, rfl, rfl⟩⟩, Nat.zero_le _⟩, five, q⟩
    constructor <;> simp <;> omega
  · obtain ⟨u, u', rfl, ru, ru'⟩ := vals2 r1
    cases ru; cases ru'
    obtain ⟨i1, _, p1, _⟩ := I1.list k1
    obtain ⟨i2, _, p2, _⟩ := I1.list k2
    refine call_zip_2 p1.isList p2.isList fun h' hz hTI hTO g1 g2 hsz hk => wpAny_pyIter_zip hz ?_
    exact ⟨_, [_, _, _, _, _], _, _, H1, rfl, I1.kept (t' := s1.toks) hk, turn_zip (PySem.W.ktu_apart s1.heap.objs.size a b p1.lt p2.lt), ⟨hz, hTI, ⟨_, _, hTO⟩, g1, g2⟩, five, q⟩
  · obtain ⟨u, u', rfl, ru, ru'⟩ := vals2 r1
    cases ru; cases ru'
    obtain ⟨i1, _, p1, _⟩ := I1.tuple k1
    obtain ⟨i2, _, p2, _⟩ := I1.tuple k2
    refine RZ.call_zipT (show s1.heap.IsTuple a i1.toArray from p1) (show s1.heap.IsTuple b i2.toArray from p2) fun h' hz hTI hTO g1 g2 hsz hk => wpAny_pyIter_zip hz ?_
    obtain ⟨_, l1, _⟩ := p1
    obtain ⟨_, l2, _⟩ := p2
    exact ⟨_, [_, _, _, _, _], _, _, H1, rfl, I1.kept (t' := s1.toks) hk, RZ.turn_zipT (PySem.W.ktu_apart s1.heap.objs.size a b (Heap.lt_size l1) (Heap.lt_size l2)), ⟨hz, hTI, ⟨_, _, hTO⟩, g1, g2⟩, five, q⟩
theorem sI (C : Cok X k T R W N sc) (P : PG X.prog X.w X.K X.mg X.base T R k cf gl G) (Hg : ∀ g a, gk g a = true → PE X a (LE X T W (gf g))) {tg a : Expr} {it : TM.It} (h : ckI gk N sc G it a = true) (htg : tgB it tg = true) : PI X tg a (LI X T W (evI ⟨cf, gl, gf⟩ it)) := by
  cases it with
  | zip e f =>
    simp only [ckI] at h
    split at h
    · simp only [Bool.and_eq_true, decide_eq_true_eq] at h
      obtain ⟨⟨⟨⟨⟨⟨h1, h2⟩, rfl⟩, h4⟩, h5⟩, h6⟩, h7⟩ := h
      simp only [tgB] at htg
      split at htg
      · refine PI.imp (pi_zipX (glb_of C h1) (P.blt _ h2) (pa_cons (sE C P Hg e _ h6) (pa_cons (sE C P Hg f _ h7) pa_nil (star_cons h5)) (star_cons h4)) h4 h5) fun σ H Q h => ?_
        obtain ⟨S, io, env, rel, er, post⟩ := h
        simp only [evI] at post
        refine ⟨S, io, env, rel, er, post.bind fun p S2 io2 H2 v ex2 l2 rel2 rp post2 => ⟨S2, io2, env, rel2, er.mono ex2 l2, post2.bind fun q S3 io3 H3 w ex3 l3 rel3 rq post3 => ?_⟩⟩
        have rp3 := rp.mono ex3 l3
        unfold zipW at post3
        split at post3
        · cases rp3; cases rq
          exact .inl ⟨_, _, rfl, post3 io3 _ _ .refl (Nat.le_refl _) rel3 (.inr (.inr (.inr (.inl ⟨_, _, rfl, rfl⟩))))⟩
        · obtain ⟨a, us, rfl, h8, h9⟩ := rp3
          obtain ⟨b, ws, rfl, h10, h11⟩ := rq
          exact .inr (.inr ⟨a, b, us, ws, rfl, h8, h10, post3 io3 _ _ .refl (Nat.le_refl _) rel3 (.inr (.inr (.inr (.inr ⟨a, b, us, ws, _, _, rfl, h8, h10, h9, h11, rfl⟩))))⟩)
        · obtain ⟨hi, rfl⟩ := rp3
          obtain ⟨hj, rfl⟩ := rq
          split at post3
          · rename_i xs ys e1 e2
            obtain ⟨us, h8, _⟩ := rel3.sq e1
            obtain ⟨ws, h10, _⟩ := rel3.sq e2
            exact .inr (.inl ⟨_, _, us, ws, rfl, h8, h10, post3 io3 _ _ .refl (Nat.le_refl _) rel3 ⟨hi, hj, rfl⟩⟩)
          · exact post3.elim
        · exact post3.elim
      · cases htg
    · cases h
  | enum e =>
    simp only [ckI] at h
    split at h
    · simp only [Bool.and_eq_true, decide_eq_true_eq] at h
      obtain ⟨⟨⟨⟨h1, h2⟩, rfl⟩, h4⟩, h5⟩ := h
      simp only [tgB] at htg
      split at htg
      · refine PI.imp (pi_enumS (glb_of C h1) (P.blt _ h2) (pa_cons (sE C P Hg e _ h5) pa_nil (star_cons h4)) (star_cons h4)) fun σ H Q h => ?_
        obtain ⟨S, io, env, rel, er, post⟩ := h
        simp only [evI] at post
        refine Post.head rel er post fun S io H p v rel er rp post => ?_
        split at post
        · cases rp
          exact ⟨_, rfl, post io H _ .refl (Nat.le_refl _) rel (.inr (.inr (.inl ⟨_, rfl, rfl⟩)))⟩
        · exact post.elim
      · cases htg
    · cases h
  | e e =>
    simp only [ckI, Bool.and_eq_true] at h
    exact sIE (sE C P Hg e a h.1)
  | rng1 e =>
    simp only [ckI] at h
    split at h
    · simp only [Bool.and_eq_true, decide_eq_true_eq] at h
      obtain ⟨⟨⟨⟨h1, h2⟩, rfl⟩, h4⟩, h5⟩ := h
      refine PI.imp (pi_range1 (glb_of C h1) (P.blt _ h2) (pa_cons (sE C P Hg e _ h5) pa_nil (star_cons h4)) (star_cons h4)) fun σ H Q h => ?_
      obtain ⟨S, io, env, rel, er, post⟩ := h
      simp only [evI] at post
      refine Post.head rel er post fun S io H p v rel er rp post => ?_
      split at post
      · split at post
        · rename_i hb
          simp only [Bool.and_eq_true, decide_eq_true_eq] at hb
          unfold P62 at hb
          cases rp
          exact ⟨_, rfl, by omega, by omega, post io H _ .refl (Nat.le_refl _) rel rfl⟩
        · exact post.elim
      · exact post.elim
    · cases h
  | rng2 e f =>
    simp only [ckI] at h
    split at h
    · simp only [Bool.and_eq_true, decide_eq_true_eq] at h
      obtain ⟨⟨⟨⟨⟨⟨h1, h2⟩, rfl⟩, h4⟩, h5⟩, h6⟩, h7⟩ := h
      refine PI.imp (pi_range2 (glb_of C h1) (P.blt _ h2) (pa_cons (sE C P Hg e _ h6) (pa_cons (sE C P Hg f _ h7) pa_nil (star_cons h5)) (star_cons h4)) (by rw [star_cons h4, star_cons h5]; rfl) (star_cons h5)) fun σ H Q h => ?_
      obtain ⟨S, io, env, rel, er, post⟩ := h
      simp only [evI] at post
      refine Post.head rel er post fun S io H p v rel er rp post => ?_
      refine ⟨S, io, env, rel, er, post.bind fun q S2 io2 H2 w ex2 l2 rel2 rq post2 => ?_⟩
      split at post2
      · split at post2
        · rename_i hb
          simp only [Bool.and_eq_true, decide_eq_true_eq] at hb
          unfold P62 at hb
          cases rp; cases rq
          exact ⟨_, _, rfl, by omega, post2 io2 H2 _ .refl (Nat.le_refl _) rel2 rfl⟩
        · exact post2.elim
      · exact post2.elim
    · cases h
end
end TM

/-! TM, part J: statements are sound. -/
namespace TM
open PySem PySem.Spec PyProof.Rows L2
def PostS (K : PySem.W.Frag) (T : Tb) (W : Wish) (D : Ends) (S : Sto) (io : Nat → Addr) (H : Hp) : Out → Prop
  | .nx env S' => ∀ io' H' (σ' : L2.St), Ex S.length io H io' H' → S.length ≤ S'.length → Rel K T S' io' H' → EnvR K S'.length io' H' env σ' → D.nx σ' H'
  | .brk env S' => ∀ io' H' (σ' : L2.St), Ex S.length io H io' H' → S.length ≤ S'.length → Rel K T S' io' H' → EnvR K S'.length io' H' env σ' → D.bk σ' H'
  | .cnt env S' => ∀ io' H' (σ' : L2.St), Ex S.length io H io' H' → S.length ≤ S'.length → Rel K T S' io' H' → EnvR K S'.length io' H' env σ' → D.ct σ' H'
  | .ret p S' => ∀ io' H' v, Ex S.length io H io' H' → S.length ≤ S'.length → Rel K T S' io' H' → Rep K S'.length io' H' p v → D.rt v H'
  | .exc x S' => ∀ io' H', Ex S.length io H io' H' → S.length ≤ S'.length → Rel K T S' io' H' → W x S' io' H'
  | .bad => False
theorem PostS.start {K : PySem.W.Frag} {T : Tb} {W : Wish} {D : Ends} {S S1 : Sto} {io io1 : Nat → Addr} {H H1 : Hp} {r : Out} (e : Ex S.length io H io1 H1) (l : S.length ≤ S1.length) (h : PostS K T W D S io H r) : PostS K T W D S1 io1 H1 r := by
  cases r with
  | nx env S' => exact fun io' H' σ' e' l' => h io' H' σ' (e.trans l e') (Nat.le_trans l l')
  | brk env S' => exact fun io' H' σ' e' l' => h io' H' σ' (e.trans l e') (Nat.le_trans l l')
  | cnt env S' => exact fun io' H' σ' e' l' => h io' H' σ' (e.trans l e') (Nat.le_trans l l')
  | ret p S' => exact fun io' H' v e' l' => h io' H' v (e.trans l e') (Nat.le_trans l l')
  | exc x S' => exact fun io' H' e' l' => h io' H' (e.trans l e') (Nat.le_trans l l')
  | bad => exact h
/-- the value's computation, then what follows -/
theorem PostS.out {a b : Type} {K : PySem.W.Frag} {T : Tb} {W : Wish} {R1 : Nat → (Nat → Addr) → Hp → a → b → Prop} {D : Ends} {S : Sto} {io : Nat → Addr} {H : Hp} {N : b → Hp → Prop} {r : Res a} {f : a → Sto → Out}
    (h : PostS K T W D S io H (r.out f)) (k : ∀ p S1 io1 H1 v, Ex S.length io H io1 H1 → S.length ≤ S1.length → Rel K T S1 io1 H1 → R1 S1.length io1 H1 p v → PostS K T W D S1 io1 H1 (f p S1) → N v H1) : Post K T W R1 S io H N r := by
  cases r with
  | ok p S1 => exact fun io1 H1 v e l rel rp => k p S1 io1 H1 v e l rel rp (PostS.start e l h)
  | exc x S1 => exact h
  | bad => exact h
def LS (K : PySem.W.Frag) (T : Tb) (W : Wish) (m : Env → Sto → Out) : TS := fun D σ H => ∃ S io env, Rel K T S io H ∧ EnvR K S.length io H env σ ∧ PostS K T W D S io H (m env S)
theorem PS.imp {X : Cx} {a : Stmt} {t t' : TS} (h : L2.PS X a t) (i : ∀ D s H, t' D s H → t D s H) : L2.PS X a t' := ⟨fun pins s σ H D I q => h.run pins s σ H D I (i _ _ _ q)⟩
theorem PSs.imp {X : Cx} {a : List Stmt} {t t' : TS} (h : L2.PSs X a t) (i : ∀ D s H, t' D s H → t D s H) : L2.PSs X a t' := ⟨fun pins s σ H D I q => h.run pins s σ H D I (i _ _ _ q)⟩
section
variable {X : Cx} {k : Nat} {T : Tb} {R : PXT} {W : Wish} {N : List Str} {sc : Scope} {cf : Nat → List PV → Sto → Res PV} {gl : Nat → PV} {gf : Nat → Env → Sto → Res PV} {gk : Nat → Expr → Bool} {ga : Nat → Nat → Stmt → Bool} {G : GT}
/-- the head of a statement -/
theorem PostS.head {a b : Type} {K : PySem.W.Frag} {R1 : Nat → (Nat → Addr) → Hp → a → b → Prop} {D : Ends} {m1 : Env → Sto → Res a} {f : a → Sto → Out} {σ : L2.St} {S : Sto} {io : Nat → Addr} {H : Hp} {env : Env} {N : b → Hp → Prop}
    (rel : Rel K T S io H) (er : EnvR K S.length io H env σ) (post : PostS K T W D S io H ((m1 env S).out f))
    (k : ∀ S io H p v, Rel K T S io H → EnvR K S.length io H env σ → R1 S.length io H p v → PostS K T W D S io H (f p S) → N v H) : lift K T W R1 m1 σ H N :=
  ⟨S, io, env, rel, er, post.out fun p S1 io1 H1 v e1 l1 rel1 rp post1 => k S1 io1 H1 p v rel1 (er.mono e1 l1) rp post1⟩
theorem sole_swap {t v : Expr} {l : Nat} {env : PySem.Env} (h : noComp v = true) : swapsWithSole [t] v l env = pure false := noComp_swap h
theorem sole_stores {t v : Expr} {env : PySem.Env} (h : (notTup t || notTup v) = true) : swappedStores [t] v env = pure none := by
  cases t <;> first | rfl | (cases v <;> first | rfl | cases h)
theorem sole_each {t : Expr} {env : PySem.Env} {p : Pat} (h : ckP N sc p t = true) : (assignEach [t] env).map (·.2) = [assign t env] := by
  rw [(tgt_cons h).1]
  rfl
theorem iSet {p : Pat} {e : E} {c : Ctx} {D : Ends} {σ : L2.St} {H : Hp} (h : LS X.K T W (evS c (.set p e)) D σ H) : tAsg (LE X T W (ev c e)) (gL X.K T p) D σ H := by
  obtain ⟨S, io, env, rel, er, post⟩ := h
  simp only [evS] at post
  refine PostS.head rel er post fun S io H x v rel er rp post => ?_
  split at post
  · rename_i env' e
    exact ⟨S, io, env, x, env', rel, er, rp, e, fun σ' er' _ => post io H σ' .refl (Nat.le_refl _) rel er'⟩
  · exact post.elim
theorem sub_assign {x y : Expr} {pos : Pos} {env : PySem.Env} (h : plainE y = true) : ∀ v, assign (.Subscript x y pos) env v = (do
      let ov ← holding [v] (eval x env)
      let iv ← holding [v, ov] (eval y env)
      standAt pos
      holding [v, ov, iv] (setItem ov iv v)
      release [v, ov, iv] []) := by
  intro v
  cases y <;> first | rfl | cases h
theorem iSeti {o i e : E} {c : Ctx} {D : Ends} {σ : L2.St} {H : Hp} (h : LS X.K T W (evS c (.seti o i e)) D σ H) : tAsg (LE X T W (ev c e)) (gSub (LE X T W (ev c o)) (LE X T W (ev c i)) rSetL) D σ H := by
  obtain ⟨S, io, env, rel, er, post⟩ := h
  simp only [evS] at post
  refine PostS.head rel er post fun S io H x v rel er rp post => ?_
  refine ⟨S, io, env, rel, er, post.out fun p S1 io1 H1 w ex1 l1 rel1 rq post1 => ?_⟩
  refine ⟨S1, io1, env, rel1, er.mono ex1 l1, post1.out fun q S2 io2 H2 u ex2 l2 rel2 rs post2 => ?_⟩
  have rp2 := (rp.mono ex1 l1).mono ex2 l2
  have rq2 := rq.mono ex2 l2
  have er2 := (er.mono ex1 l1).mono ex2 l2
  split at post2
  · rename_i a kk
    obtain ⟨_, rfl⟩ := rq2
    cases rs
    split at post2
    · rename_i xs e1
      split at post2
      · rename_i j e2
        obtain ⟨vs, h1, h2⟩ := rel2.lst e1
        obtain ⟨rel3, ex3⟩ := rel2.put (o := .lst (vs.set j v)) (q := .lst (xs.set j x)) e1 rfl rfl fun ex => ⟨_, upd_same, (h2.set rp2 j).mono ex (Nat.le_refl _)⟩
        refine ⟨_, vs, kk, j, rfl, rfl, h1, by rw [h2.length]; exact e2, post2 io2 _ σ ex3 (by simp) rel3 ?_⟩
        rw [List.length_set]
        exact er2.mono ex3 (Nat.le_refl _)
      · exact post2.elim
    · exact post2.elim
  · exact post2.elim
theorem iSetf {x : Str} {cs : List Nat} {o e : E} {gl : Nat → PV} {gf : Nat → Env → Sto → Res PV} {D : Ends} {σ : L2.St} {H : Hp} (P : PG X.prog X.w X.K X.mg X.base T R k cf gl G) (hs : setfB G x cs = true) (h : LS X.K T W (evS ⟨cf, gl, gf⟩ (.setf o x cs e)) D σ H) :
    L2.sFld X.K (LE X T W (ev ⟨cf, gl, gf⟩ o)) (LE X T W (ev ⟨cf, gl, gf⟩ e)) x D σ H := by
  obtain ⟨S, io, env, rel, er, post⟩ := h
  simp only [evS] at post
  refine PostS.head rel er post fun S io H v y rel er rv post => ?_
  refine ⟨S, io, env, rel, er, post.out fun p S1 io1 H1 w ex1 l1 rel1 rp post1 => ?_⟩
  have rv1 := rv.mono ex1 l1
  have er1 := er.mono ex1 l1
  split at post1
  · rename_i a
    obtain ⟨_, rfl⟩ := rp
    split at post1
    · rename_i c fs e1
      split at post1
      · rename_i hc
        simp only [Bool.and_eq_true, decide_eq_true_eq] at hc
        obtain ⟨dx, xs, h1, h2⟩ := rel1.ins e1
        have hm := List.all_eq_true.mp hs c (by simpa using hc.1)
        split at hm
        · rename_i ci ec
          have K := (P.cls c ci ec).cls
          obtain ⟨rel3, ex3⟩ := rel1.put (o := .ins (T.cl c) dx (L2.putF x y xs)) (q := .ins c (putF x v fs)) e1 rfl rfl fun ex => ⟨dx, _, upd_same, (h2.put rv1).mono ex (Nat.le_refl _)⟩
          refine ⟨_, _, dx, xs, rfl, h1, K.cl, K.att x (by simpa using hm), by rw [h2.length]; exact hc.2, post1 io1 _ σ ex3 (by simp) rel3 ?_⟩
          rw [List.length_set]
          exact er1.mono ex3 (Nat.le_refl _)
        · cases hm
      · exact post1.elim
    · exact post1.elim
  · exact post1.elim
theorem iDset {d q e : E} {c : Ctx} {D : Ends} {σ : L2.St} {H : Hp} (h : LS X.K T W (evS c (.dset d q e)) D σ H) : sDPut (LE X T W (ev c d)) (LE X T W (ev c q)) (LE X T W (ev c e)) D σ H := by
  obtain ⟨S, io, env, rel, er, post⟩ := h
  simp only [evS] at post
  refine PostS.head rel er post fun S io H v y rel er rv post => ?_
  refine ⟨S, io, env, rel, er, post.out fun p S1 io1 H1 w ex1 l1 rel1 rp post1 => ?_⟩
  refine ⟨S1, io1, env, rel1, er.mono ex1 l1, post1.out fun q S2 io2 H2 u ex2 l2 rel2 rq post2 => ?_⟩
  have rv2 := (rv.mono ex1 l1).mono ex2 l2
  have rp2 := rp.mono ex2 l2
  have er2 := (er.mono ex1 l1).mono ex2 l2
  split at post2
  · rename_i a
    obtain ⟨_, rfl⟩ := rp2
    split at post2
    · rename_i kvs e1
      split at post2
      · rename_i hk
        simp only [Bool.and_eq_true, decide_eq_true_eq] at hk
        obtain ⟨xs, h1, h2⟩ := rel2.dic e1
        obtain ⟨rel3, ex3⟩ := rel2.put (o := .dK (putK xs (kP q) y)) (q := .dic (putD q v kvs)) e1 rfl rfl fun ex => ⟨_, upd_same, (h2.put hk.1 rv2).mono ex (Nat.le_refl _)⟩
        have eu := kP_V hk.1 rq
        subst eu
        refine ⟨_, _, rfl, .k h1 (by rw [h2.length, line_eq]; exact hk.2), post2 io2 _ σ ex3 (by simp) rel3 ?_⟩
        rw [List.length_set]
        exact er2.mono ex3 (Nat.le_refl _)
      · exact post2.elim
    · exact post2.elim
  · exact post2.elim
theorem attr_swap {v o : Expr} {f : Str} {p : Pos} {l : Nat} {env : PySem.Env} : swapsWith v (some (.Attribute o f p)) l env = pure false := by
  cases v <;> rfl
theorem sub_swap {v o i : Expr} {p : Pos} {l : Nat} {env : PySem.Env} : swapsWith v (some (.Subscript o i p)) l env = pure false := by
  cases v <;> rfl
/-- x op= y by pure values -/
theorem aug_ok (o : Op2) : PIp X (toOp o) (fun x y H Q => ∃ S io p q z, Rel X.K T S io H ∧ Rep X.K S.length io H p x ∧ Rep X.K S.length io H q y ∧ augV o p q = some z ∧ ∀ v, Rep X.K S.length io H z v → Q v H) := by
  intro pins s σ H x y v u Q I rx ry h
  obtain ⟨S, io, p, q, z, rel, hp, hq, e, k⟩ := h
  unfold augV at e
  split at e
  · cases hp; cases hq; cases e
    exact iop_add pins s σ H _ _ v u Q I rx ry ⟨_, _, rfl, rfl, k _ rfl⟩
  · cases hp; cases hq; cases e
    exact iop_sub pins s σ H _ _ v u Q I rx ry ⟨_, _, rfl, rfl, k _ rfl⟩
  · cases hp; cases hq
    split at e
    · rename_i hm
      cases e
      exact iop_mul pins s σ H _ _ v u Q I rx ry ⟨_, _, rfl, rfl, mul_ok hm, k _ rfl⟩
    · cases e
  · cases hp; cases hq
    split at e
    · rename_i hl
      cases e
      refine iop_add_str pins s σ H _ _ v u Q I rx ry ⟨_, _, rfl, rfl, by rw [mkS_len, mkS_len, line_eq]; exact hl, ?_⟩
      rw [mkS_app]
      exact k _ rfl
    · cases e
  · cases e
theorem iAug {i : Nat} {o : Op2} {e : E} {c : Ctx} {D : Ends} {σ : L2.St} {H : Hp} (h : LS X.K T W (evS c (.aug i o e)) D σ H) :
    tAug i (LE X T W (ev c e)) (fun x y H Q => ∃ S io p q z, Rel X.K T S io H ∧ Rep X.K S.length io H p x ∧ Rep X.K S.length io H q y ∧ augV o p q = some z ∧ ∀ v, Rep X.K S.length io H z v → Q v H) D σ H := by
  obtain ⟨S, io, env, rel, er, post⟩ := h
  simp only [evS] at post
  split at post
  · rename_i p e1
    obtain ⟨x, h1, h2⟩ := er.2 i p e1
    refine ⟨x, h1, S, io, env, rel, er, post.out fun q S1 io1 H1 w ex1 l1 rel1 rq post1 => ?_⟩
    split at post1
    · rename_i z e2
      refine ⟨S1, io1, p, q, z, rel1, h2.mono ex1 l1, rq, e2, fun v rv => ?_⟩
      exact post1 io1 H1 _ .refl (Nat.le_refl _) rel1 ((er.mono ex1 l1).set rv)
    · exact post1.elim
  · exact post.elim
theorem iWhile {t : TM.T} {b : List TM.S} {c : Ctx} {D : Ends} {σ : L2.St} {H : Hp} (h : LS X.K T W (evS c (.whl t b)) D σ H) : tWhile (LT X T W (evT c t)) (LS X.K T W (evB c b)) D σ H := by
  obtain ⟨S, io, env, rel, er, post⟩ := h
  simp only [evS] at post
  refine ⟨fun m σ H => ∃ S io env, Rel X.K T S io H ∧ EnvR X.K S.length io H env σ ∧ PostS X.K T W D S io H (whlN (evT c t) (evB c b) m env S), ⟨FU, S, io, env, rel, er, post⟩, fun m σ H hW => ?_⟩
  clear post rel er
  obtain ⟨S, io, env, rel, er, post⟩ := hW
  cases m with
  | zero => exact post.elim
  | succ m =>
    simp only [whlN] at post
    refine PostS.head rel er post fun S io H b' v rel er rp post => ?_
    have rp : v = b' := rp
    subst rp
    cases v with
    | false =>
      refine iteF ?_
      simp only [Bool.false_eq_true, if_false] at post
      exact post io H σ .refl (Nat.le_refl _) rel er
    | true =>
      refine iteT ?_
      simp only [if_true] at post
      refine ⟨fun σ' H' => ∃ S io env, Rel X.K T S io H' ∧ EnvR X.K S.length io H' env σ' ∧ PostS X.K T W D S io H' (whlN (evT c t) (evB c b) m env S), fun σ' H' hN => ⟨m, Nat.lt_succ_self m, hN⟩, S, io, env, rel, er, ?_⟩
      cases e1 : evB c b env S with
      | nx env' S' =>
        rw [e1] at post
        exact fun io' H' σ' ex l rel' er' => ⟨S', io', env', rel', er', post.start ex l⟩
      | cnt env' S' =>
        rw [e1] at post
        exact fun io' H' σ' ex l rel' er' => ⟨S', io', env', rel', er', post.start ex l⟩
      | brk env' S' =>
        rw [e1] at post
        exact post
      | ret p S' =>
        rw [e1] at post
        exact post
      | exc x S' =>
        rw [e1] at post
        exact post
      | bad =>
        rw [e1] at post
        exact post
theorem enumL_get : ∀ (cs : List Nat) (k i : Nat), (enumL k cs)[i]? = (cs[i]?).map fun c => PV.tup [.int ((k + i : Nat) : Int), .str [c]]
  | [], k, i => by simp [enumL]
  | c :: cs, k, 0 => by simp [enumL]
  | c :: cs, k, i + 1 => by
    simp only [enumL, List.getElem?_cons_succ]
    rw [enumL_get cs (k + 1) i, show k + 1 + i = k + (i + 1) by omega]
theorem zipL_get : ∀ (xs ys : List PV) (i : Nat), (zipL xs ys)[i]? = match xs[i]?, ys[i]? with
    | some x, some y => some (.tup [x, y])
    | _, _ => none
  | [], ys, i => by simp [zipL]
  | x :: xs, [], i => by
    simp only [zipL, List.getElem?_nil]
    cases (x :: xs)[i]? <;> rfl
  | x :: xs, y :: ys, 0 => rfl
  | x :: xs, y :: ys, i + 1 => by
    simp only [zipL, List.getElem?_cons_succ]
    exact zipL_get xs ys i
/-- a turn of what is walked -/
theorem walk_turn {w : Wk} {S : Sto} {io : Nat → Addr} {H : Hp} {i : Nat} {J : L2.It} (rel : Rel X.K T S io H) (hj : JR X.K S.length io H w J) :
    (w.at i S = some none → J.stop i H) ∧ ∀ x, w.at i S = some (some x) → J.go i H ∧ ∀ v H', J.yld i H v H' → Rel X.K T S io H' ∧ Ex S.length io H io H' ∧ Rep X.K S.length io H' x v := by
  cases w with
  | obj j =>
    obtain ⟨hl, rfl⟩ := hj
    simp only [Wk.at]
    split
    · rename_i xs e
      obtain ⟨vs, h1, h2⟩ := rel.sq e
      refine ⟨fun hh => ?_, fun x hx => ?_⟩
      · refine ⟨vs, h1, ?_⟩
        have := List.getElem?_eq_none_iff.mp (Option.some.inj hh)
        rw [h2.length]; exact this
      · obtain ⟨v, h3, h4⟩ := h2.get (Option.some.inj hx)
        refine ⟨⟨vs, v, h1, h3⟩, fun v' H' hy => ?_⟩
        obtain ⟨rfl, hy⟩ := hy
        have := hy vs h1
        rw [h3] at this
        cases this
        exact ⟨rel, .refl, h4⟩
    · exact ⟨fun hh => by simp at hh, fun x hx => by simp at hx⟩
  | seq xs =>
    simp only [Wk.at]
    rcases hj with ⟨a, vs, rfl, h1, h2⟩ | ⟨cs, rfl, rfl⟩ | ⟨cs, rfl, rfl⟩ | ⟨cs, ds, rfl, rfl⟩ | ⟨a, b, us, vs, ps, qs, rfl, h1, h2, h3, h4, rfl⟩
    · refine ⟨fun hh => ?_, fun x hx => ?_⟩
      · refine ⟨vs, h1, ?_⟩
        have := List.getElem?_eq_none_iff.mp (Option.some.inj hh)
        rw [h2.length]; exact this
      · obtain ⟨v, h3, h4⟩ := h2.get (Option.some.inj hx)
        refine ⟨⟨vs, v, h1, h3⟩, fun v' H' hy => ?_⟩
        obtain ⟨rfl, hy⟩ := hy
        have := hy vs h1
        rw [h3] at this
        cases this
        exact ⟨rel, .refl, h4⟩
    · have sz : (mkS cs).cps.size = cs.length := by simp [mkS]
      refine ⟨fun hh => ?_, fun x hx => ?_⟩
      · have := List.getElem?_eq_none_iff.mp (Option.some.inj hh)
        show (mkS cs).cps.size ≤ i
        rw [sz]
        simpa using this
      · have hx := Option.some.inj hx
        rw [List.getElem?_map] at hx
        cases e : cs[i]? with
        | none => rw [e] at hx; cases hx
        | some cc =>
          rw [e] at hx
          cases hx
          have hl := (List.getElem?_eq_some_iff.mp e).1
          refine ⟨by show i < (mkS cs).cps.size; rw [sz]; exact hl, fun v' H' hy => ?_⟩
          obtain ⟨rfl, c2, hc, rfl⟩ := hy
          refine ⟨rel, .refl, ?_⟩
          have : (mkS cs).cps[i]? = some cc := by simpa [mkS] using e
          rw [this] at hc
          cases hc
          rfl
    · have sz : (mkS cs).cps.size = cs.length := by simp [mkS]
      have hen := enumL_get cs 0 i
      refine ⟨fun hh => ?_, fun x hx => ?_⟩
      · have hh := Option.some.inj hh
        rw [hen] at hh
        show (mkS cs).cps.size ≤ i
        rw [sz]
        simpa using hh
      · have hx := Option.some.inj hx
        rw [hen] at hx
        cases e : cs[i]? with
        | none => rw [e] at hx; cases hx
        | some cc =>
          rw [e] at hx
          cases hx
          have hl := (List.getElem?_eq_some_iff.mp e).1
          refine ⟨by show i < (mkS cs).cps.size; rw [sz]; exact hl, fun v' H' hy => ?_⟩
          obtain ⟨T1, c2, rfl, hn, rfl, hc⟩ := hy
          have : (mkS cs).cps[i]? = some cc := by simpa [mkS] using e
          rw [this] at hc
          cases hc
          obtain ⟨rel', ex⟩ := rel.fresh (o := .tup [.int (i : Nat), .str ⟨#[cc]⟩]) hn
          refine ⟨rel', ex, T1, _, rfl, .inl (.inl upd_same), Reps.cons ?_ (Reps.cons rfl Reps.nil)⟩
          show V.int _ = V.int _
          simp
    · have sz : ∀ cs, (mkS cs).cps.size = cs.length := fun cs => by simp [mkS]
      rw [zipL_get, List.getElem?_map, List.getElem?_map]
      refine ⟨fun hh => ?_, fun x hx => ?_⟩
      · show (mkS cs).cps.size ≤ i ∨ (mkS ds).cps.size ≤ i
        rw [sz, sz]
        cases e : cs[i]? with
        | none => exact .inl (List.getElem?_eq_none_iff.mp e)
        | some c =>
          cases e2 : ds[i]? with
          | none => exact .inr (List.getElem?_eq_none_iff.mp e2)
          | some d => rw [e, e2] at hh; simp at hh
      · cases e : cs[i]? with
        | none => rw [e] at hx; simp at hx
        | some c =>
          cases e2 : ds[i]? with
          | none => rw [e, e2] at hx; simp at hx
          | some d =>
            rw [e, e2] at hx
            simp only [Option.map_some, Option.some.injEq] at hx
            subst hx
            have l1 := (List.getElem?_eq_some_iff.mp e).1
            have l2 := (List.getElem?_eq_some_iff.mp e2).1
            refine ⟨⟨by rw [sz]; exact l1, by rw [sz]; exact l2⟩, fun v' H' hy => ?_⟩
            obtain ⟨T1, c2, d2, rfl, hn, rfl, hc, hd⟩ := hy
            have z1 : (mkS cs).cps[i]? = some c := by simpa [mkS] using e
            have z2 : (mkS ds).cps[i]? = some d := by simpa [mkS] using e2
            rw [z1] at hc; rw [z2] at hd
            cases hc; cases hd
            obtain ⟨rel', ex⟩ := rel.fresh (o := .tup [.str ⟨#[c]⟩, .str ⟨#[d]⟩]) hn
            exact ⟨rel', ex, T1, _, rfl, .inl (.inl upd_same), Reps.cons rfl (Reps.cons rfl Reps.nil)⟩
    · rw [zipL_get]
      refine ⟨fun hh => ?_, fun x hx => ?_⟩
      · refine ⟨us, vs, h1, h2, ?_⟩
        rw [h3.length, h4.length]
        cases e : ps[i]? with
        | none => exact .inl (List.getElem?_eq_none_iff.mp e)
        | some c =>
          cases e2 : qs[i]? with
          | none => exact .inr (List.getElem?_eq_none_iff.mp e2)
          | some d => rw [e, e2] at hh; simp at hh
      · cases e : ps[i]? with
        | none => rw [e] at hx; simp at hx
        | some p =>
          cases e2 : qs[i]? with
          | none => rw [e, e2] at hx; simp at hx
          | some q =>
            rw [e, e2] at hx
            simp only [Option.some.injEq] at hx
            subst hx
            obtain ⟨y, k1, k2⟩ := h3.get e
            obtain ⟨z, k3, k4⟩ := h4.get e2
            refine ⟨⟨us, vs, y, z, h1, h2, k1, k3⟩, fun v' H' hy => ?_⟩
            obtain ⟨T1, y', z', rfl, hn, rfl, g1, g2⟩ := hy
            have g1 := g1 us h1
            have g2 := g2 vs h2
            rw [k1] at g1; rw [k3] at g2
            cases g1; cases g2
            obtain ⟨rel', ex⟩ := rel.fresh (o := .tup [y, z]) hn
            exact ⟨rel', ex, T1, _, rfl, .inl (.inl upd_same), Reps.cons (k2.mono ex (Nat.le_refl _)) (Reps.cons (k4.mono ex (Nat.le_refl _)) Reps.nil)⟩
  | zip j1 j2 =>
    obtain ⟨_, _, rfl⟩ := hj
    simp only [Wk.at]
    split
    · rename_i ps qs e1 e2
      obtain ⟨us, h1, h3⟩ := rel.sq e1
      obtain ⟨vs, h2, h4⟩ := rel.sq e2
      refine ⟨fun hh => ?_, fun x hx => ?_⟩
      · refine ⟨us, vs, h1, h2, ?_⟩
        rw [h3.length, h4.length]
        cases e : ps[i]? with
        | none => exact .inl (List.getElem?_eq_none_iff.mp e)
        | some c =>
          cases e2 : qs[i]? with
          | none => exact .inr (List.getElem?_eq_none_iff.mp e2)
          | some d => rw [e, e2] at hh; simp at hh
      · cases e : ps[i]? with
        | none => rw [e] at hx; simp at hx
        | some p =>
          cases e2 : qs[i]? with
          | none => rw [e, e2] at hx; simp at hx
          | some q =>
            rw [e, e2] at hx
            simp only [Option.some.injEq] at hx
            subst hx
            obtain ⟨y, k1, k2⟩ := h3.get e
            obtain ⟨z, k3, k4⟩ := h4.get e2
            refine ⟨⟨us, vs, y, z, h1, h2, k1, k3⟩, fun v' H' hy => ?_⟩
            obtain ⟨T1, y', z', rfl, hn, rfl, g1, g2⟩ := hy
            have g1 := g1 us h1
            have g2 := g2 vs h2
            rw [k1] at g1; rw [k3] at g2
            cases g1; cases g2
            obtain ⟨rel', ex⟩ := rel.fresh (o := .tup [y, z]) hn
            exact ⟨rel', ex, T1, _, rfl, .inl (.inl upd_same), Reps.cons (k2.mono ex (Nat.le_refl _)) (Reps.cons (k4.mono ex (Nat.le_refl _)) Reps.nil)⟩
    · exact ⟨fun hh => by simp at hh, fun x hx => by simp at hx⟩
  | rng lo m =>
    have hj : J = Itr lo m := hj
    subst hj
    simp only [Wk.at]
    refine ⟨fun hh => ?_, fun x hx => ?_⟩
    · split at hh
      · simp at hh
      · show m ≤ i; omega
    · split at hx
      · rename_i hl
        simp only [Option.some.injEq] at hx
        subst hx
        refine ⟨hl, fun v' H' hy => ?_⟩
        obtain ⟨rfl, rfl⟩ := hy
        exact ⟨rel, .refl, rfl⟩
      · simp at hx
theorem iFor {p : Pat} {it : TM.It} {b : List TM.S} {c : Ctx} {D : Ends} {σ : L2.St} {H : Hp} (h : LS X.K T W (evS c (.for p it b)) D σ H) : tFor (LI X T W (evI c it)) (gL X.K T p) (LS X.K T W (evB c b)) D σ H := by
  obtain ⟨S, io, env, rel, er, post⟩ := h
  simp only [evS] at post
  refine PostS.head rel er post fun S io H w J rel er hj post => ?_
  refine ⟨fun i m σ H => ∃ S io env, Rel X.K T S io H ∧ EnvR X.K S.length io H env σ ∧ JR X.K S.length io H w J ∧ PostS X.K T W D S io H (forN w p (evB c b) m i env S), ⟨FU, S, io, env, rel, er, hj, post⟩, fun i m σ H hW => ?_⟩
  clear post rel er hj
  obtain ⟨S, io, env, rel, er, hj, post⟩ := hW
  cases m with
  | zero => exact post.elim
  | succ m =>
    simp only [forN] at post
    obtain ⟨t1, t2⟩ := walk_turn (i := i) rel hj
    cases e0 : w.at i S with
    | none => rw [e0] at post; exact post.elim
    | some o =>
      rw [e0] at post
      cases o with
      | none => exact .inl ⟨t1 e0, post io H σ .refl (Nat.le_refl _) rel er⟩
      | some x =>
        obtain ⟨g1, g2⟩ := t2 x e0
        refine .inr ⟨g1, fun σ' H' => ∃ S io env, Rel X.K T S io H' ∧ EnvR X.K S.length io H' env σ' ∧ JR X.K S.length io H' w J ∧ PostS X.K T W D S io H' (forN w p (evB c b) m (i + 1) env S), fun σ' H' hN => ⟨m, Nat.lt_succ_self m, hN⟩, fun v H' hy => ?_⟩
        obtain ⟨rel', ex', rv⟩ := g2 v H' hy
        replace er := er.mono ex' (Nat.le_refl _)
        replace hj := hj.mono ex' (Nat.le_refl _)
        replace post := post.start ex' (Nat.le_refl _)
        replace rel := rel'
        simp only at post
        split at post
        · exact post.elim
        · rename_i env1 e1
          refine ⟨S, io, env, x, env1, rel, er, rv, e1, fun σ1 er1 _ => ⟨S, io, env1, rel, er1, ?_⟩⟩
          cases e2 : evB c b env1 S with
          | nx env' S' =>
            rw [e2] at post
            exact fun io' H' σ' ex l rel' er' => ⟨S', io', env', rel', er', hj.mono ex l, post.start ex l⟩
          | cnt env' S' =>
            rw [e2] at post
            exact fun io' H' σ' ex l rel' er' => ⟨S', io', env', rel', er', hj.mono ex l, post.start ex l⟩
          | brk env' S' => rw [e2] at post; exact post
          | ret p S' => rw [e2] at post; exact post
          | exc x S' => rw [e2] at post; exact post
          | bad => rw [e2] at post; exact post
theorem iSeq {s : TM.S} {ss : List TM.S} {c : Ctx} {D : Ends} {σ : L2.St} {H : Hp} (h : LS X.K T W (evB c (s :: ss)) D σ H) : tSeq (LS X.K T W (evS c s)) (LS X.K T W (evB c ss)) D σ H := by
  obtain ⟨S, io, env, rel, er, post⟩ := h
  simp only [evB] at post
  refine ⟨S, io, env, rel, er, ?_⟩
  cases e : evS c s env S with
  | nx env' S' =>
    rw [e] at post
    exact fun io' H' σ' ex l rel' er' => ⟨S', io', env', rel', er', post.start ex l⟩
  | brk env' S' => rw [e] at post; exact post
  | cnt env' S' => rw [e] at post; exact post
  | ret p S' => rw [e] at post; exact post
  | exc x S' => rw [e] at post; exact post
  | bad => rw [e] at post; exact post
theorem par_swap {x y : Str} {px py pt pt2 : Pos} {kt k2 : Nat} {a b : Expr} {env : PySem.Env} (hk : env.scope.kind = .function) (hx : env.scope.names.lookup x = some .local) (hy : env.scope.names.lookup y = some .local) (hl : py.line = px.line) (hn : x ≠ y)
    (pa : plainE a = true) (pb : plainE b = true) (hf : [a, b].all (foldedForSure 8) = false) (hc : [a, b].all (constantsAlone 8) = false) : swappedStores [.Tuple [.Name x px, .Name y py] kt pt] (.Tuple [a, b] k2 pt2) env = pure (some [x, y]) := by
  have kx : env.kindOf x = some .local := hx
  have ky : env.kindOf y = some .local := hy
  have hb : env.blockKind = .function := by unfold Env.blockKind; rw [hk]; rfl
  have ne : (y == x) = false := beq_eq_false_iff_ne.mpr fun e => hn e.symm
  unfold swappedStores
  simp only [hb, hf, hc, kx, ky, hl, Expr.pos, List.length_cons, List.length_nil, List.head?_cons, Option.map_some, Option.getD_some, List.filterMap_cons, List.filterMap_nil, beq_self_eq_true, Bool.and_self, if_true, Bool.false_eq_true, if_false, Bool.or_false, Bool.not_true, bne_self_eq_false, Bool.true_or]
  have ed : ([x, y] : List Str).eraseDups = [x, y] := by
    simp [List.eraseDups_cons, ne]
    try exact fun e => hn e.symm
  rw [ed]
  rw [if_neg fun z => ?_]
  · rfl
  · rw [List.any_eq_true] at z
    obtain ⟨e, he, ht⟩ := z
    have he : e = a ∨ e = b := by simpa using he
    have pe : plainE e = true := by rcases he with rfl | rfl <;> assumption
    cases e <;> first | exact Bool.noConfusion ht | exact Bool.noConfusion pe
theorem sPar {p : Pat} {e : E} {t v : Expr} {pos : Pos} (C : Cok X k T R W N sc) (P : PG X.prog X.w X.K X.mg X.base T R k cf gl G) (Hg : ∀ g a, gk g a = true → PE X a (LE X T W (gf g))) (h : parB gk N sc G p e t v = true) :
    L2.PS X (.Assign [t] v pos) (LS X.K T W (evS ⟨cf, gl, gf⟩ (.set p e))) := by
  unfold parB at h
  split at h
  · split at h
    · split at h
      · rename_i i j e1 e2 _ x px y py kt pt _ v1 v2 k2 pt2
        simp only [Bool.and_eq_true, decide_eq_true_eq, Bool.not_eq_true'] at h
        obtain ⟨⟨⟨⟨⟨⟨⟨⟨⟨⟨⟨⟨⟨h1, h2⟩, h3⟩, h4⟩, h5⟩, h6⟩, h7⟩, h8⟩, h9⟩, h10⟩, h11⟩, h12⟩, h13⟩, h14⟩ := h
        refine PS.imp (ps_par C.calm (by rw [C.hN]; exact C.nd) (slot_of C h2) (slot_of C h3) h1 (by rw [C.hsc]; exact h4) (by rw [C.hsc]; exact h5) (pa_cons (sE C P Hg e1 _ h13) (pa_cons (sE C P Hg e2 _ h14) pa_nil (star_cons h10)) (star_cons h9))
          (par_swap (by rw [C.hsc]; exact h6) (by rw [C.hsc]; exact h4) (by rw [C.hsc]; exact h5) h7 h8 h9 h10 h11 h12)) fun D σ H h => ?_
        obtain ⟨S, io, env, rel, er, post⟩ := h
        simp only [evS, ev, evs] at post
        cases q1 : ev ⟨cf, gl, gf⟩ e1 env S with
        | bad => rw [q1] at post; exact post.elim
        | exc x' S' => exact ⟨S, io, env, rel, er, by rw [q1] at post ⊢; exact post⟩
        | ok a S1 =>
          refine ⟨S, io, env, rel, er, ?_⟩
          rw [q1] at post ⊢
          intro io1 H1 w1 ex1 l1 rel1 r1
          replace post := post.start ex1 l1
          replace er := er.mono ex1 l1
          simp only [Res.bind_ok] at post
          cases q2 : ev ⟨cf, gl, gf⟩ e2 env S1 with
          | bad => rw [q2] at post; exact post.elim
          | exc x' S' => exact ⟨S1, io1, env, rel1, er, by rw [q2] at post ⊢; exact post⟩
          | ok b S2 =>
            refine ⟨S1, io1, env, rel1, er, ?_⟩
            rw [q2] at post ⊢
            intro io2 H2 w2 ex2 l2 rel2 r2
            replace post := post.start ex2 l2
            replace er := er.mono ex2 l2
            replace r1 := r1.mono ex2 l2
            simp only [Res.bind_ok, List.length_cons, List.length_nil] at post
            rw [if_pos (by decide)] at post
            simp only [Res.out_ok, bindP, bindPs] at post
            have li : i < env.length ∧ j < env.length := by
              by_cases hi : i < env.length
              · by_cases hj : j < env.length
                · exact ⟨hi, hj⟩
                · simp [hi, hj] at post
                  exact post.elim
              · simp [hi] at post
                exact post.elim
            simp only [li.1, li.2, if_true, List.length_set] at post
            exact ⟨w1, w2, rfl, post io2 H2 _ .refl (Nat.le_refl _) rel2 ((er.set r1).set r2)⟩
      · cases h
    · cases h
  · cases h
mutual
theorem sS (C : Cok X k T R W N sc) (CP : CokP X N sc) (P : PG X.prog X.w X.K X.mg X.base T R k cf gl G) (Hg : ∀ g a, gk g a = true → PE X a (LE X T W (gf g))) (Ha : ∀ g i a, ga g i a = true → L2.PS X a (LS X.K T W (evS ⟨cf, gl, gf⟩ (.set (.nm i) (.gcall g))))) : ∀ (s : TM.S) (a : Stmt), ckS gk ga N sc G s a = true → L2.PS X a (LS X.K T W (evS ⟨cf, gl, gf⟩ s))
  | .never, a, _ => ⟨fun _ _ _ _ _ _ h => by obtain ⟨_, _, _, _, _, h⟩ := h; exact h.elim⟩
  | .pass, a, h => by
    simp only [ckS] at h
    split at h
    · refine PS.imp ps_pass fun D σ H h => ?_
      obtain ⟨S, io, env, rel, er, post⟩ := h
      exact post io H σ .refl (Nat.le_refl _) rel er
    · cases h
  | .brk, a, h => by
    simp only [ckS] at h
    split at h
    · refine PS.imp ps_break fun D σ H h => ?_
      obtain ⟨S, io, env, rel, er, post⟩ := h
      exact post io H σ .refl (Nat.le_refl _) rel er
    · cases h
  | .cnt, a, h => by
    simp only [ckS] at h
    split at h
    · refine PS.imp ps_continue fun D σ H h => ?_
      obtain ⟨S, io, env, rel, er, post⟩ := h
      exact post io H σ .refl (Nat.le_refl _) rel er
    · cases h
  | .set p e, a, h => by
    simp only [ckS] at h
    split at h
    · simp only [Bool.or_eq_true] at h
      rcases h with (h | h) | h
      · simp only [Bool.and_eq_true, Bool.or_eq_true] at h
        exact PS.imp (ps_asg (sE C P Hg e _ h.2) (sP CP p _ h.1.2) (sole_swap h.1.1.1) (sole_stores (by simpa using h.1.1.2)) (sole_each h.1.2)) fun D σ H h => iSet h
      · exact sPar C P Hg h
      · split at h
        · exact Ha _ _ _ h
        · cases h
    · cases h
  | .seti o i e, a, h => by
    simp only [ckS] at h
    split at h
    · simp only [Bool.and_eq_true] at h
      exact PS.imp (ps_asg (sE C P Hg e _ h.2) (pg_sub (sE C P Hg o _ h.1.1.2) (sE C P Hg i _ h.1.2) set_list (sub_assign h.1.1.1.2)) (sole_swap h.1.1.1.1) (by rfl) (by rfl)) fun D σ H h => iSeti h
    · cases h
  | .setf o x cs e, a, h => by
    simp only [ckS] at h
    split at h
    · simp only [Bool.and_eq_true, decide_eq_true_eq] at h
      obtain ⟨⟨⟨h1, h2⟩, h3⟩, h4⟩ := h
      subst h1
      exact PS.imp (ps_fld (sE C P Hg o _ h3) (sE C P Hg e _ h4) attr_swap) fun D σ H h => iSetf P h2 h
    · cases h
  | .dset d q e, a, h => by
    simp only [ckS] at h
    split at h
    · simp only [Bool.and_eq_true] at h
      obtain ⟨⟨⟨h1, h2⟩, h3⟩, h4⟩ := h
      exact PS.imp (ps_dput (unit1 C) (sE C P Hg d _ h2) (sE C P Hg q _ h3) (sE C P Hg e _ h4) sub_swap) fun D σ H h => iDset h
    · cases h
  | .aug i o e, a, h => by
    simp only [ckS] at h
    split at h
    · simp only [Bool.and_eq_true, decide_eq_true_eq] at h
      obtain ⟨⟨⟨rfl, h2⟩, h3⟩, h4⟩ := h
      exact PS.imp (ps_aug (by rw [C.hN]; exact C.nd) (slot_of C h2) (CP.loc _ h3).1 (sE C P Hg e _ h4) (aug_ok (T := T) o) (CP.loc _ h3).2) fun D σ H h => iAug h
    · cases h
  | .expr e, a, h => by
    simp only [ckS] at h
    split at h
    · simp only [Bool.and_eq_true] at h
      refine PS.imp (ps_expr (sE C P Hg e _ h.2) (noComp_swap h.1)) fun D σ H h => ?_
      obtain ⟨S, io, env, rel, er, post⟩ := h
      simp only [evS] at post
      exact PostS.head rel er post fun S io H p v rel er rp post => post io H σ .refl (Nat.le_refl _) rel er
    · cases h
  | .ret e, a, h => by
    simp only [ckS] at h
    split at h
    · refine PS.imp (ps_ret (sE C P Hg e _ h)) fun D σ H h => ?_
      obtain ⟨S, io, env, rel, er, post⟩ := h
      simp only [evS] at post
      exact PostS.head rel er post fun S io H p v rel er rp post => post io H v .refl (Nat.le_refl _) rel rp
    · cases h
  | .retn, a, h => by
    simp only [ckS] at h
    split at h
    · refine PS.imp ps_retN fun D σ H h => ?_
      obtain ⟨S, io, env, rel, er, post⟩ := h
      exact post io H .non .refl (Nat.le_refl _) rel rfl
    · cases h
  | .ite t p q, a, h => by
    simp only [ckS] at h
    split at h
    · simp only [Bool.and_eq_true] at h
      refine PS.imp (ps_if (sT C P Hg t _ h.1.1) (sB C CP P Hg Ha p _ h.1.2) (sB C CP P Hg Ha q _ h.2)) fun D σ H h => ?_
      obtain ⟨S, io, env, rel, er, post⟩ := h
      simp only [evS] at post
      refine PostS.head rel er post fun S io H b v rel er rp post => ?_
      have rp : v = b := rp
      subst rp
      cases v with
      | true => exact iteT ⟨S, io, env, rel, er, post⟩
      | false => exact iteF ⟨S, io, env, rel, er, post⟩
    · cases h
  | .whl t b, a, h => by
    simp only [ckS] at h
    split at h
    · simp only [Bool.and_eq_true] at h
      exact PS.imp (ps_while C.own (sT C P Hg t _ h.1) (sB C CP P Hg Ha b _ h.2)) fun D σ H h => iWhile h
    · cases h
  | .for p it b, a, h => by
    simp only [ckS] at h
    split at h
    · rename_i i x _
      simp only [Bool.and_eq_true] at h
      have hpl : ∀ v, foldedSetIterable i X.env v = pure v := by
        have h2 := h.1.2
        cases it with
        | zip e f =>
          simp only [ckI] at h2
          split at h2
          · intro v; rfl
          · cases h2
        | enum e =>
          simp only [ckI] at h2
          split at h2
          · intro v; rfl
          · cases h2
        | e e =>
          simp only [ckI, Bool.and_eq_true] at h2
          intro v
          cases i <;> first | rfl | cases h2.2
        | rng1 e =>
          simp only [ckI] at h2
          split at h2
          · intro v; rfl
          · cases h2
        | rng2 e f =>
          simp only [ckI] at h2
          split at h2
          · intro v; rfl
          · cases h2
      exact PS.imp (ps_for C.own C.calm (sI C P Hg h.1.2 h.1.1.2) (sP CP p _ h.1.1.1) (sB C CP P Hg Ha b _ h.2) hpl) fun D σ H h => iFor h
    · cases h
theorem sB (C : Cok X k T R W N sc) (CP : CokP X N sc) (P : PG X.prog X.w X.K X.mg X.base T R k cf gl G) (Hg : ∀ g a, gk g a = true → PE X a (LE X T W (gf g))) (Ha : ∀ g i a, ga g i a = true → L2.PS X a (LS X.K T W (evS ⟨cf, gl, gf⟩ (.set (.nm i) (.gcall g))))) : ∀ (ss : List TM.S) (as : List Stmt), ckB gk ga N sc G ss as = true → L2.PSs X as (LS X.K T W (evB ⟨cf, gl, gf⟩ ss))
  | [], [], _ => PSs.imp pss_nil fun D σ H h => by
      obtain ⟨S, io, env, rel, er, post⟩ := h
      exact post io H σ .refl (Nat.le_refl _) rel er
  | [], _ :: _, h => by simp [ckB] at h
  | _ :: _, [], h => by simp [ckB] at h
  | s :: ss, a :: as, h => by
    simp only [ckB, Bool.and_eq_true] at h
    exact PSs.imp (pss_cons (sS C CP P Hg Ha s a h.1) (sB C CP P Hg Ha ss as h.2)) fun D σ H h => iSeq h
end
end
end TM

/-! A generator expression whose element is any expression: its frame, its turns, all and any of it. -/
namespace TG
open PySem PySem.Spec PyProof.Rows L2 GenW GxR

/-- the generator's names, over those of the def: the def's by their places (a name that is not captured is none of the generator's) -/
structure GNames (N Ng : List Str) (sc scope : Scope) : Prop where
  kind : scope.kind = .function
  co : scope.isCoroutine = false
  cell : ∀ y ∈ scope.names, y.2 ≠ .cell
  dot : scope.names.lookup (".0" : Str) = some NameKind.local
  free : ∀ y ∈ scope.names, y.2 = .free → sc.names.lookup y.1 = some .cell ∨ sc.names.lookup y.1 = some .free
  nd : Ng.Nodup
  len : N.length ≤ Ng.length
  at_ : ∀ (i : Nat) (y : Str), i < N.length → Ng[i]? = some y → Vis scope y → N[i]? = some y ∧ scope.names.lookup y = some .free
  more : ∀ (i : Nat) (y : Str), N.length ≤ i → Ng[i]? = some y → scope.names.lookup y ≠ some .free
theorem GNames.has {X : Cx} {N Ng : List Str} {scope : Scope} (L : GNames N Ng X.env.scope scope) (ok : X.Ok) : ∀ y ∈ scope.names, y.2 = .free → ∃ c, X.env.cells.lookup y.1 = some c := fun y hy e => by
  rcases L.free y hy e with k | k
  · exact ok.has _ (.inl k)
  · exact ok.has _ (.inr k)
/-- the context of the generator's frame -/
def gx (X : Cx) (A : Around) (ce : Env) (Ng : List Str) (s0 : Shared) (H0 : Hp) (fp : List Addr) : Cx where
  prog := X.prog
  w := X.w
  K := X.K
  mg := X.mg
  base := X.base
  A := A.deeper ce
  N := Ng
  s_0 := s0
  H_0 := H0
  env := ce
  outer := X.stack
  stack := ce :: X.stack
  ex := fp
  fn := fun _ => false
  calm := true
  pn := []
  xe := fun _ _ => False
section
variable {X : Cx} {pins : List (Addr × Obj)} {σ : L2.St} {H : Hp} {s4 s5 : Shared}
abbrev gEnv (X : Cx) (scope : Scope) (s4 : Shared) (code : Value) : Env := genEnv scope (cloFrom X.env.cells scope.names []) s4.heap.objs.size code builtinsNs X.env
theorem gx_start {A : Around} {N Ng : List Str} {scope : Scope} {code : Value} {fp : List Addr} {m : Str → Option Value} (I : Inv X pins σ H s4) (hN : X.N = N) (L : GNames N Ng X.env.scope scope) (hfr : A.frames = some X.stack) (hd : A.handled = none)
    (hfp : ∀ b ∈ fp, FpOk X pins H b ∧ b < s4.heap.objs.size ∧ b ∉ frs X.stack) (hns : s5.heap.Ns s4.heap.objs.size m) (kp : ∀ b o, s4.heap.get? b = some o → s5.heap.get? b = some o) (hos : s5.os = s4.os) (hba : AllBare s5.gens) :
    Inv (gx X A (gEnv X scope s4 code) Ng s4 H fp) [] (σ ++ List.replicate (Ng.length - N.length) none) H s5 := by
  have e0 := I.env0
  have hfree := L.has I.ok
  have cm : ∀ {y c}, (cloFrom X.env.cells scope.names []).lookup y = some c → X.env.cells.lookup y = some c := fun {y c} e => NdefX.clo_cm hfree e
  have look : ∀ {y}, scope.names.lookup y = some .free → ∃ c, (cloFrom X.env.cells scope.names []).lookup y = some c := fun {y} hl => by
    have hy : (y, NameKind.free) ∈ scope.names := PySem.mem_of_lookup hl
    exact mem_lookup (cloFrom_has (cells := X.env.cells) (acc := []) hy)
  have cellK : ∀ {c : Addr} {v : Option Value}, s4.heap.IsCell c v → s5.heap.IsCell c v := fun {c v} ⟨o, ho, hd⟩ => ⟨o, kp _ _ ho, hd⟩
  have hσ : σ.length = N.length := by rw [I.len, hN]
  refine ⟨⟨e0.mod, L.kind, I.ok.glob, rfl, Nat.le_refl _, fun y z c e1 e2 => I.ok.inj y z c (cm e1) (cm e2), fun y hy => ?_, fun y c z _ => ?_, fun _ => hd, Around.frames_deeper hfr, .inr ⟨rfl, rfl⟩, fun b hb => ⟨Nat.ne_of_lt (hfp b hb).2.1, fun y c e => (hfp b hb).1.2.2.2.2.1 y c (cm e)⟩, e0.bs, e0.bsz,
      fun b o e hb => ?_, fun b hb => (hfp b hb).2.2, e0.funs, e0.frf⟩,
    hos, hba, Un.kept kp, ⟨_, hns, fun i y v e1 e2 e3 => ?_⟩, fun y c e => ?_, e0.hok.fresh (Nat.le_refl _), fun y c e => ?_, fun q hq => absurd (show q ∈ ([] : List (Addr × Obj)) ++ [] from hq) (by simp), e0.hok.kept kp, ?_⟩
  · have hy : scope.names.lookup y = some .cell ∨ scope.names.lookup y = some .free := hy
    rcases hy with hy | hy
    · exact absurd rfl (L.cell _ (PySem.mem_of_lookup hy))
    · exact look hy
  · have z : false = true := z
    cases z
  · have h1 := (hfp b hb).1.2.2.2.1
    rcases h1 with h1 | h1
    · exact I.ok.noex b o e h1
    · exact absurd (Nat.lt_of_lt_of_le (Heap.lt_size (I.ok.bs b o e).1) h1) (Nat.lt_irrefl _)
  · have e3 : Vis scope y := e3
    have e1 : Ng[i]? = some y := e1
    by_cases hi : i < N.length
    · obtain ⟨hy, k⟩ := L.at_ i y hi e1 e3
      rw [List.getElem?_append_left (by rw [hσ]; exact hi)] at e2
      obtain ⟨m, hn, hl⟩ := I.loc
      have hvis : Vis X.env.scope y := (L.free _ (PySem.mem_of_lookup k) rfl).elim (fun k => .inr (.inl k)) (fun k => .inr (.inr k))
      obtain ⟨w', r, q⟩ := hl i y v (by rw [hN]; exact hy) e2 hvis
      obtain ⟨c2, h2⟩ := look k
      refine ⟨w', r, .inr ⟨.inr k, c2, h2, ?_⟩⟩
      have c1 := cm h2
      rcases q with ⟨k', _⟩ | ⟨_, c3, e', z⟩
      · have k' : X.env.scope.names.lookup y = some .local := k'
        rcases L.free _ (PySem.mem_of_lookup k) rfl with k2 | k2 <;> rw [show X.env.scope.names.lookup y = _ from k2] at k' <;> cases k'
      · rw [c1] at e'
        cases e'
        exact cellK z
    · rw [List.getElem?_append_right (by rw [hσ]; omega), List.getElem?_replicate] at e2
      split at e2 <;> cases e2
  · obtain ⟨w', z⟩ := I.cell y c (cm e)
    exact ⟨w', cellK z⟩
  · exact I.freeC y c (cm e)
  · show _ = Ng.length
    rw [List.length_append, List.length_replicate, hσ]
    have := L.len
    omega
/-- a generator stands ready at a -/
structure Made (X : Cx) (pins : List (Addr × Obj)) (σ : L2.St) (H2 : Hp) (tg elt iter : Expr) (ifs : List Expr) (scope : Scope) (gpos : Pos) (J : It) (a : Addr) (s5 : Shared) where
  s4 : Shared
  code : Value
  it : Addr
  fp : List Addr
  tn : Nat → Heap → Prop
  g : Nat
  inv : Inv X pins σ H2 s4
  turn : Turn X.prog X.w X.K tg J fp it tn
  st : tn 0 s4.heap
  fpo : ∀ b ∈ fp, FpOk X pins H2 b ∧ b < s4.heap.objs.size
  gen : s5.heap.IsGen a g
  gst : s5.gens[g]? = some (.fresh (.compStart (.GeneratorExp elt [⟨tg, iter, ifs, 0⟩] scope gpos) 0 (.ref it) .none (gEnv X scope s4 code)))
  ns : s5.heap.Ns s4.heap.objs.size (fun y => if y = ".0" then some (.ref it) else none)
  kp : ∀ b o, s4.heap.get? b = some o → s5.heap.get? b = some o
  os : s5.os = s4.os
  bare : AllBare s5.gens
  young : s4.heap.objs.size < a
theorem gen_make {c P : Addr} {tg elt iter : Expr} {ifs : List Expr} {scope : Scope} {gpos : Pos} {N Ng : List Str} {wi : TI} {k : Nat} {Q' : Value → Shared → Prop} {R : It → Hp → Prop} {s : Shared}
    (hr : Room k X.A) (TB : TabB X.base X.mg c P) (hcode : X.env.code = .ref c) (L : GNames N Ng X.env.scope scope) (hi : PI X tg iter wi) (hs : ∀ v, genFold iter X.env v = pure v) (I : Inv X pins σ H s)
    (h : wi σ H fun J H1 => TabG H1 P ∧ R J H1) (hQ : ∀ J H1 H2 a s5, R J H1 → Tabbed P H1 H2 → Made X pins σ H2 tg elt iter ifs scope gpos J a s5 → Q' (.ref a) s5) :
    wpAny (model X.prog X.w) X.A (eval (.GeneratorExp elt [⟨tg, iter, ifs, 0⟩] scope gpos) X.env) Q' X.xe s := by
  refine wpAny_GeneratorExp_make L.co (closure_ok (L.has I.ok)) L.cell L.dot L.kind (by have := hr.dp; omega) ?_ hs
  refine thn (hi.run pins s σ H _ I h) fun xv s1 h1 => thn h1 fun itv s2 h2 => ?_
  obtain ⟨it, fp, tn, J, H1, rfl, I2, T, st2, f2, ⟨ps, hP, ht⟩, q1⟩ := h2
  have hPs : s2.heap.get? P = some { cls := .none, data := .fields ps } := I2.hok P _ hP
  have cd : PySem.W.CodeHd s2.heap c P := TB.code.keeps fun b u e => I2.bk b u e
  have nP : ∀ b ∈ fp, b ≠ P := fun b hb z => by
    have := (f2 b hb).1
    rw [z, hP] at this
    cases this
  have flt : ∀ b ∈ fp, b < s2.heap.objs.size := fun b hb => by
    obtain ⟨o, e, _⟩ := T.obj _ _ st2 b hb
    exact Heap.lt_size e
  have cont : ∀ (code : Value) (h3 : Heap) (tk : Nat) (more : Array Value), Heap.ExtBut P s2.heap h3 → s2.heap.objs.size ≤ h3.objs.size → h3.get? P = some { cls := .none, data := .fields (ps ++ more) } → TriplesOk (ps ++ more).toList →
      wpAny (model X.prog X.w) X.A (builtinsFor X.env.globals X.env.builtins) (fun bi s₄ =>
        ∀ h', h'.Ns s₄.heap.objs.size (fun y => if y = ".0" then some (.ref it) else none) → Heap.SameBut s₄.heap.objs.size (s₄.heap.push { cls := .type "frame", data := .dict #[] }) h' →
          Q' (.ref h'.objs.size) { s₄ with
            gens := s₄.gens.push (.fresh (.compStart (.GeneratorExp elt [⟨tg, iter, ifs, 0⟩] scope gpos) 0 (.ref it) .none (genEnv scope (cloFrom X.env.cells scope.names []) s₄.heap.objs.size code bi X.env))),
            toks := s₄.toks + 1 + 1 + 1,
            heap := h'.push { cls := .type "generator", data := .fields #[.int s₄.gens.size 0, .str "<genexpr>" (s₄.toks + 1), .str (X.env.qual ++ "<genexpr>") (s₄.toks + 1 + 1)] } }) X.xe { s2 with heap := h3, toks := tk } := by
    intro code h3 tk more hx sz hP3 ht3
    have J3 : Inv X pins σ (upd H1 P (.tbl (ps ++ more))) { s2 with heap := h3, toks := tk } := inv_tab (d' := s2.drawn) I2 hP (fun b u hb e => hx b u hb e) hP3 I2.bare
    obtain ⟨bm, ob, e1, e2, e3, e4, e5, e6, e7, e8⟩ := TB.bm
    have keep3 : ∀ b u, b ≠ P → s2.heap.get? b = some u → h3.get? b = some u := fun b u hb e => hx b u hb e
    refine wpAny_builtinsFor (m := X.mg) (by rw [I2.ok.glob]; exact (I2.mod.glob.keeps I2.bk).extBut hx TB.gP) e1 e2 (keep3 _ _ e4 (I2.bk _ _ e5)) e6 e7 e8 ?_
    intro h' hn' hs'
    refine hQ J H1 _ _ _ q1 ⟨⟨ps ++ more, upd_same, ht3⟩, fun b hb => upd_ne hb⟩ ⟨_, code, it, fp, tn, s2.gens.size, J3, T, T.keep _ _ _ st2 fun b hb o e => hx b o (nP b hb) e, fun b hb => ⟨⟨?_, (f2 b hb).2⟩, Nat.lt_of_lt_of_le (flt b hb) sz⟩, ?_, ?_, ?_, ?_, rfl, ?_, ?_⟩
    · rw [upd_ne (nP b hb)]
      exact (f2 b hb).1
    · exact ⟨_, _, _, Heap.get?_push_size _ rfl, rfl, rfl, rfl⟩
    · exact Array.getElem?_push_size ..
    · exact hn'.push _
    · intro b o e
      exact Heap.get?_push_of_some _ (hs'.extBut b o (Nat.ne_of_lt (Heap.lt_size e)) (Heap.get?_push_of_some _ e))
    · exact AllBare.push I2.bare rfl
    · rw [hs'.1, Heap.size_push]
      exact Nat.lt_succ_self _
  refine ⟨I2.nolimit, ?_⟩
  cases hf : codeAmong gpos ps.toList with
  | none =>
    refine wpAny_genexprCodeX hcode (cd.code hPs ht) (cd.tab hPs) hf fun c' h' tk hx hge hlt hco' _ htab' _ => ?_
    obtain ⟨o1, vs, f1, tf, fl, tg', inF, tx, tt, op, _, _, _, _, _, _, _, _, _, htr, _⟩ := hco'
    exact cont _ h' tk _ hx (Nat.le_trans hge (Nat.le_of_lt hlt)) htab'.2 htr
  | some cv =>
    refine wpAny_genexprCode_hit hcode (cd.code hPs ht) hf ?_
    have := cont cv s2.heap s2.toks #[] (Heap.ExtBut.refl _ _) (Nat.le_refl _) (by simpa using hPs) (by simpa using ht)
    exact this

/-! ### the turns -/
/-- what the consumer may do while the generator sleeps -/
structure Rs (s s' : Shared) : Prop where
  os : s'.os = s.os
  bare : AllBare s'.gens
  kp : ∀ b o, s.heap.get? b = some o → s'.heap.get? b = some o
/-- the generator's own state ahead of turn i -/
def SG (Xg : Cx) (pg : List (Addr × Obj)) (tn : Nat → Heap → Prop) (fp : List Addr) (i : Nat) (σ : L2.St) (H : Hp) (s : Shared) : Prop := Inv Xg pg σ H s ∧ tn i s.heap ∧ ∀ b ∈ fp, H b = none
theorem SG.slept {Xg : Cx} {pg : List (Addr × Obj)} {tg : Expr} {J : It} {it : Addr} {tn : Nat → Heap → Prop} {fp : List Addr} {i : Nat} {σ : L2.St} {H : Hp} {s s' : Shared} (T : Turn Xg.prog Xg.w Xg.K tg J fp it tn) (h : SG Xg pg tn fp i σ H s) (r : Rs s s') : SG Xg pg tn fp i σ H s' := by
  obtain ⟨I, st, fr⟩ := h
  refine ⟨I.call' (ch := []) r.os (Un.kept r.kp) (I.hok.kept r.kp) r.bare fun b z => by simp at z, T.keep _ _ _ st fun b _ o e => r.kp b o e, fr⟩
/-- what is handed out: the last thing (Df), or one behind which the walk goes on -/
def YG (Xg : Cx) (pg : List (Addr × Obj)) (tn : Nat → Heap → Prop) (fp : List Addr) (Wf : Nat → Nat → L2.St → Hp → Prop) (Go : V → Prop) (Df : V → Hp → Prop) : Protocol := fun nf s₀ v s kap =>
  ∃ i x σ H, SG Xg pg tn fp i σ H s ∧ RelV x v ∧ (Df x H ∨ (Go x ∧ ∃ m, Wf i m σ H ∧ m ≤ nf ∧ ∀ s', Rs s s' → kap (.send .none) s'))
def RG (Xg : Cx) (pg : List (Addr × Obj)) (Dn : L2.St → Hp → Prop) : GenEnd := fun _ _ r s => r = .ok .next ∧ ∃ σ H, Inv Xg pg σ H s ∧ Dn σ H
theorem over_comp {A : Around} {elt iter t : Expr} {scope : Scope} {pos : Pos} {it acc : Value} {env : Env} : A.over (.compLoop (.GeneratorExp elt [⟨t, iter, [], 0⟩] scope pos) 0 it acc env) [] = A.deeper env := by
  obtain ⟨hd, d, fr, gs, u⟩ := A
  simp [Around.over, Around.deeper, marksOver, frameCount, unitsOf, envsOf, guardsOf, pushEnvs, pushGuards, Code.envs, Code.env?, Code.isFrame, Code.guards, Code.isGuard, Code.weight, Code.frames, Code.isCreation, Code.isCaller, Code.cUnits]
theorem over_comp0 {A : Around} {elt iter t : Expr} {scope : Scope} {pos : Pos} {it acc : Value} {env : Env} : A.over (.compStart (.GeneratorExp elt [⟨t, iter, [], 0⟩] scope pos) 0 it acc env) [] = A.deeper env := by
  obtain ⟨hd, d, fr, gs, u⟩ := A
  simp [Around.over, Around.deeper, marksOver, frameCount, unitsOf, envsOf, guardsOf, pushEnvs, pushGuards, Code.envs, Code.env?, Code.isFrame, Code.guards, Code.isGuard, Code.weight, Code.frames, Code.isCreation, Code.isCaller, Code.cUnits]
/-- the turns of the walk, as they must go -/
def Walk (J : It) (g : TG) (te : TE) (Go : V → Prop) (Df : V → Hp → Prop) (Dn : L2.St → Hp → Prop) (Wf : Nat → Nat → L2.St → Hp → Prop) : Prop :=
  ∀ i n σ H, Wf i n σ H → (J.stop i H ∧ Dn σ H) ∨ (J.go i H ∧ 0 < n ∧ ∀ x H', J.yld i H x H' → g x σ H' fun σ2 H2 => te σ2 H2 fun v H3 => Df v H3 ∨ (Go v ∧ ∃ m, m < n ∧ Wf (i + 1) m σ2 H3))
variable {pg : List (Addr × Obj)} {A : Around} {tg elt iter : Expr} {scope : Scope} {gpos : Pos} {J : It} {fp : List Addr} {it : Addr} {tn : Nat → Heap → Prop} {g : TG} {te : TE} {Go : V → Prop} {Df : V → Hp → Prop} {Dn : L2.St → Hp → Prop} {Wf : Nat → Nat → L2.St → Hp → Prop} {Ng : List Str} {ce : Env}
theorem seg_turns (T : Turn X.prog X.w X.K tg J fp it tn) (hfp : ∀ b ∈ fp, b ≠ ce.locals ∧ b ∉ frs X.stack ∧ (∀ y c, ce.cells.lookup y = some c → c ≠ b) ∧ ∀ p ∈ pg, p.1 ≠ b) (hco : ce.scope.isCoroutine = false)
    (hg : PG (gx X A ce Ng s4 H fp) tg g) (he : PE (gx X A ce Ng s4 H fp) elt te) (hW : Walk J g te Go Df Dn Wf) :
    ∀ (nf i n : Nat) (σ : L2.St) (H1 : Hp) (s₀ s : Shared), n ≤ nf → Wf i n σ H1 → SG (gx X A ce Ng s4 H fp) pg tn fp i σ H1 s →
      Seg (model X.prog X.w) A (RG (gx X A ce Ng s4 H fp) pg Dn) (YG (gx X A ce Ng s4 H fp) pg tn fp Wf Go Df) nf s₀
        (.compLoop (.GeneratorExp elt [⟨tg, iter, [], 0⟩] scope gpos) 0 (.ref it) .none ce) ((model X.prog X.w).den (.compLoop (.GeneratorExp elt [⟨tg, iter, [], 0⟩] scope gpos) 0 (.ref it) .none ce)) [] s := by
  intro nf
  induction nf with
  | zero =>
    intro i n σ H1 s₀ s hn hw hs
    obtain ⟨I, st, fr⟩ := hs
    rcases hW i n σ H1 hw with ⟨stop, hd⟩ | ⟨_, h0, _⟩
    · show Seg _ A _ _ _ s₀ _ ((compTurn (.GeneratorExp elt [⟨tg, iter, [], 0⟩] scope gpos) 0 (.ref it) .none ce).onRaise (leaving ce)) [] s
      rw [compTurn_gen, Sem.onRaise_eq_wrap]
      refine seg_bind_wrap (wpAny_standAt ?_)
      refine seg_bind_wrap ?_
      rw [over_comp]
      refine wpAny_mono (T.done (gx X A ce Ng s4 H fp) rfl rfl rfl rfl i pg s σ H1 (fun _ _ => False) I (fun b hb => ⟨fr b hb, (hfp b hb).1, (hfp b hb).2.1, .inl hb, (hfp b hb).2.2.1, fun p hp => (hfp b hb).2.2.2 p (by simpa [gx] using hp)⟩) st stop) (fun r s1 ⟨hr, I1⟩ => ?_) fun _ _ z => z.elim
      subst hr
      refine seg_end (.ok .next) ⟨rfl, σ, H1, I1, hd⟩
    · omega
  | succ nf ih =>
    intro i n σ H1 s₀ s hn hw hs
    obtain ⟨I, st, fr⟩ := hs
    have stat : ∀ {H' : Hp}, (∀ b ∈ fp, H' b = none) → ∀ b ∈ fp, FpOk (gx X A ce Ng s4 H fp) pg H' b := fun hn b hb => ⟨hn b hb, (hfp b hb).1, (hfp b hb).2.1, .inl hb, (hfp b hb).2.2.1, fun p hp => (hfp b hb).2.2.2 p (by simpa [gx] using hp)⟩
    show Seg _ A _ _ _ s₀ _ ((compTurn (.GeneratorExp elt [⟨tg, iter, [], 0⟩] scope gpos) 0 (.ref it) .none ce).onRaise (leaving ce)) [] s
    rw [compTurn_gen, Sem.onRaise_eq_wrap]
    refine seg_bind_wrap (wpAny_standAt ?_)
    refine seg_bind_wrap ?_
    rw [over_comp]
    rcases hW i n σ H1 hw with ⟨stop, hd⟩ | ⟨go, h0, step⟩
    · refine wpAny_mono (T.done (gx X A ce Ng s4 H fp) rfl rfl rfl rfl i pg s σ H1 (fun _ _ => False) I (stat fr) st stop) (fun r s1 ⟨hr, I1⟩ => ?_) fun _ _ z => z.elim
      subst hr
      refine seg_end (.ok .next) ⟨rfl, σ, H1, I1, hd⟩
    · refine wpAny_mono (T.item (gx X A ce Ng s4 H fp) rfl rfl rfl rfl i pg s σ H1 (fun _ _ => False) I (stat fr) st go) (fun r s1 ⟨u, hr, h1⟩ => ?_) fun _ _ z => z.elim
      subst hr
      refine seg_bind_wrap ?_
      rw [over_comp]
      refine wpAny_mono h1 (fun _ s2 ⟨x, H5, I5, r5, y5, st5, fr5⟩ => ?_) fun _ _ z => z.elim
      have I5' := I5.pinned (stat fr5) (T.obj _ _ st5)
      refine seg_bind_wrap ?_
      rw [over_comp]
      refine wpAny_mono (hg.run _ s2 σ H5 x u _ I5' r5 (step x H5 y5)) (fun _ s6 ⟨σ6, H6, I6, q6⟩ => ?_) fun _ _ z => z.elim
      refine seg_bind_wrap ?_
      simp only [List.forIn_nil]
      refine wpAny_pure ?_
      simp only [if_true]
      have hy : ∀ v, yieldOut ce v = yieldValue v := fun v => by simp only [yieldOut, hco, Bool.false_eq_true, if_false]
      simp only [hy]
      rw [Sem.bind_eq_wrap', Sem.bind_eq_wrap', Sem.wrap_wrap, Sem.wrap_wrap]
      refine seg_wrap ?_
      rw [over_comp]
      refine wpAny_mono (he.run _ s6 σ6 H6 _ I6 q6) (fun y s7 hy7 => ?_) fun _ _ z => z.elim
      obtain ⟨v, H7, I7, rv, q7⟩ := hy7
      have S7 : SG (gx X A ce Ng s4 H fp) pg tn fp (i + 1) σ6 H7 s7 := ⟨I7.unpinned, T.keep _ _ _ st5 fun b hb o e => (I7.pin (b, o) (List.mem_append_right _ (List.mem_append_right _ (mem_pinsAt hb e)))).1, fun b hb => by
        obtain ⟨o, e, d⟩ := T.obj _ _ st5 b hb
        exact (I7.pin (b, o) (List.mem_append_right _ (List.mem_append_right _ (mem_pinsAt hb e)))).2.1⟩
      refine seg_at (seg_yield rfl rfl rfl ⟨i + 1, v, σ6, H7, S7, rv, ?_⟩)
      rcases q7 with q7 | ⟨hgo, m, hm, hw'⟩
      · exact .inl q7
      · refine .inr ⟨hgo, m, hw', by omega, fun s' hr => ?_⟩
        exact seg_again rfl (ih (i + 1) m σ6 H7 s' s' (by omega) hw' (S7.slept T hr))

theorem seg_start (T : Turn X.prog X.w X.K tg J fp it tn) (hfp : ∀ b ∈ fp, b ≠ ce.locals ∧ b ∉ frs X.stack ∧ (∀ y c, ce.cells.lookup y = some c → c ≠ b) ∧ ∀ p ∈ pg, p.1 ≠ b) (hco : ce.scope.isCoroutine = false)
    (hg : PG (gx X A ce Ng s4 H fp) tg g) (he : PE (gx X A ce Ng s4 H fp) elt te) (hW : Walk J g te Go Df Dn Wf) {nf n : Nat} {σ : L2.St} {H1 : Hp} {s₀ s : Shared} (hn : n ≤ nf) (hw : Wf 0 n σ H1) (hs : SG (gx X A ce Ng s4 H fp) pg tn fp 0 σ H1 s) :
    Seg (model X.prog X.w) A (RG (gx X A ce Ng s4 H fp) pg Dn) (YG (gx X A ce Ng s4 H fp) pg tn fp Wf Go Df) nf s₀
      (.compStart (.GeneratorExp elt [⟨tg, iter, [], 0⟩] scope gpos) 0 (.ref it) .none ce) ((model X.prog X.w).den (.compStart (.GeneratorExp elt [⟨tg, iter, [], 0⟩] scope gpos) 0 (.ref it) .none ce)) [] s := by
  have loop := seg_turns (iter := iter) (scope := scope) (gpos := gpos) T hfp hco hg he hW nf 0 n σ H1 s₀ s hn hw hs
  show Seg _ A _ _ _ s₀ _ ((compStart (.GeneratorExp elt [⟨tg, iter, [], 0⟩] scope gpos) 0 (.ref it) .none ce).onRaise (leaving ce)) [] s
  unfold compStart
  rw [Sem.onRaise_eq_wrap]
  show Seg _ A _ _ _ s₀ _ ((ask >>= _).wrap _ _ _ _) [] s
  refine seg_bind_wrap (wpAny_askSetting ?_)
  split
  · exact seg_again rfl loop
  · first
      | exact seg_bind_wrap (wpAny_rule (seg_bind_wrap (wpAny_standAt (seg_bind_wrap (T.self _ 0 s _ _ hs.2.1 (seg_again rfl loop))))))
      | (refine seg_bind_wrap (wpAny_rule ?_); show Seg _ A _ _ _ s₀ _ ((standAt iter.pos >>= _).wrap _ _ _ _) [] s; exact seg_bind_wrap (wpAny_standAt (seg_bind_wrap (T.self _ 0 s _ _ hs.2.1 (seg_again rfl loop)))))
/-- from the generator's view to the def's -/
theorem back {H2 : Hp} {s1 s'' : Shared} {σo σg : L2.St} (I : Inv X pins σo H s4) (hch : ∀ b ∈ fp, FpOk X pins H b) (Jg : Inv (gx X A ce Ng s4 H fp) pg σg H2 s1) (ho : s''.os = s1.os) (hb : AllBare s''.gens) (k : ∀ b o, s1.heap.get? b = some o → s''.heap.get? b = some o) : Inv X pins σo H2 s'' := by
  refine I.call' (ch := fp) (ho.trans Jg.os) ?_ (Jg.hok.kept k) hb fun b hb => ⟨(hch b hb).2.2.2.1, (hch b hb).2.1, (hch b hb).2.2.2.2.1, (hch b hb).2.2.2.2.2⟩
  exact Un.trans (show Un (frs X.stack) fp H H2 s4.heap s1.heap from Jg.base) (Un.kept k)
end
end TG

/-! all and any of a generator expression. -/
namespace TG
open PySem PySem.Spec PyProof.Rows L2 GenW GxR
section
variable {M : Model} {Xg : Cx} {pg : List (Addr × Obj)} {tn : Nat → Heap → Prop} {fp : List Addr} {Wf : Nat → Nat → L2.St → Hp → Prop} {Ff : Hp → Prop} {Dn : L2.St → Hp → Prop} {a : Addr} {g : Nat} {go : Obj} {prog : Program} {w : World} {A0 : Around} {R : Result → Shared → Prop}
/-- the generator a is ready to give nf more -/
def CS (prog : Program) (w : World) (A : Around) (Xg : Cx) (pg : List (Addr × Obj)) (tn : Nat → Heap → Prop) (fp : List Addr) (Wf : Nat → Nat → L2.St → Hp → Prop) (Go : V → Prop) (Df : V → Hp → Prop) (Dn : L2.St → Hp → Prop) (a : Addr) (g : Nat) (nf : Nat) (s : Shared) : Prop :=
  s.heap.IsGen a g ∧ s.heap.NoLimit ∧ g < s.gens.size ∧ ∃ gs, s.gens[g]? = some gs ∧ gs.Goes (model prog w) A.in1 (RG Xg pg Dn) (YG Xg pg tn fp Wf Go Df) nf (.send .none) (s.setGen g .running)
theorem setGen_get {s : Shared} {g : Nat} (h : g < s.gens.size) (x : GenState) : (s.setGen g x).gens[g]? = some x := by
  simp [Shared.setGen, h]
/-- an item comes, or the end -/
theorem next_of {A : Around} {Go : V → Prop} {Df : V → Hp → Prop} (hh : A.handled = none) (hroom : A.depth < recursionLimit) (hgo : ∀ h : Heap, h.get? a = some go → h.IsGen a g) (hpg : (a, go) ∈ pg) {nf : Nat} {s : Shared} {Q : Option Value → Shared → Prop} {E : Value → Shared → Prop}
    (h : CS prog w A Xg pg tn fp Wf Go Df Dn a g nf s)
    (hend : ∀ s1 s'' σ H, Inv Xg pg σ H s1 → Dn σ H → s''.os = s1.os → AllBare s''.gens → (∀ b o, s1.heap.get? b = some o → s''.heap.get? b = some o) → Q none s'')
    (hlast : ∀ s1 s'' σ H x v, Inv Xg pg σ H s1 → Df x H → RelV x v → s''.os = s1.os → AllBare s''.gens → (∀ b o, s1.heap.get? b = some o → s''.heap.get? b = some o) → Q (some v) s'')
    (hmore : ∀ s'' x v nf', nf' < nf → Go x → RelV x v → CS prog w A Xg pg tn fp Wf Go Df Dn a g nf' s'' → Q (some v) s'') : wpAny (model prog w) A (pyNext (.ref a)) Q E s := by
  obtain ⟨hg, hl, hsz, gs, hgs, hgoes⟩ := h
  refine wpAny_gsz (n := s.gens.size) (Nat.le_refl _) ?_
  refine wpAny_pyNext_genexpQ (P := fun _ _ s₁ => ∃ σ H, Inv Xg pg σ H s₁ ∧ Dn σ H) hh hl hroom hg hgs hgoes (fun v s₁ gs' hb hY hs => ?_) fun s₁ hP h' k hs => ?_
  · have hs' : g < s₁.gens.size := by
      have : s.gens.size ≤ (s₁.setGen g gs').gens.size := hs
      rw [setGen_size] at this
      omega
    obtain ⟨i, x, σ, H, ⟨I, st, fr⟩, rv, q⟩ := hY
    have ba : AllBare (s₁.setGen g gs').gens := allBare_setGen I.bare hb
    rcases q with q | ⟨hgo', m, hw, hm, kap⟩
    · exact hlast s₁ _ σ H x v I q rv rfl ba fun _ _ e => e
    · have ga : s₁.heap.get? a = some go := (I.pin (a, go) (List.mem_append_right _ hpg)).1
      have kp := kap ((s₁.setGen g gs').setGen g .running) ⟨rfl, allBare_setGen (s := s₁.setGen g gs') ba rfl, fun _ _ e => e⟩
      cases nf with
      | zero => exact kp.elim
      | succ nf =>
        exact hmore _ x v nf (Nat.lt_succ_self _) hgo' rv ⟨hgo _ ga, I.nolimit, by rw [setGen_size]; exact hs', gs', setGen_get hs' gs', kp⟩
  · obtain ⟨σ, H, I, hd⟩ := hP
    exact hend s₁ _ σ H I hd rfl (allBare_setGen I.bare rfl) k
theorem all_loop (hh : A0.handled = none) (hroom : A0.depth < recursionLimit) (hgo : ∀ h : Heap, h.get? a = some go → h.IsGen a g) (hpg : (a, go) ∈ pg)
    (hT : ∀ s1 s'' σ H, Inv Xg pg σ H s1 → Dn σ H → s''.os = s1.os → AllBare s''.gens → (∀ b o, s1.heap.get? b = some o → s''.heap.get? b = some o) → R (.ok (.ret (.bool true))) s'')
    (hF : ∀ s1 s'' σ H, Inv Xg pg σ H s1 → Ff H → s''.os = s1.os → AllBare s''.gens → (∀ b o, s1.heap.get? b = some o → s''.heap.get? b = some o) → R (.ok (.ret (.bool false))) s'') :
    ∀ (nf : Nat) (s : Shared), CS prog w A0.in1 Xg pg tn fp Wf (fun x => x = .bl true) (fun x H => x = .bl false ∧ Ff H) Dn a g nf s → codeAny (model prog w) A0 (.builtin "all.loop" ⟨[.ref a], []⟩) R s := by
  intro nf
  induction nf using Nat.strongRecOn with
  | ind nf ih =>
  intro s hs
  refine codeAny_builtin F.entry_all_loop ?_
  rw [Around.under_plainId F.plain_all_loop _]
  show wpAny _ A0.in1 (pyNext (.ref a) >>= _) _ _ s
  refine wpAny_bind (next_of (A := A0.in1) hh hroom hgo hpg hs (fun s1 s'' σ H I hd ho hb k => ?_) (fun s1 s'' σ H x v I q rv ho hb k => ?_) fun s'' x v nf' hn hg rv hc => ?_)
  · exact wpAny_bind (wpAny_rule (wpAny_pure (hT s1 s'' σ H I hd ho hb k)))
  · obtain ⟨rfl, q⟩ := q
    cases rv
    refine wpAny_bind (wpAny_holding (wpAny_truthy_bool ?_))
    refine wpAny_bind (wpAny_letGo ?_)
    simp only [Bool.false_eq_true, if_false]
    exact wpAny_bind (wpAny_rule (wpAny_pure (hF s1 s'' σ H I q ho hb k)))
  · subst hg
    cases rv
    refine wpAny_bind (wpAny_holding (wpAny_truthy_bool ?_))
    refine wpAny_bind (wpAny_letGo ?_)
    simp only [if_true]
    exact wpAny_pure ⟨plainId_quiet F.plain_all_loop _, ih nf' hn s'' hc⟩
theorem any_loop (hh : A0.handled = none) (hroom : A0.depth < recursionLimit) (hgo : ∀ h : Heap, h.get? a = some go → h.IsGen a g) (hpg : (a, go) ∈ pg)
    (hT : ∀ s1 s'' σ H, Inv Xg pg σ H s1 → Dn σ H → s''.os = s1.os → AllBare s''.gens → (∀ b o, s1.heap.get? b = some o → s''.heap.get? b = some o) → R (.ok (.ret (.bool false))) s'')
    (hF : ∀ s1 s'' σ H, Inv Xg pg σ H s1 → Ff H → s''.os = s1.os → AllBare s''.gens → (∀ b o, s1.heap.get? b = some o → s''.heap.get? b = some o) → R (.ok (.ret (.bool true))) s'') :
    ∀ (nf : Nat) (s : Shared), CS prog w A0.in1 Xg pg tn fp Wf (fun x => x = .bl false) (fun x H => x = .bl true ∧ Ff H) Dn a g nf s → codeAny (model prog w) A0 (.builtin "any.loop" ⟨[.ref a], []⟩) R s := by
  intro nf
  induction nf using Nat.strongRecOn with
  | ind nf ih =>
  intro s hs
  refine codeAny_builtin F.entry_any_loop ?_
  rw [Around.under_plainId F.plain_any_loop _]
  show wpAny _ A0.in1 (pyNext (.ref a) >>= _) _ _ s
  refine wpAny_bind (next_of (A := A0.in1) hh hroom hgo hpg hs (fun s1 s'' σ H I hd ho hb k => ?_) (fun s1 s'' σ H x v I q rv ho hb k => ?_) fun s'' x v nf' hn hg rv hc => ?_)
  · exact wpAny_bind (wpAny_rule (wpAny_pure (hT s1 s'' σ H I hd ho hb k)))
  · obtain ⟨rfl, q⟩ := q
    cases rv
    refine wpAny_bind (wpAny_holding (wpAny_truthy_bool ?_))
    refine wpAny_bind (wpAny_letGo ?_)
    simp only [if_true]
    exact wpAny_bind (wpAny_rule (wpAny_pure (hF s1 s'' σ H I q ho hb k)))
  · subst hg
    cases rv
    refine wpAny_bind (wpAny_holding (wpAny_truthy_bool ?_))
    refine wpAny_bind (wpAny_letGo ?_)
    simp only [Bool.false_eq_true, if_false]
    exact wpAny_pure ⟨plainId_quiet F.plain_any_loop _, ih nf' hn s'' hc⟩
end
end TG

/-! The rule for all(..) and any(..) of a generator expression. -/
namespace TG
open PySem PySem.Spec PyProof.Rows L2 GenW GxR
section
variable {X : Cx} {pins : List (Addr × Obj)} {σ : L2.St}
theorem nostk {s4 : Shared} {H : Hp} (I : Inv X pins σ H s4) {b : Addr} (h1 : b ≠ X.env.locals) (h2 : b ∉ X.fs) : b ∉ frs X.stack := fun z => (List.mem_cons.mp (I.stkSub b z)).elim h1 h2
theorem ready {H2 : Hp} {tg elt iter : Expr} {scope : Scope} {gpos : Pos} {J : It} {a : Addr} {s5 : Shared} {N Ng : List Str} {A : Around} {g : TG} {te : TE} {Go : V → Prop} {Df : V → Hp → Prop} {Dn : L2.St → Hp → Prop} {Wf : Nat → Nat → L2.St → Hp → Prop}
    (m : Made X pins σ H2 tg elt iter [] scope gpos J a s5) (hN : X.N = N) (L : GNames N Ng X.env.scope scope) (hfr : A.in1.frames = some X.stack) (hd : A.in1.handled = none)
    (hg : PG (gx X A.in1 (gEnv X scope m.s4 m.code) Ng m.s4 H2 m.fp) tg g) (he : PE (gx X A.in1 (gEnv X scope m.s4 m.code) Ng m.s4 H2 m.fp) elt te) (hW : Walk J g te Go Df Dn Wf) {n : Nat} (hw : Wf 0 n (σ ++ List.replicate (Ng.length - N.length) none) H2) :
    ∃ go, (∀ h : Heap, h.get? a = some go → h.IsGen a m.g) ∧ CS X.prog X.w A (gx X A.in1 (gEnv X scope m.s4 m.code) Ng m.s4 H2 m.fp) [(a, go)] m.tn m.fp Wf Go Df Dn a m.g n s5 := by
  obtain ⟨go, nm, qn, e1, e2, e3, e4⟩ := id m.gen
  have hgo : ∀ h : Heap, h.get? a = some go → h.IsGen a m.g := fun h e => ⟨go, nm, qn, e, e2, e3, e4⟩
  have hfp1 : ∀ b ∈ m.fp, FpOk X pins H2 b ∧ b < m.s4.heap.objs.size ∧ b ∉ frs X.stack := fun b hb => ⟨(m.fpo b hb).1, (m.fpo b hb).2, nostk m.inv (m.fpo b hb).1.2.1 (m.fpo b hb).1.2.2.1⟩
  have hcl := L.has m.inv.ok
  have lt5 : m.g < s5.gens.size := (Array.getElem?_eq_some_iff.mp m.gst).1
  have I1 : Inv (gx X A.in1 (gEnv X scope m.s4 m.code) Ng m.s4 H2 m.fp) [] (σ ++ List.replicate (Ng.length - N.length) none) H2 (s5.setGen m.g .running) :=
    gx_start (s5 := s5.setGen m.g .running) m.inv hN L hfr hd hfp1 m.ns m.kp m.os (allBare_setGen m.bare rfl)
  have hal : a ≠ m.s4.heap.objs.size := Nat.ne_of_gt m.young
  have I2 : Inv (gx X A.in1 (gEnv X scope m.s4 m.code) Ng m.s4 H2 m.fp) [(a, go)] (σ ++ List.replicate (Ng.length - N.length) none) H2 (s5.setGen m.g .running) := by
    refine ⟨I1.ok, I1.os, I1.bare, I1.base, I1.loc, I1.cell, I1.free, I1.freeC, fun p hp => ?_, I1.hok, I1.len⟩
    have hp : p = (a, go) := by simpa [gx] using hp
    subst hp
    refine ⟨e1, m.inv.hok.fresh (Nat.le_of_lt m.young), hal, nostk m.inv (Nat.ne_of_gt (Nat.lt_trans m.inv.lt m.young)) (m.inv.nofs (Nat.le_of_lt m.young)), fun v z => ?_⟩
    rw [e3] at z
    cases z
  have hfp2 : ∀ b ∈ m.fp, b ≠ (gEnv X scope m.s4 m.code).locals ∧ b ∉ frs X.stack ∧ (∀ y c, (gEnv X scope m.s4 m.code).cells.lookup y = some c → c ≠ b) ∧ ∀ p ∈ [(a, go)], p.1 ≠ b := fun b hb =>
    ⟨Nat.ne_of_lt (m.fpo b hb).2, (hfp1 b hb).2.2, fun y c e => (m.fpo b hb).1.2.2.2.2.1 y c (NdefX.clo_cm hcl e), fun p hp => by
      rw [List.mem_singleton.mp hp]
      exact Nat.ne_of_gt (Nat.lt_trans (m.fpo b hb).2 m.young)⟩
  refine ⟨go, hgo, m.gen, m.inv.nolimit.keeps m.kp, lt5, _, m.gst, rfl, ?_⟩
  exact seg_start m.turn hfp2 L.co hg he hW (Nat.le_refl _) hw ⟨I2, m.turn.keep _ _ _ m.st fun b _ o e => m.kp b o e, fun b hb => (m.fpo b hb).1.1⟩
/-- all(elt for tg in iter): the walk over the source, the element at each turn -/
def tGenB (P : Addr) (k : Nat) (wi : TI) (g : TG) (te : TE) (b : Bool) : TE := fun σ H Q => wi σ H fun J H1 => TabG H1 P ∧ ∀ H2, Tabbed P H1 H2 →
  ∃ (Wf : Nat → Nat → L2.St → Hp → Prop) (Dn : L2.St → Hp → Prop) (Ff : Hp → Prop), Walk J g te (fun x => x = .bl b) (fun x H => x = .bl (!b) ∧ Ff H) Dn Wf ∧ (∃ n, Wf 0 n (σ ++ List.replicate k none) H2) ∧ (∀ σ' H', Dn σ' H' → Q (.bl b) H') ∧ ∀ H', Ff H' → Q (.bl (!b)) H'
theorem pe_allG {c P : Addr} {tg elt iter : Expr} {p pos gpos : Pos} {scope : Scope} {N Ng : List Str} {wi : TI} {g : TG} {te : TE} {k : Nat}
    (hr : Room k X.A) (hG : Gl X "all") (hm : X.mg "all" = none) (hb : bootBuiltins "all" = some (.builtin "all")) (TB : TabB X.base X.mg c P) (hcode : X.env.code = .ref c) (hN : X.N = N) (L : GNames N Ng X.env.scope scope) (hi : PI X tg iter wi)
    (hs : ∀ v, genFold iter X.env v = pure v)
    (hg : ∀ s4 code H2 fp, PG (gx X X.A.in1.in1 (gEnv X scope s4 code) Ng s4 H2 fp) tg g) (he : ∀ s4 code H2 fp, PE (gx X X.A.in1.in1 (gEnv X scope s4 code) Ng s4 H2 fp) elt te)
    (hst : starEach [.GeneratorExp elt [⟨tg, iter, [], 0⟩] scope gpos] X.env = (false, eval (.GeneratorExp elt [⟨tg, iter, [], 0⟩] scope gpos) X.env) :: starEach [] X.env := by rfl) :
    PE X (.Call (.Name "all" p) [.GeneratorExp elt [⟨tg, iter, [], 0⟩] scope gpos] [] pos) (tGenB P (Ng.length - N.length) wi g te true) := by
  refine ⟨fun pins s σ H Q I h => ?_⟩
  refine wpAny_Call_Name_kw (ld_blt I hG hm hb ?_)
  refine PyProof.Rows.callWith_builtin1 ?_ hst (by rfl)
  rw [hst]
  show wpAny _ _ (spliced ((false, eval (.GeneratorExp elt [⟨tg, iter, [], 0⟩] scope gpos) X.env) :: backTo pos (starEach [] X.env))) _ _ s
  refine Calls.spliced_cons (gen_make (R := fun J H1 => ∀ H2, Tabbed P H1 H2 → ∃ (Wf : Nat → Nat → L2.St → Hp → Prop) (Dn : L2.St → Hp → Prop) (Ff : Hp → Prop), Walk J g te (fun x => x = .bl true) (fun x H => x = .bl (!true) ∧ Ff H) Dn Wf ∧ (∃ n, Wf 0 n (σ ++ List.replicate (Ng.length - N.length) none) H2) ∧ (∀ σ' H', Dn σ' H' → Q (.bl true) H') ∧ ∀ H', Ff H' → Q (.bl (!true)) H')
    hr TB hcode L hi hs I h fun J H1 H2 a s5 hR hTb m => ?_)
  obtain ⟨Wf, Dn, Ff, hW, ⟨n, hw⟩, hD, hF⟩ := hR H2 hTb
  refine Calls.spliced_nil ?_
  have hfr : X.A.in1.in1.frames = some X.stack := m.inv.ok.frames
  obtain ⟨go, hgo, cs⟩ := ready (A := X.A.in1) m hN L hfr hr.hd (hg _ _ _ _) (he _ _ _ _) hW hw
  refine call_function_tree F.kind_all F.plain_all F.entry_all (F.args_all1 _) ?_
  unfold Builtin.«all»
  refine wpAny_bind (m := oneArg "all" _) (wpAny_pure ?_)
  refine wpAny_bind (wpAny_pyIter_gen (s := s5) m.gen ?_)
  refine wpAny_pure ⟨plainId_quiet F.plain_all_loop _, all_loop (A0 := X.A) hr.hd (by have := hr.dp; omega) hgo (List.mem_singleton.mpr rfl) (fun s1 s'' σ' H' Jg hd ho hba kp => ?_) (fun s1 s'' σ' H' Jg hf ho hba kp => ?_) n s5 cs⟩
  · exact ⟨.bl true, H', back m.inv (fun b hb => (m.fpo b hb).1) Jg ho hba kp, rfl, hD σ' H' hd⟩
  · exact ⟨.bl false, H', back m.inv (fun b hb => (m.fpo b hb).1) Jg ho hba kp, rfl, hF H' hf⟩
theorem pe_anyG {c P : Addr} {tg elt iter : Expr} {p pos gpos : Pos} {scope : Scope} {N Ng : List Str} {wi : TI} {g : TG} {te : TE} {k : Nat}
    (hr : Room k X.A) (hG : Gl X "any") (hm : X.mg "any" = none) (hb : bootBuiltins "any" = some (.builtin "any")) (TB : TabB X.base X.mg c P) (hcode : X.env.code = .ref c) (hN : X.N = N) (L : GNames N Ng X.env.scope scope) (hi : PI X tg iter wi)
    (hs : ∀ v, genFold iter X.env v = pure v)
    (hg : ∀ s4 code H2 fp, PG (gx X X.A.in1.in1 (gEnv X scope s4 code) Ng s4 H2 fp) tg g) (he : ∀ s4 code H2 fp, PE (gx X X.A.in1.in1 (gEnv X scope s4 code) Ng s4 H2 fp) elt te)
    (hst : starEach [.GeneratorExp elt [⟨tg, iter, [], 0⟩] scope gpos] X.env = (false, eval (.GeneratorExp elt [⟨tg, iter, [], 0⟩] scope gpos) X.env) :: starEach [] X.env := by rfl) :
    PE X (.Call (.Name "any" p) [.GeneratorExp elt [⟨tg, iter, [], 0⟩] scope gpos] [] pos) (tGenB P (Ng.length - N.length) wi g te false) := by
  refine ⟨fun pins s σ H Q I h => ?_⟩
  refine wpAny_Call_Name_kw (ld_blt I hG hm hb ?_)
  refine PyProof.Rows.callWith_builtin1 ?_ hst (by rfl)
  rw [hst]
  show wpAny _ _ (spliced ((false, eval (.GeneratorExp elt [⟨tg, iter, [], 0⟩] scope gpos) X.env) :: backTo pos (starEach [] X.env))) _ _ s
  refine Calls.spliced_cons (gen_make (R := fun J H1 => ∀ H2, Tabbed P H1 H2 → ∃ (Wf : Nat → Nat → L2.St → Hp → Prop) (Dn : L2.St → Hp → Prop) (Ff : Hp → Prop), Walk J g te (fun x => x = .bl false) (fun x H => x = .bl (!false) ∧ Ff H) Dn Wf ∧ (∃ n, Wf 0 n (σ ++ List.replicate (Ng.length - N.length) none) H2) ∧ (∀ σ' H', Dn σ' H' → Q (.bl false) H') ∧ ∀ H', Ff H' → Q (.bl (!false)) H')
    hr TB hcode L hi hs I h fun J H1 H2 a s5 hR hTb m => ?_)
  obtain ⟨Wf, Dn, Ff, hW, ⟨n, hw⟩, hD, hF⟩ := hR H2 hTb
  refine Calls.spliced_nil ?_
  have hfr : X.A.in1.in1.frames = some X.stack := m.inv.ok.frames
  obtain ⟨go, hgo, cs⟩ := ready (A := X.A.in1) m hN L hfr hr.hd (hg _ _ _ _) (he _ _ _ _) hW hw
  refine call_function_tree F.kind_any F.plain_any F.entry_any (F.args_any1 _) ?_
  unfold Builtin.«any»
  refine wpAny_bind (m := oneArg "any" _) (wpAny_pure ?_)
  refine wpAny_bind (wpAny_pyIter_gen (s := s5) m.gen ?_)
  refine wpAny_pure ⟨plainId_quiet F.plain_any_loop _, any_loop (A0 := X.A) hr.hd (by have := hr.dp; omega) hgo (List.mem_singleton.mpr rfl) (fun s1 s'' σ' H' Jg hd ho hba kp => ?_) (fun s1 s'' σ' H' Jg hf ho hba kp => ?_) n s5 cs⟩
  · exact ⟨.bl false, H', back m.inv (fun b hb => (m.fpo b hb).1) Jg ho hba kp, rfl, hD σ' H' hd⟩
  · exact ⟨.bl true, H', back m.inv (fun b hb => (m.fpo b hb).1) Jg ho hba kp, rfl, hF H' hf⟩
end
end TG

/-! TM, part L: all and any of a generator expression. -/
namespace TM
open PySem PySem.Spec PyProof.Rows L2 TG GxR
def genNamesB (N Ng : List Str) (sc scope : Scope) : Bool :=
  decide (scope.kind = .function) && !scope.isCoroutine && scope.names.all (fun y => !decide (y.2 = .cell)) && decide (scope.names.lookup (".0" : Str) = some NameKind.local) &&
  scope.names.all (fun y => !decide (y.2 = .free) || decide (sc.names.lookup y.1 = some .cell) || decide (sc.names.lookup y.1 = some .free)) && decide Ng.Nodup && decide (N.length ≤ Ng.length) &&
  (List.range N.length).all (fun i => match Ng[i]? with
    | some y => !visB scope y || (decide (N[i]? = some y) && decide (scope.names.lookup y = some .free))
    | none => true) &&
  (Ng.drop N.length).all fun y => !decide (scope.names.lookup y = some .free)
theorem visB_of {sc : Scope} {x : Str} (h : Vis sc x) : visB sc x = true := by
  unfold visB
  rcases h with h | h | h <;> rw [h]
theorem genNames_of {N Ng : List Str} {sc scope : Scope} (h : genNamesB N Ng sc scope = true) : GNames N Ng sc scope := by
  unfold genNamesB at h
  simp only [Bool.and_eq_true, Bool.or_eq_true, Bool.not_eq_true', decide_eq_true_eq, decide_eq_false_iff_not, List.all_eq_true] at h
  obtain ⟨⟨⟨⟨⟨⟨⟨⟨h1, h2⟩, h3⟩, h4⟩, h5⟩, h6⟩, h7⟩, h8⟩, h9⟩ := h
  refine ⟨h1, h2, h3, h4, fun y hy e => ?_, h6, h7, fun i y hi e v => ?_, fun i y hi e => ?_⟩
  · rcases h5 y hy with (z | z) | z
    · exact absurd e z
    · exact .inl z
    · exact .inr z
  · have q := h8 i (List.mem_range.mpr hi)
    rw [e] at q
    simp only [visB_of v, Bool.not_true, Bool.false_or, Bool.and_eq_true, decide_eq_true_eq] at q
    exact q
  · refine h9 y ?_
    have : (Ng.drop N.length)[i - N.length]? = some y := by
      rw [List.getElem?_drop]
      rw [show N.length + (i - N.length) = i by omega]
      exact e
    exact List.mem_of_getElem? this
def folds : Expr → Bool
  | .List .. => false
  | .Set .. => false
  | _ => true
def allS (b : Bool) : Str := if b then "all" else "any"
abbrev GKT := Bool → List Str → Scope → Nat → Expr → Bool
def noGk : GKT := fun _ _ _ _ _ => false
def ownN (N : List Str) (own : List Nat) : List (Str × Nat) := own.map fun i => (N.getD i Str.empty, i)
def ckTs (gk : Nat → Expr → Bool) (N : List Str) (sc : Scope) (G : GT) : List T → List Expr → Bool
  | [], [] => true
  | [t], [c] => ckT gk N sc G t c
  | _, _ => false
def notSet : Expr → Bool
  | .Set .. => false
  | _ => true
/-- a comprehension's checks: the block's names, its clauses -/
def ckLst (gk : GKT) (ag : Bool) (N : List Str) (sc : Scope) (G : GT) (γ : Gen) (elt : Expr) (gs : List Comprehension) (scope : Scope) : Bool := match gs with
  | [⟨tg, iter, ifs, 0⟩] => match γ.c2 with
    | [] => blkC N sc scope (ownN N γ.c.own) && (pSl γ.c.p).all (fun i => γ.c.own.contains i) && notSet iter && ckP N scope γ.c.p tg && tgB γ.c.it tg && ckI (gk ag N sc) N sc G γ.c.it iter &&
        ckTs (gk ag N (relS scope sc)) N (relS scope sc) G γ.c.ts ifs && ckE (gk ag N (relS scope sc)) N (relS scope sc) G γ.e elt
    | _ => false
  | [⟨tg, iter, ifs, 0⟩, ⟨tg1, iter1, ifs1, 0⟩] => match γ.c2 with
    | [c2] => blkC N sc scope (ownN N γ.c.own) && (pSl γ.c.p).all (fun i => γ.c.own.contains i) && notSet iter && ckP N scope γ.c.p tg && tgB γ.c.it tg && ckI (gk ag N sc) N sc G γ.c.it iter &&
        ckTs (gk ag N (relS scope sc)) N (relS scope sc) G γ.c.ts ifs && ckE (gk ag N (relS scope sc)) N (relS scope sc) G γ.e elt &&
        c2.own.all (fun i => γ.c.own.contains i) && (pSl c2.p).all (fun i => c2.own.contains i) && notSet iter1 && ckP N scope c2.p tg1 && tgB c2.it tg1 && ckI (gk ag N (relS scope sc)) N (relS scope sc) G c2.it iter1 &&
        ckTs (gk ag N (relS scope sc)) N (relS scope sc) G c2.ts ifs1
    | _ => false
  | _ => false
def ckDct (gk : GKT) (ag : Bool) (N : List Str) (sc : Scope) (G : GT) (γ : Gen) (kx vx tg iter : Expr) (ifs : List Expr) (scope : Scope) : Bool :=
  blkC N sc scope (ownN N γ.c.own) && (pSl γ.c.p).all (fun i => γ.c.own.contains i) && notSet iter && ckP N scope γ.c.p tg && tgB γ.c.it tg && ckI (gk ag N sc) N sc G γ.c.it iter &&
    ckTs (gk ag N (relS scope sc)) N (relS scope sc) G γ.c.ts ifs && ckE (gk ag N (relS scope sc)) N (relS scope sc) G γ.e kx && ckE (gk ag N (relS scope sc)) N (relS scope sc) G γ.v vx && γ.c2.isEmpty
def ckAll (gk : GKT) (ag : Bool) (b : Bool) (N : List Str) (sc : Scope) (G : GT) (γ : Gen) (a : Expr) : Bool := match a with
  | .Call (.Name x _) [.GeneratorExp elt [⟨tg, iter, [], 0⟩] scope _] [] _ =>
    decide (x = allS b) && glbB sc x && gvB G x .blt && genNamesB N γ.ng sc scope && decide (γ.k = γ.ng.length - N.length) && folds iter && ckP γ.ng scope γ.c.p tg && tgB γ.c.it tg && ckI (gk ag N sc) N sc G γ.c.it iter && ckE (gk false γ.ng scope) γ.ng scope G γ.e elt
  | _ => false
def ckGen (gk : GKT) (ag : Bool) (N : List Str) (sc : Scope) (G : GT) (γ : Gen) (a : Expr) : Bool := match γ.kd with
  | .all => ag && ckAll gk ag true N sc G γ a
  | .any => ag && ckAll gk ag false N sc G γ a
  | .lst => match a with
    | .ListComp elt gs scope _ => ckLst gk ag N sc G γ elt gs scope
    | _ => false
  | .dct => match a with
    | .DictComp kx vx [⟨tg, iter, ifs, 0⟩] scope _ => ckDct gk ag N sc G γ kx vx tg iter ifs scope
    | _ => false
theorem rel_tab {K : PySem.W.Frag} {T : Tb} {S : Sto} {io : Nat → Addr} {H1 H2 : Hp} {P0 : Addr} (hP : TabG H1 P0) (t : Tabbed P0 H1 H2) (rel : Rel K T S io H1) : Rel K T S io H2 ∧ Ex S.length io H1 io H2 := by
  obtain ⟨ps, hp, _⟩ := hP
  have ne : ∀ {a : Addr} {o : HO}, H1 a = some o → (∀ qs, o ≠ .tbl qs) → a ≠ P0 := fun {a o} e n z => by
    rw [z, hp] at e
    exact n ps (Option.some.inj e).symm
  have ex : Ex S.length io H1 io H2 := ⟨fun _ _ => rfl, fun a xs e => by rw [t.2 a (ne e fun _ z => by cases z)]; exact e, fun a o u e => by rw [t.2 a (ne e fun _ z => by cases z)]; exact e⟩
  refine ⟨⟨fun i o e => ?_, rel.inj, fun P hPT => ?_⟩, ex⟩
  · refine (rel.obj i o e).keep ex (Nat.le_refl _) fun m u hu => ?_
    obtain ⟨u', hu', _, _, c⟩ := (rel.obj i o e).there m
    rw [hu] at hu'
    cases hu'
    rw [t.2 _ (ne hu c)]
    exact hu
  · by_cases e : P = P0
    · rw [e]; exact t.1
    · obtain ⟨qs, h1, h2⟩ := rel.tab P hPT
      exact ⟨qs, by rw [t.2 P e]; exact h1, h2⟩
theorem envR_more {K : PySem.W.Frag} {n : Nat} {io : Nat → Addr} {H : Hp} {env : Env} {s : List (Option V)} (k : Nat) (h : EnvR K n io H env s) : EnvR K n io H (env ++ List.replicate k none) (s ++ List.replicate k none) := by
  refine ⟨by simp [h.1], fun i p e => ?_⟩
  by_cases hi : i < env.length
  · rw [List.getElem?_append_left hi] at e
    obtain ⟨v, h1, h2⟩ := h.2 i p e
    refine ⟨v, ?_, h2⟩
    rw [List.getElem?_append_left (by rw [← h.1]; exact hi)]
    exact h1
  · rw [List.getElem?_append_right (by omega), List.getElem?_replicate] at e
    split at e <;> cases e
section
variable {X : Cx} {k : Nat} {T : Tb} {R : PXT} {W : Wish} {N : List Str} {sc : Scope} {cf : Nat → List PV → Sto → Res PV} {gl : Nat → PV} {gf : Nat → Env → Sto → Res PV} {gk : GKT} {ag : Bool} {G : GT}
abbrev WF : Wish := fun _ _ _ _ => False
theorem cok_gx {A : Around} {ce : PySem.Env} {Ng : List Str} {scope : Scope} {s4 : Shared} {H2 : Hp} {fp : List Addr} (hnd : Ng.Nodup) (hsc : ce.scope = scope) (hr : Room (k + 1) (A.deeper ce)) :
    Cok (gx X A ce Ng s4 H2 fp) k T R WF Ng scope := by
  refine ⟨rfl, hnd, rfl, hsc, hr, fun pins σ H s e s' I c => ?_, PassesOwn.never⟩
  obtain ⟨_, _, _, _, _, _, _, _, _, _, _, _, _, _, _, _, _, z⟩ := c
  exact z.elim
theorem cokP_gx {A : Around} {ce : PySem.Env} {Ng : List Str} {scope : Scope} {s4 : Shared} {H2 : Hp} {fp : List Addr} (hnd : Ng.Nodup) (hsc : ce.scope = scope) (hcell : ∀ y ∈ scope.names, y.2 ≠ .cell) :
    CokP (gx X A ce Ng s4 H2 fp) Ng scope := by
  refine ⟨rfl, hnd, rfl, fun x hx => ?_⟩
  subst hsc
  have hx := loc_of hx
  refine ⟨hx, ?_⟩
  rcases hx with h | h
  · exact .inr h
  · exact absurd rfl (hcell _ (PySem.mem_of_lookup h))
theorem allS_boot (b : Bool) : bootBuiltins (allS b) = some (.builtin (if b then "all" else "any")) := by
  cases b with
  | true => exact (by first | exact PyProof.Rows.boot_all | exact boot_all | decide +kernel)
  | false => exact (by first | exact boot_any | decide +kernel)
/-- the turns go as genN says -/
theorem walk_gen {w : Wk} {J : L2.It} {p : Pat} {b : Bool} {e : E} {c : Ctx} {Q : V → Hp → Prop} {KX : PySem.W.Frag} {Xg : Cx} (hK : Xg.K = KX) (n : Nat) :
    Walk J (gL KX T p) (LE Xg T WF (ev c e)) (fun x => x = .bl b) (fun x H => x = .bl (!b) ∧ Q (.bl (!b)) H) (fun _ H => Q (.bl b) H)
      (fun i m σ H => ∃ S io env, Rel KX T S io H ∧ EnvR KX S.length io H env σ ∧ JR KX S.length io H w J ∧ Post KX T W (Rep KX) S io H Q (genN w p b (ev c e) m i env S)) := by
  subst hK
  rintro i m σ H ⟨S, io, env, rel, er, hj, post⟩
  cases m with
  | zero => exact post.elim
  | succ m =>
    simp only [genN] at post
    obtain ⟨t1, t2⟩ := walk_turn (i := i) rel hj
    cases e0 : w.at i S with
    | none => rw [e0] at post; exact post.elim
    | some o =>
      rw [e0] at post
      cases o with
      | none => exact .inl ⟨t1 e0, post.val rel rfl⟩
      | some x =>
        obtain ⟨g1, g2⟩ := t2 x e0
        refine .inr ⟨g1, Nat.succ_pos m, fun v H' hy => ?_⟩
        obtain ⟨rel', ex', rv⟩ := g2 v H' hy
        replace er := er.mono ex' (Nat.le_refl _)
        replace hj := hj.mono ex' (Nat.le_refl _)
        replace post := post.start ex' (Nat.le_refl _)
        replace rel := rel'
        simp only at post
        split at post
        · exact post.elim
        · rename_i env1 e1
          refine ⟨S, io, env, x, env1, rel, er, rv, e1, fun σ1 er1 _ => ⟨S, io, env1, rel, er1, ?_⟩⟩
          cases e2 : ev c e env1 S with
          | ok q S' =>
            rw [e2] at post
            cases q with
            | bl d =>
              simp only at post
              intro io' H' v' ex l rel' rp'
              have rp' : v' = .bl d := rp'
              subst rp'
              by_cases hd : d = b
              · subst hd
                rw [if_pos rfl] at post
                exact .inr ⟨rfl, m, Nat.lt_succ_self m, S', io', env1, rel', er1.mono ex l, hj.mono ex l, post.start ex l⟩
              · rw [if_neg hd] at post
                have hd' : d = !b := by cases d <;> cases b <;> simp_all
                subst hd'
                exact .inl ⟨rfl, Post.val rel' (post.start ex l) rfl⟩
            | _ => exact post.elim
          | exc x S' => rw [e2] at post; exact post.elim
          | bad => rw [e2] at post; exact post.elim
/-- the hook: what the numbered comprehensions are, in any context whose names are N, sc -/
def Hook (P : Program) (w : World) (K : PySem.W.Frag) (mg : Str → Option Value) (base : Heap) (T : Tb) (R : PXT) (k : Nat) (gk : GKT) (gf : Nat → Env → Sto → Res PV) : Prop :=
  ∀ (X : Cx) (W : Wish) (N : List Str) (sc : Scope) (ag : Bool), X.prog = P → X.w = w → X.K = K → X.mg = mg → X.base = base → Cok X k T R W N sc → Room (k + 1) X.A → (ag = true → Room (k + 2) X.A ∧ ∃ c0 P0, TabB base mg c0 P0 ∧ X.env.code = .ref c0 ∧ P0 ∈ T) →
    ∀ g a, gk ag N sc g a = true → PE X a (LE X T W (gf g))
theorem sAll {γ : Gen} {a : Expr} {c0 P0 : Addr} {b : Bool} {X : Cx} (C : Cok X k T R W N sc) (hr1 : Room (k + 2) X.A) (P : PG X.prog X.w X.K X.mg X.base T R k cf gl G) (Hk : Hook X.prog X.w X.K X.mg X.base T R k gk gf) (hag : ag = true → Room (k + 2) X.A ∧ ∃ c0 P0, TabB X.base X.mg c0 P0 ∧ X.env.code = .ref c0 ∧ P0 ∈ T)
    (TB : TabB X.base X.mg c0 P0) (hcode : X.env.code = .ref c0) (hP0 : P0 ∈ T) (h : ckAll gk ag b N sc G γ a = true) :
    PE X a (LE X T W (evA ⟨cf, gl, gf⟩ b γ)) := by
  unfold ckAll at h
  split at h
  · rename_i x p elt tg iter scope gpos pos
    simp only [Bool.and_eq_true, decide_eq_true_eq] at h
    obtain ⟨⟨⟨⟨⟨⟨⟨⟨⟨hx, h1⟩, h2⟩, h3⟩, h4⟩, h5⟩, h6⟩, htg⟩, h7⟩, h8⟩ := h
    subst hx
    have L : GNames N γ.ng X.env.scope scope := by rw [C.hsc]; exact genNames_of h3
    have hi := sI (gk := gk ag N sc) (gf := gf) C P (Hk X W N sc ag rfl rfl rfl rfl rfl C (hr1.mono (Nat.le_succ _)) hag) (tg := tg) h7 htg
    have hs : ∀ v, genFold iter X.env v = pure v := fun v => by
      cases iter <;> first
        | rfl
        | cases h5
    have rm : ∀ ce, Room (k + 1) (X.A.in1.in1.deeper ce) := fun ce => ⟨hr1.hd, by have := hr1.dp; show X.A.depth + 1 + 3 * (k + 1) + 5 < _; omega, by have := hr1.un; show X.A.units + 1 + 1 + 3 + 16 * (k + 1) + 200 < _; omega⟩
    have Cg : ∀ s4 code H2 fp, Cok (gx X X.A.in1.in1 (gEnv X scope s4 code) γ.ng s4 H2 fp) k T R WF γ.ng scope := fun s4 code H2 fp => cok_gx L.nd rfl (rm _)
    have Cp : ∀ s4 code H2 fp, CokP (gx X X.A.in1.in1 (gEnv X scope s4 code) γ.ng s4 H2 fp) γ.ng scope := fun s4 code H2 fp => cokP_gx L.nd rfl L.cell
    have hg : ∀ s4 code H2 fp, L2.PG (gx X X.A.in1.in1 (gEnv X scope s4 code) γ.ng s4 H2 fp) tg (gL X.K T γ.c.p) := fun s4 code H2 fp => sP (Cp s4 code H2 fp) γ.c.p tg h6
    have he : ∀ s4 code H2 fp, PE (gx X X.A.in1.in1 (gEnv X scope s4 code) γ.ng s4 H2 fp) elt (lift X.K T WF (Rep X.K) (ev ⟨cf, gl, gf⟩ γ.e)) := fun s4 code H2 fp =>
      sE (gk := gk false γ.ng scope) (Cg s4 code H2 fp) P (Hk _ WF γ.ng scope false rfl rfl rfl rfl rfl (Cg s4 code H2 fp) (rm _) fun z => by cases z) γ.e elt h8
    have fin : ∀ σ H Q, LE X T W (evA ⟨cf, gl, gf⟩ b γ) σ H Q → tGenB P0 (γ.ng.length - N.length) (LI X T W (evI ⟨cf, gl, gf⟩ γ.c.it)) (gL X.K T γ.c.p) (lift X.K T WF (Rep X.K) (ev ⟨cf, gl, gf⟩ γ.e)) b σ H Q := by
      intro σ H Q hh
      obtain ⟨S, io, env, rel, er, post⟩ := hh
      unfold evA at post
      refine Post.head rel er post fun S io H w J rel er hj post => ?_
      refine ⟨rel.tab P0 hP0, fun H2 ht => ?_⟩
      obtain ⟨rel2, ex2⟩ := rel_tab (rel.tab P0 hP0) ht rel
      refine ⟨_, fun _ H => Q (.bl b) H, fun H => Q (.bl (!b)) H, walk_gen (T := T) (W := W) (w := w) (J := J) (p := γ.c.p) (b := b) (e := γ.e) (c := ⟨cf, gl, gf⟩) (Q := Q) (KX := X.K) (Xg := X) rfl 0, ⟨FU, S, io, env ++ List.replicate γ.k none, rel2, ?_, hj.mono ex2 (Nat.le_refl _), post.start ex2 (Nat.le_refl _)⟩, fun _ H' q => q, fun H' q => q⟩
      rw [h4]
      exact envR_more _ (er.mono ex2 (Nat.le_refl _))
    have hr0 : Room (k + 1) X.A := hr1.mono (Nat.le_succ _)
    cases b with
    | true => exact PE.imp (pe_allG hr0 (glb_of C h1) (P.blt _ h2) (allS_boot true) TB hcode C.hN L hi hs hg he) fin
    | false => exact PE.imp (pe_anyG hr0 (glb_of C h1) (P.blt _ h2) (allS_boot false) TB hcode C.hN L hi hs hg he) fin
  · cases h
end
end TM

/-! TM, part N: list comprehensions. -/
namespace TM
open PySem PySem.Spec PyProof.Rows L2 TG GxR
theorem Post.bindN {a a' b b' : Type} {K : PySem.W.Frag} {T : Tb} {W : Wish} {R1 : Nat → (Nat → Addr) → Hp → a' → b' → Prop} {R : Nat → (Nat → Addr) → Hp → a → b → Prop} {S : Sto} {io : Nat → Addr} {H : Hp} {Q : b → Hp → Prop}
    {N : b' → Hp → Prop} {r : Res a'} {f : a' → Sto → Res a} (h : Post K T W R S io H Q (r.nox.bind f))
    (k : ∀ p S1 io1 H1 v, Ex S.length io H io1 H1 → S.length ≤ S1.length → Rel K T S1 io1 H1 → R1 S1.length io1 H1 p v → Post K T W R S1 io1 H1 Q (f p S1) → N v H1) : Post K T WF R1 S io H N r := by
  cases r with
  | ok p S1 => exact fun io1 H1 v e l rel rp => k p S1 io1 H1 v e l rel rp (Post.start e l h)
  | exc x S1 => exact h.elim
  | bad => exact h
theorem nox_bind {a b c : Type} (r : Res a) (g : a → Sto → Res b) (f : b → Sto → Res c) : (r.bind g).nox.bind f = r.nox.bind fun x S => (g x S).nox.bind f := by
  cases r <;> rfl
theorem wipe_in {σ : L2.St} {j : Nat} : ∀ {vs : List Nat}, j ∈ vs → (wipe σ vs)[j]? = if j < σ.length then some none else none
  | [], h => by cases h
  | v :: vs, h => by
    show ((wipe σ vs).set v none)[j]? = _
    rw [List.getElem?_set]
    by_cases e : v = j
    · rw [if_pos e, e, wipe_length]
    · rw [if_neg e]
      rcases List.mem_cons.mp h with z | z
      · exact absurd z.symm e
      · exact wipe_in z
theorem wipe_sameBut {sl vs : List Nat} {σ σ2 : L2.St} (h : SameBut sl (wipe σ vs) σ2) (hs : ∀ j ∈ sl, j ∈ vs) : wipe σ2 vs = wipe σ vs := by
  apply List.ext_getElem?
  intro j
  have hl : σ2.length = σ.length := by rw [h.len, wipe_length]
  by_cases hj : j ∈ vs
  · rw [wipe_in hj, wipe_in hj, hl]
  · rw [wipe_out hj, h.at_ j fun z => hj (hs j z)]
theorem envR_wipe {K : PySem.W.Frag} {n : Nat} {io : Nat → Addr} {H : Hp} {env : Env} {s : List (Option V)} (h : EnvR K n io H env s) : ∀ vs : List Nat, EnvR K n io H (wipeE env vs) (wipe s vs)
  | [] => h
  | v :: vs => by
    have ih := envR_wipe h vs
    refine ⟨by simp [wipeE, wipe, ih.1], fun i p e => ?_⟩
    simp only [wipeE, wipe] at e ⊢
    rw [List.getElem?_set] at e ⊢
    by_cases hi : v = i
    · rw [if_pos hi] at e
      split at e <;> cases e
    · rw [if_neg hi] at e ⊢
      exact ih.2 i p e
section
variable {X : Cx} {k : Nat} {T : Tb} {R : PXT} {W : Wish} {N : List Str} {sc : Scope} {cf : Nat → List PV → Sto → Res PV} {gl : Nat → PV} {gf : Nat → Env → Sto → Res PV} {gk : GKT} {ag : Bool} {G : GT}
/-- a computation that leaves the new list d at D, and then QQ -/
def PU (K : PySem.W.Frag) (T : Tb) (W : Wish) (d : Nat) (D : Addr) (S : Sto) (io : Nat → Addr) (H : Hp) (QQ : Hp → Prop) (r : Res Unit) : Prop :=
  Post (b := Unit) K T W (fun n io' _ _ _ => io' d = D ∧ d < n) S io H (fun _ H => QQ H) r
/-- the turns of a clause -/
theorem lc_turns {w : Wk} {J : L2.It} {p : Pat} {tst : Env → Sto → Res Bool} {turn : Env → Sto → Res Unit} {base : Env} {σ : L2.St} {vs : List Nat} {d : Nat} {D : Addr} {QQ : Hp → Prop} {TU : L2.St → Hp → (Hp → Prop) → Prop} {S0 : Sto} {io0 : Nat → Addr} {H0 : Hp}
    (hp : ∀ j ∈ pSl p, j ∈ vs) (rel0 : Rel X.K T S0 io0 H0) (er0 : EnvR X.K S0.length io0 H0 base (wipe σ vs)) (hj0 : JR X.K S0.length io0 H0 w J) (hd0 : io0 d = D) (hl0 : d < S0.length)
    (hturn : ∀ (env1 : Env) (σ2 : L2.St) (S1 : Sto) (io1 : Nat → Addr) (H1 : Hp) (f : Unit → Sto → Res Unit) (Nx : Hp → Prop), Rel X.K T S1 io1 H1 → EnvR X.K S1.length io1 H1 env1 σ2 → io1 d = D → d < S1.length → PU X.K T W d D S1 io1 H1 QQ ((turn env1 S1).nox.bind f) →
      (∀ S2 io2 H2, Ex S1.length io1 H1 io2 H2 → S1.length ≤ S2.length → Rel X.K T S2 io2 H2 → io2 d = D → PU X.K T W d D S2 io2 H2 QQ (f () S2) → Nx H2) → TU σ2 H1 Nx)
    (post0 : PU X.K T W d D S0 io0 H0 QQ (lcN w p tst turn FU 0 base S0)) :
    ∃ Wf : Nat → Nat → Hp → Prop, (∃ m, Wf 0 m H0) ∧ ∀ i m H, Wf i m H →
      (J.stop i H ∧ QQ H) ∨ (J.go i H ∧ ∃ Nx : Hp → Prop, (∀ H', Nx H' → ∃ m', m' < m ∧ Wf (i + 1) m' H') ∧ ∀ x H', J.yld i H x H' → gL X.K T p x (wipe σ vs) H' fun σ2 H2 => wipe σ2 vs = wipe σ vs ∧ lift X.K T WF (fun _ _ _ a b => b = a) tst σ2 H2 fun b H3 =>
        if b = true then TU σ2 H3 Nx else Nx H3) := by
  refine ⟨fun i m H => ∃ S io, Rel X.K T S io H ∧ EnvR X.K S.length io H base (wipe σ vs) ∧ JR X.K S.length io H w J ∧ io d = D ∧ d < S.length ∧ PU X.K T W d D S io H QQ (lcN w p tst turn m i base S), ⟨FU, S0, io0, rel0, er0, hj0, hd0, hl0, post0⟩, ?_⟩
  rintro i m H ⟨S, io, rel, er, hj, hd, hl, post⟩
  cases m with
  | zero => exact post.elim
  | succ m =>
    simp only [lcN] at post
    obtain ⟨t1, t2⟩ := walk_turn (i := i) rel hj
    cases e0 : w.at i S with
    | none => rw [e0] at post; exact post.elim
    | some o =>
      rw [e0] at post
      cases o with
      | none => exact .inl ⟨t1 e0, Post.val (v := ()) rel post ⟨hd, hl⟩⟩
      | some x =>
        obtain ⟨g1, g2⟩ := t2 x e0
        refine .inr ⟨g1, fun H' => ∃ S' io', Rel X.K T S' io' H' ∧ EnvR X.K S'.length io' H' base (wipe σ vs) ∧ JR X.K S'.length io' H' w J ∧ io' d = D ∧ d < S'.length ∧ PU X.K T W d D S' io' H' QQ (lcN w p tst turn m (i + 1) base S'), fun H' hN => ⟨m, Nat.lt_succ_self m, hN⟩, fun v H' hy => ?_⟩
        obtain ⟨rel', ex', rv⟩ := g2 v H' hy
        replace er := er.mono ex' (Nat.le_refl _)
        replace hj := hj.mono ex' (Nat.le_refl _)
        replace post := Post.start ex' (Nat.le_refl _) post
        replace rel := rel'
        simp only at post
        split at post
        · exact post.elim
        · rename_i env1 e1
          refine ⟨S, io, base, x, env1, rel, er, rv, e1, fun σ2 er2 sb => ⟨wipe_sameBut sb hp, S, io, env1, rel, er2, ?_⟩⟩
          refine Post.bindN (R1 := fun _ _ _ a b => b = a) post fun b S2 io2 H2 v ex l rel2 rb post2 => ?_
          have rb : v = b := rb
          subst rb
          have hd2 : io2 d = D := (ex.io d hl).trans hd
          cases v with
          | false => exact iteF ⟨S2, io2, rel2, er.mono ex l, hj.mono ex l, hd2, Nat.lt_of_lt_of_le hl l, post2⟩
          | true => exact iteT (hturn env1 σ2 S2 io2 H2 _ _ rel2 (er2.mono ex l) hd2 (Nat.lt_of_lt_of_le hl l) post2 fun S3 io3 H3 ex3 l3 rel3 hd3 post3 =>
              ⟨S3, io3, rel3, (er.mono ex l).mono ex3 l3, (hj.mono ex l).mono ex3 l3, hd3, Nat.lt_of_lt_of_le (Nat.lt_of_lt_of_le hl l) l3, post3⟩)
/-- the element's turn -/
def tuE (K : PySem.W.Frag) (T : Tb) (D : Addr) (m : Env → Sto → Res PV) : L2.St → Hp → (Hp → Prop) → Prop := fun σ2 H Nx =>
  lift K T WF (Rep K) m σ2 H fun y H4 => ∃ acc, H4 D = some (.lst acc) ∧ acc.length < sizeLine ∧ Nx (upd H4 D (.lst (acc ++ [y])))
theorem elt_turn {c : Ctx} {e : E} {d : Nat} {D : Addr} {QQ : Hp → Prop} (env1 : Env) (σ2 : L2.St) (S1 : Sto) (io1 : Nat → Addr) (H1 : Hp) (f : Unit → Sto → Res Unit) (Nx : Hp → Prop) (rel : Rel X.K T S1 io1 H1) (er : EnvR X.K S1.length io1 H1 env1 σ2)
    (hd : io1 d = D) (hl : d < S1.length) (post : PU X.K T W d D S1 io1 H1 QQ ((eltD c e d env1 S1).nox.bind f))
    (hN : ∀ S2 io2 H2, Ex S1.length io1 H1 io2 H2 → S1.length ≤ S2.length → Rel X.K T S2 io2 H2 → io2 d = D → PU X.K T W d D S2 io2 H2 QQ (f () S2) → Nx H2) : tuE X.K T D (ev c e) σ2 H1 Nx := by
  unfold eltD at post
  rw [nox_bind] at post
  refine ⟨S1, io1, env1, rel, er, Post.bindN post fun p S2 io2 H2 v ex l rel2 rp post2 => ?_⟩
  have hd2 : io2 d = D := (ex.io d hl).trans hd
  unfold appD at post2
  split at post2
  · rename_i acc e1
    split at post2
    · rename_i hz
      obtain ⟨vs, h1, h2⟩ := rel2.lst e1
      obtain ⟨rel3, ex3⟩ := rel2.put (o := .lst (vs ++ [v])) (q := .lst (acc ++ [p])) e1 rfl rfl fun ex => ⟨_, upd_same, (h2.append (.cons rp .nil)).mono ex (Nat.le_refl _)⟩
      rw [hd2] at h1 rel3 ex3
      exact ⟨vs, h1, by rw [h2.length, line_eq]; exact hz, hN _ io2 _ (ex.trans l ex3) (by simp; exact l) rel3 hd2 (Post.start ex3 (by simp) post2)⟩
    · exact post2.elim
  · exact post2.elim
/-- the second clause -/
def tuC (K : PySem.W.Frag) (T : Tb) (D : Addr) (vs1 : List Nat) (mi : Env → Sto → Res Wk) (p : Pat) (mt : Env → Sto → Res Bool) (m : Env → Sto → Res PV) : L2.St → Hp → (Hp → Prop) → Prop := fun σ2 H3 Nx =>
  lift K T WF (JR K) mi σ2 H3 fun J1 H4 => ∃ W1 : Nat → Nat → Hp → Prop, (∃ m, W1 0 m H4) ∧ ∀ j k H, W1 j k H →
      (J1.stop j H ∧ Nx H) ∨ (J1.go j H ∧ ∃ Nx1 : Hp → Prop, (∀ H', Nx1 H' → ∃ k', k' < k ∧ W1 (j + 1) k' H') ∧ ∀ x H', J1.yld j H x H' → gL K T p x (wipe σ2 vs1) H' fun σ3 H5 => wipe σ3 vs1 = wipe σ2 vs1 ∧ lift K T WF (fun _ _ _ a b => b = a) mt σ3 H5 fun b H6 =>
        if b = true then tuE K T D m σ3 H6 Nx1 else Nx1 H6)
theorem cl_turn {c : Ctx} {c2 : Cl} {e : E} {d : Nat} {D : Addr} {QQ : Hp → Prop} (hp : ∀ j ∈ pSl c2.p, j ∈ c2.own) (env1 : Env) (σ2 : L2.St) (S1 : Sto) (io1 : Nat → Addr) (H1 : Hp) (f : Unit → Sto → Res Unit) (Nx : Hp → Prop) (rel : Rel X.K T S1 io1 H1) (er : EnvR X.K S1.length io1 H1 env1 σ2)
    (hd : io1 d = D) (hl : d < S1.length) (post : PU X.K T W d D S1 io1 H1 QQ ((lc2T c c2 e d env1 S1).nox.bind f))
    (hN : ∀ S2 io2 H2, Ex S1.length io1 H1 io2 H2 → S1.length ≤ S2.length → Rel X.K T S2 io2 H2 → io2 d = D → PU X.K T W d D S2 io2 H2 QQ (f () S2) → Nx H2) : tuC X.K T D c2.own (evI c c2.it) c2.p (evTs c c2.ts) (ev c e) σ2 H1 Nx := by
  unfold lc2T at post
  rw [nox_bind] at post
  refine ⟨S1, io1, env1, rel, er, Post.bindN post fun w S2 io2 H2 J ex l rel2 hj post2 => ?_⟩
  have hd2 : io2 d = D := (ex.io d hl).trans hd
  refine lc_turns (W := WF) (TU := tuE X.K T D (ev c e)) hp rel2 (envR_wipe (er.mono ex l) _) hj hd2 (Nat.lt_of_lt_of_le hl l) (fun env1 σ2 S1 io1 H1 f Nx r e h1 h2 p n => elt_turn env1 σ2 S1 io1 H1 f Nx r e h1 h2 p n) (Post.bindN post2 fun _ S3 io3 H3 _ ex3 l3 rel3 hh post3 => hN S3 io3 H3 (ex.trans l ex3) (Nat.le_trans l l3) rel3 hh.1 post3)
/-- a pair's turn -/
def tuP (K : PySem.W.Frag) (T : Tb) (D : Addr) (mk mv : Env → Sto → Res PV) : L2.St → Hp → (Hp → Prop) → Prop := fun σ2 H Nx =>
  lift K T WF (Rep K) mk σ2 H fun y H4 => lift K T WF (Rep K) mv σ2 H4 fun z H5 => ∃ kvs k, y = kV k ∧ H5 D = some (.dK kvs) ∧ kvs.length < sizeLine ∧ Nx (upd H5 D (.dK (putK kvs k z)))
theorem pair_turn {c : Ctx} {e v : E} {d : Nat} {D : Addr} {QQ : Hp → Prop} (env1 : Env) (σ2 : L2.St) (S1 : Sto) (io1 : Nat → Addr) (H1 : Hp) (f : Unit → Sto → Res Unit) (Nx : Hp → Prop) (rel : Rel X.K T S1 io1 H1) (er : EnvR X.K S1.length io1 H1 env1 σ2)
    (hd : io1 d = D) (hl : d < S1.length) (post : PU X.K T W d D S1 io1 H1 QQ ((eltP c e v d env1 S1).nox.bind f))
    (hN : ∀ S2 io2 H2, Ex S1.length io1 H1 io2 H2 → S1.length ≤ S2.length → Rel X.K T S2 io2 H2 → io2 d = D → PU X.K T W d D S2 io2 H2 QQ (f () S2) → Nx H2) : tuP X.K T D (ev c e) (ev c v) σ2 H1 Nx := by
  unfold eltP at post
  rw [nox_bind] at post
  refine ⟨S1, io1, env1, rel, er, Post.bindN post fun q S2 io2 H2 y ex l rel2 rq post2 => ?_⟩
  rw [nox_bind] at post2
  refine ⟨S2, io2, env1, rel2, er.mono ex l, Post.bindN post2 fun p S3 io3 H3 z ex3 l3 rel3 rp post3 => ?_⟩
  have hd3 : io3 d = D := (ex3.io d (Nat.lt_of_lt_of_le hl l)).trans ((ex.io d hl).trans hd)
  unfold putT at post3
  split at post3
  · rename_i kvs e1
    split at post3
    · rename_i hk
      simp only [Bool.and_eq_true, decide_eq_true_eq] at hk
      obtain ⟨xs, h1, h2⟩ := rel3.dic e1
      obtain ⟨rel4, ex4⟩ := rel3.put (o := .dK (putK xs (kP q) z)) (q := .dic (putD q p kvs)) e1 rfl rfl fun ex => ⟨_, upd_same, (h2.put hk.1 rp).mono ex (Nat.le_refl _)⟩
      rw [hd3] at h1 rel4 ex4
      exact ⟨xs, kP q, kP_V hk.1 rq, h1, by rw [h2.length, line_eq]; exact hk.2, hN _ io3 _ ((ex.trans l ex3).trans (Nat.le_trans l l3) ex4) (by simp; exact Nat.le_trans l l3) rel4 hd3 (Post.start ex4 (by simp) post3)⟩
    · exact post3.elim
  · exact post3.elim
/-- the start of a dict comprehension -/
theorem dct_start {S : Sto} {io : Nat → Addr} {H : Hp} {D : Addr} {Q : VK} {r : Res Unit} (rel : Rel X.K T S io H) (nD : H D = none) (post : Post X.K T W (Rep X.K) S io H Q (r.bind fun _ S' => .ok (.obj S.length) S')) :
    ∃ io', Rel X.K T (S ++ [.dic []]) io' (upd H D (.dK [])) ∧ Ex S.length io H io' (upd H D (.dK [])) ∧ io' S.length = D ∧ PU X.K T W S.length D (S ++ [.dic []]) io' (upd H D (.dK [])) (fun H => Q (.ref D) H) r := by
  obtain ⟨rel', ex⟩ := rel.alloc (o := .dK []) (q := .dic []) nD ⟨[], upd_same, rfl⟩
  refine ⟨_, rel', ex, if_pos rfl, ?_⟩
  refine Post.bind (R1 := fun n io' _ _ _ => io' S.length = D ∧ S.length < n) (Post.start ex (by simp) post) fun p S1 io1 H1 v e1 l1 rel1 hh post1 => ?_
  exact post1.val rel1 ⟨hh.2, by rw [hh.1]⟩
/-- the start of a comprehension's list -/
theorem lst_start {S : Sto} {io : Nat → Addr} {H : Hp} {D : Addr} {Q : VK} {r : Res Unit} (rel : Rel X.K T S io H) (nD : H D = none) (post : Post X.K T W (Rep X.K) S io H Q (r.bind fun _ S' => .ok (.obj S.length) S')) :
    ∃ io', Rel X.K T (S ++ [.lst []]) io' (upd H D (.lst [])) ∧ Ex S.length io H io' (upd H D (.lst [])) ∧ io' S.length = D ∧ PU X.K T W S.length D (S ++ [.lst []]) io' (upd H D (.lst [])) (fun H => Q (.ref D) H) r := by
  obtain ⟨rel', ex⟩ := rel.alloc (o := .lst []) (q := .lst []) nD ⟨[], upd_same, rfl⟩
  refine ⟨_, rel', ex, if_pos rfl, ?_⟩
  refine Post.bind (R1 := fun n io' _ _ _ => io' S.length = D ∧ S.length < n) (Post.start ex (by simp) post) fun p S1 io1 H1 v e1 l1 rel1 hh post1 => ?_
  exact post1.val rel1 ⟨hh.2, by rw [hh.1]⟩
theorem sTs {X : Cx} (C : Cok X k T R W N sc) (P : PG X.prog X.w X.K X.mg X.base T R k cf gl G) {gk : Nat → Expr → Bool} (Hg : ∀ g a, gk g a = true → PE X a (LE X T W (gf g))) : ∀ {ts : List TM.T} {ifs : List Expr}, ckTs gk N sc G ts ifs = true → PTs X ifs (LT X T W (evTs ⟨cf, gl, gf⟩ ts))
  | [], [], _ => ⟨fun pins s σ H Q I h => pts_nil.run pins s σ H Q I (by
      obtain ⟨S, io, env, rel, er, post⟩ := h
      exact Post.val (R := fun _ _ _ a b => b = a) rel post rfl)⟩
  | [t], [c], h => ⟨fun pins s σ H Q I hh => (pts_one (sT C P Hg t c h)).run pins s σ H Q I (by
      obtain ⟨S, io, env, rel, er, post⟩ := hh
      simp only [evTs] at post
      refine Post.head rel er post fun S io H p v rel er rp post => ?_
      have rp : v = p := rp
      subst rp
      cases v with
      | true => exact Post.val (R := fun _ _ _ a b => b = a) rel post rfl
      | false => exact Post.val (R := fun _ _ _ a b => b = a) rel post rfl)⟩
  | [], _ :: _, h => by cases h
  | [_], [], h => by cases h
  | [_], _ :: _ :: _, h => by cases h
  | _ :: _ :: _, _, h => by cases h
theorem ownN_snd (N : List Str) (own : List Nat) : (ownN N own).map (·.2) = own := by simp [ownN, List.map_map, Function.comp_def]
theorem cok_blk {s : Shared} {H : Hp} {scope : Scope} {Cd : Addr} {cl : List (Str × Addr)} {fp : List Addr} (C : Cok X k T R W N sc) : Cok (X.blk s H scope (compEnvC scope cl Cd X.env) fp) k T R WF N (relS scope sc) := by
  refine ⟨C.calm, C.nd, C.hN, by rw [← C.hsc]; rfl, C.room1, fun pins σ H s e s' I c => ?_, PassesOwn.never⟩
  obtain ⟨_, _, _, _, _, _, _, _, _, _, _, _, _, _, _, _, _, z⟩ := c
  exact z.elim
theorem cokP_blk {s : Shared} {H : Hp} {scope : Scope} {Cd : Addr} {cl : List (Str × Addr)} {fp : List Addr} (C : Cok X k T R W N sc) : CokP (X.blk s H scope (compEnvC scope cl Cd X.env) fp) N scope := by
  refine ⟨C.calm, C.nd, C.hN, fun x hx => ?_⟩
  rcases loc_of hx with h | h
  · have q : (relS scope X.env.scope).names.lookup x = some .local := lookup_relS_keep (by intro z; cases z) h
    exact ⟨.inl q, .inr q⟩
  · have q : (relS scope X.env.scope).names.lookup x = some .cell := lookup_relS_keep (by intro z; cases z) h
    exact ⟨.inr q, .inl (by show (scope.names.lookup x == some .cell) = true; rw [h]; rfl)⟩
theorem fold_ok {e : Expr} {env : PySem.Env} (h : notSet e = true) (x : Value) : foldedSetIterable e env x = pure x := by
  cases e <;> first | rfl | cases h
theorem mem_all {a b : List Nat} (h : a.all (fun i => b.contains i) = true) : ∀ j ∈ a, j ∈ b := fun j hj => by
  have := List.all_eq_true.mp h j hj
  simpa using this
end
end TM

/-! TM, part O: list comprehensions are sound; all comprehensions of a def. -/
namespace TM
open PySem PySem.Spec PyProof.Rows L2 TG GxR
section
variable {X : Cx} {k : Nat} {T : Tb} {R : PXT} {W : Wish} {N : List Str} {sc : Scope} {cf : Nat → List PV → Sto → Res PV} {gl : Nat → PV} {gf : Nat → Env → Sto → Res PV} {gk : GKT} {ag : Bool} {G : GT}
abbrev wT (K : PySem.W.Frag) (T : Tb) (m : Env → Sto → Res Bool) : TT := lift K T WF (fun _ _ _ a b => b = a) m
theorem key1 {γ : Gen} {c : Ctx} {σ : L2.St} {H : Hp} {Q : VK} (hp : ∀ j ∈ pSl γ.c.p, j ∈ γ.c.own) (h : LE X T W (evL1 c γ) σ H Q) :
    tLc (LI X T W (evI c γ.c.it)) (gL X.K T γ.c.p) (wT X.K T (evTs c γ.c.ts)) (lift X.K T WF (Rep X.K) (ev c γ.e)) γ.c.own σ H Q := by
  obtain ⟨S, io, env, rel, er, post⟩ := h
  unfold evL1 at post
  refine Post.head rel er post fun S io H w J rel er hj post => fun D nD => ?_
  obtain ⟨io', rel', ex, hd, pu⟩ := lst_start rel nD post
  exact lc_turns (TU := tuE X.K T D (ev c γ.e)) hp rel' (envR_wipe (er.mono ex (by simp)) _) (hj.mono ex (by simp)) hd (by simp) (fun env1 σ2 S1 io1 H1 f Nx r e h1 h2 p n => elt_turn env1 σ2 S1 io1 H1 f Nx r e h1 h2 p n) pu
theorem key2 {γ : Gen} {c : Ctx} {c2 : Cl} {σ : L2.St} {H : Hp} {Q : VK} (hp : ∀ j ∈ pSl γ.c.p, j ∈ γ.c.own) (hp2 : ∀ j ∈ pSl c2.p, j ∈ c2.own) (h : LE X T W (evL2 c γ c2) σ H Q) :
    tLc2 (LI X T W (evI c γ.c.it)) (gL X.K T γ.c.p) (wT X.K T (evTs c γ.c.ts)) (lift X.K T WF (JR X.K) (evI c c2.it)) (gL X.K T c2.p) (wT X.K T (evTs c c2.ts)) (lift X.K T WF (Rep X.K) (ev c γ.e)) γ.c.own c2.own σ H Q := by
  obtain ⟨S, io, env, rel, er, post⟩ := h
  unfold evL2 at post
  refine Post.head rel er post fun S io H w J rel er hj post => fun D nD => ?_
  obtain ⟨io', rel', ex, hd, pu⟩ := lst_start rel nD post
  exact lc_turns (TU := tuC X.K T D c2.own (evI c c2.it) c2.p (evTs c c2.ts) (ev c γ.e)) hp rel' (envR_wipe (er.mono ex (by simp)) _) (hj.mono ex (by simp)) hd (by simp) (fun env1 σ2 S1 io1 H1 f Nx r e h1 h2 p n => cl_turn hp2 env1 σ2 S1 io1 H1 f Nx r e h1 h2 p n) pu
/-- what a list comprehension needs, of both of its uses -/
theorem lst_any {γ : Gen} {elt : Expr} {gs : List Comprehension} {scope : Scope} (C : Cok X k T R W N sc) (hr1 : Room (k + 1) X.A) (P : PG X.prog X.w X.K X.mg X.base T R k cf gl G) (Hk : Hook X.prog X.w X.K X.mg X.base T R k gk gf)
    (hag : ag = true → Room (k + 2) X.A ∧ ∃ c0 P0, TabB X.base X.mg c0 P0 ∧ X.env.code = .ref c0 ∧ P0 ∈ T) (hk : γ.kd = .lst) (h : ckLst gk ag N sc G γ elt gs scope = true) :
    (∀ pos, PE X (.ListComp elt gs scope pos) (LE X T W (evG ⟨cf, gl, gf⟩ γ))) ∧
    ∀ i y py pos spos, X.N[i]? = some y → X.env.scope.names.lookup y = some .local → swapsWith (.ListComp elt gs scope pos) (some (.Name y py)) spos.line X.env = pure true →
      L2.PS X (.Assign [.Name y py] (.ListComp elt gs scope pos) spos) (tAsg (LE X T W (evG ⟨cf, gl, gf⟩ γ)) (gName i)) := by
  have HgX := Hk X W N sc ag rfl rfl rfl rfl rfl C hr1 hag
  have Cb : ∀ s H Cd cl fp, Cok (X.blk s H scope (compEnvC scope cl Cd X.env) fp) k T R WF N (relS scope sc) := fun s H Cd cl fp => cok_blk C
  have Cp : ∀ s H Cd cl fp, CokP (X.blk s H scope (compEnvC scope cl Cd X.env) fp) N scope := fun s H Cd cl fp => cokP_blk C
  have HgB : ∀ s H Cd cl fp g a, gk ag N (relS scope sc) g a = true → PE (X.blk s H scope (compEnvC scope cl Cd X.env) fp) a (LE (X.blk s H scope (compEnvC scope cl Cd X.env) fp) T WF (gf g)) := fun s H Cd cl fp =>
    Hk (X.blk s H scope (compEnvC scope cl Cd X.env) fp) WF N (relS scope sc) ag rfl rfl rfl rfl rfl (Cb s H Cd cl fp) hr1 hag
  have hN : X.N.Nodup := by rw [C.hN]; exact C.nd
  unfold ckLst at h
  split at h
  · rename_i tg iter ifs
    split at h
    · rename_i ec
      simp only [Bool.and_eq_true] at h
      obtain ⟨⟨⟨⟨⟨⟨⟨h1, h2⟩, h3⟩, h4⟩, h5⟩, h6⟩, h7⟩, h8⟩ := h
      have ok : BlkOk X.N X.env.scope scope (ownN N γ.c.own) := by rw [C.hN, C.hsc]; exact blkOk_by h1
      have e0 : evG ⟨cf, gl, gf⟩ γ = evL1 ⟨cf, gl, gf⟩ γ := by funext env S; unfold evG; rw [hk, ec]
      have hi := sI C P HgX (tg := tg) h6 h5
      have hg : ∀ s H Cd cl fp, L2.PG (X.blk s H scope (compEnvC scope cl Cd X.env) fp) tg (gL X.K T γ.c.p) := fun s H Cd cl fp => sP (T := T) (Cp s H Cd cl fp) γ.c.p tg h4
      have ht : ∀ s H Cd cl fp, PTs (X.blk s H scope (compEnvC scope cl Cd X.env) fp) ifs (wT X.K T (evTs ⟨cf, gl, gf⟩ γ.c.ts)) := fun s H Cd cl fp => sTs (Cb s H Cd cl fp) P (HgB s H Cd cl fp) h7
      have he : ∀ s H Cd cl fp, PE (X.blk s H scope (compEnvC scope cl Cd X.env) fp) elt (lift X.K T WF (Rep X.K) (ev ⟨cf, gl, gf⟩ γ.e)) := fun s H Cd cl fp => sE (Cb s H Cd cl fp) P (HgB s H Cd cl fp) γ.e elt h8
      rw [e0]
      refine ⟨fun pos => PE.imp (pe_lc C.calm hN hi ok hg ht he (fold_ok h3)) fun σ H Q hh => ?_, fun i y py pos spos hy hyl hsw => PS.imp (ps_setLc C.calm hN hy hyl hsw hi ok hg ht he (fold_ok h3)) fun D σ H hh => ?_⟩
      · rw [ownN_snd]; exact key1 (mem_all h2) hh
      · show tLc _ _ _ _ _ σ H _
        rw [ownN_snd]; exact key1 (mem_all h2) hh
    · cases h
  · rename_i tg iter ifs tg1 iter1 ifs1
    split at h
    · rename_i c2 ec
      simp only [Bool.and_eq_true] at h
      obtain ⟨⟨⟨⟨⟨⟨⟨⟨⟨⟨⟨⟨⟨⟨h1, h2⟩, h3⟩, h4⟩, h5⟩, h6⟩, h7⟩, h8⟩, k1⟩, k2⟩, k3⟩, k4⟩, k5⟩, k6⟩, k7⟩ := h
      have ok : BlkOk X.N X.env.scope scope (ownN N γ.c.own) := by rw [C.hN, C.hsc]; exact blkOk_by h1
      have e0 : evG ⟨cf, gl, gf⟩ γ = evL2 ⟨cf, gl, gf⟩ γ c2 := by funext env S; unfold evG; rw [hk, ec]
      have hi := sI C P HgX (tg := tg) h6 h5
      have hg : ∀ s H Cd cl fp, L2.PG (X.blk s H scope (compEnvC scope cl Cd X.env) fp) tg (gL X.K T γ.c.p) := fun s H Cd cl fp => sP (T := T) (Cp s H Cd cl fp) γ.c.p tg h4
      have ht : ∀ s H Cd cl fp, PTs (X.blk s H scope (compEnvC scope cl Cd X.env) fp) ifs (wT X.K T (evTs ⟨cf, gl, gf⟩ γ.c.ts)) := fun s H Cd cl fp => sTs (Cb s H Cd cl fp) P (HgB s H Cd cl fp) h7
      have he : ∀ s H Cd cl fp, PE (X.blk s H scope (compEnvC scope cl Cd X.env) fp) elt (lift X.K T WF (Rep X.K) (ev ⟨cf, gl, gf⟩ γ.e)) := fun s H Cd cl fp => sE (Cb s H Cd cl fp) P (HgB s H Cd cl fp) γ.e elt h8
      have hi1 : ∀ s H Cd cl fp, PI (X.blk s H scope (compEnvC scope cl Cd X.env) fp) tg1 iter1 (lift X.K T WF (JR X.K) (evI ⟨cf, gl, gf⟩ c2.it)) := fun s H Cd cl fp => sI (Cb s H Cd cl fp) P (HgB s H Cd cl fp) (tg := tg1) k6 k5
      have hg1 : ∀ s H Cd cl fp, L2.PG (X.blk s H scope (compEnvC scope cl Cd X.env) fp) tg1 (gL X.K T c2.p) := fun s H Cd cl fp => sP (T := T) (Cp s H Cd cl fp) c2.p tg1 k4
      have ht1 : ∀ s H Cd cl fp, PTs (X.blk s H scope (compEnvC scope cl Cd X.env) fp) ifs1 (wT X.K T (evTs ⟨cf, gl, gf⟩ c2.ts)) := fun s H Cd cl fp => sTs (Cb s H Cd cl fp) P (HgB s H Cd cl fp) k7
      have hv : ∀ i ∈ c2.own, i ∈ (ownN N γ.c.own).map (·.2) := by rw [ownN_snd]; exact mem_all k1
      rw [e0]
      refine ⟨fun pos => PE.imp (pe_lc2 C.calm hN hi ok hv hg ht hi1 hg1 ht1 he (fold_ok h3) fun env => fold_ok k3) fun σ H Q hh => ?_, fun i y py pos spos hy hyl hsw => PS.imp (ps_setLc2 C.calm hN hy hyl hsw hi ok hv hg ht hi1 hg1 ht1 he (fold_ok h3) fun env => fold_ok k3) fun D σ H hh => ?_⟩
      · rw [ownN_snd]; exact key2 (mem_all h2) (mem_all k2) hh
      · show tLc2 _ _ _ _ _ _ _ _ _ σ H _
        rw [ownN_snd]; exact key2 (mem_all h2) (mem_all k2) hh
    · cases h
  · cases h
theorem key3 {γ : Gen} {c : Ctx} {σ : L2.St} {H : Hp} {Q : VK} (hp : ∀ j ∈ pSl γ.c.p, j ∈ γ.c.own) (h : LE X T W (evD1 c γ) σ H Q) :
    tDc (LI X T W (evI c γ.c.it)) (gL X.K T γ.c.p) (wT X.K T (evTs c γ.c.ts)) (lift X.K T WF (Rep X.K) (ev c γ.e)) (lift X.K T WF (Rep X.K) (ev c γ.v)) γ.c.own σ H Q := by
  obtain ⟨S, io, env, rel, er, post⟩ := h
  unfold evD1 at post
  refine Post.head rel er post fun S io H w J rel er hj post => fun D nD => ?_
  obtain ⟨io', rel', ex, hd, pu⟩ := dct_start rel nD post
  exact lc_turns (TU := tuP X.K T D (ev c γ.e) (ev c γ.v)) hp rel' (envR_wipe (er.mono ex (by simp)) _) (hj.mono ex (by simp)) hd (by simp) (fun env1 σ2 S1 io1 H1 f Nx r e h1 h2 p n => pair_turn env1 σ2 S1 io1 H1 f Nx r e h1 h2 p n) pu
theorem dct_any {γ : Gen} {kx vx tg iter : Expr} {ifs : List Expr} {scope : Scope} {pos : Pos} (C : Cok X k T R W N sc) (hr1 : Room (k + 1) X.A) (P : PG X.prog X.w X.K X.mg X.base T R k cf gl G) (Hk : Hook X.prog X.w X.K X.mg X.base T R k gk gf)
    (hag : ag = true → Room (k + 2) X.A ∧ ∃ c0 P0, TabB X.base X.mg c0 P0 ∧ X.env.code = .ref c0 ∧ P0 ∈ T) (hk : γ.kd = .dct) (h : ckDct gk ag N sc G γ kx vx tg iter ifs scope = true) :
    PE X (.DictComp kx vx [⟨tg, iter, ifs, 0⟩] scope pos) (LE X T W (evG ⟨cf, gl, gf⟩ γ)) := by
  have HgX := Hk X W N sc ag rfl rfl rfl rfl rfl C hr1 hag
  have Cb : ∀ s H Cd cl fp, Cok (X.blk s H scope (compEnvC scope cl Cd X.env) fp) k T R WF N (relS scope sc) := fun s H Cd cl fp => cok_blk C
  have Cp : ∀ s H Cd cl fp, CokP (X.blk s H scope (compEnvC scope cl Cd X.env) fp) N scope := fun s H Cd cl fp => cokP_blk C
  have HgB : ∀ s H Cd cl fp g a, gk ag N (relS scope sc) g a = true → PE (X.blk s H scope (compEnvC scope cl Cd X.env) fp) a (LE (X.blk s H scope (compEnvC scope cl Cd X.env) fp) T WF (gf g)) := fun s H Cd cl fp =>
    Hk (X.blk s H scope (compEnvC scope cl Cd X.env) fp) WF N (relS scope sc) ag rfl rfl rfl rfl rfl (Cb s H Cd cl fp) hr1 hag
  have hN : X.N.Nodup := by rw [C.hN]; exact C.nd
  unfold ckDct at h
  simp only [Bool.and_eq_true] at h
  obtain ⟨⟨⟨⟨⟨⟨⟨⟨⟨h1, h2⟩, h3⟩, h4⟩, h5⟩, h6⟩, h7⟩, h8⟩, h9⟩, h10⟩ := h
  have ec : γ.c2 = [] := by simpa using h10
  have ok : BlkOk X.N X.env.scope scope (ownN N γ.c.own) := by rw [C.hN, C.hsc]; exact blkOk_by h1
  have e0 : evG ⟨cf, gl, gf⟩ γ = evD1 ⟨cf, gl, gf⟩ γ := by funext env S; unfold evG; rw [hk, ec]
  rw [e0]
  have hi := sI C P HgX (tg := tg) h6 h5
  have hg : ∀ s H Cd cl fp, L2.PG (X.blk s H scope (compEnvC scope cl Cd X.env) fp) tg (gL X.K T γ.c.p) := fun s H Cd cl fp => sP (T := T) (Cp s H Cd cl fp) γ.c.p tg h4
  have ht : ∀ s H Cd cl fp, PTs (X.blk s H scope (compEnvC scope cl Cd X.env) fp) ifs (wT X.K T (evTs ⟨cf, gl, gf⟩ γ.c.ts)) := fun s H Cd cl fp => sTs (Cb s H Cd cl fp) P (HgB s H Cd cl fp) h7
  have he : ∀ s H Cd cl fp, PE (X.blk s H scope (compEnvC scope cl Cd X.env) fp) kx (lift X.K T WF (Rep X.K) (ev ⟨cf, gl, gf⟩ γ.e)) := fun s H Cd cl fp => sE (Cb s H Cd cl fp) P (HgB s H Cd cl fp) γ.e kx h8
  have hv : ∀ s H Cd cl fp, PE (X.blk s H scope (compEnvC scope cl Cd X.env) fp) vx (lift X.K T WF (Rep X.K) (ev ⟨cf, gl, gf⟩ γ.v)) := fun s H Cd cl fp => sE (Cb s H Cd cl fp) P (HgB s H Cd cl fp) γ.v vx h9
  refine PE.imp (pe_dc C.calm hN hi ok hg ht he hv (fold_ok h3)) fun σ H Q hh => ?_
  rw [ownN_snd]
  exact key3 (mem_all h2) hh
/-- a comprehension, or all or any of a generator expression -/
theorem sGen {γ : Gen} {a : Expr} (C : Cok X k T R W N sc) (hr1 : Room (k + 1) X.A) (P : PG X.prog X.w X.K X.mg X.base T R k cf gl G) (Hk : Hook X.prog X.w X.K X.mg X.base T R k gk gf)
    (hag : ag = true → Room (k + 2) X.A ∧ ∃ c0 P0, TabB X.base X.mg c0 P0 ∧ X.env.code = .ref c0 ∧ P0 ∈ T) (h : ckGen gk ag N sc G γ a = true) : PE X a (LE X T W (evG ⟨cf, gl, gf⟩ γ)) := by
  unfold ckGen at h
  split at h
  · rename_i hk
    rw [Bool.and_eq_true] at h
    obtain ⟨hr2, c0, P0, TB, hc, hP⟩ := hag h.1
    have e0 : evG ⟨cf, gl, gf⟩ γ = evA ⟨cf, gl, gf⟩ true γ := by funext env S; unfold evG; rw [hk]
    rw [e0]
    exact sAll C hr2 P Hk hag TB hc hP h.2
  · rename_i hk
    rw [Bool.and_eq_true] at h
    obtain ⟨hr2, c0, P0, TB, hc, hP⟩ := hag h.1
    have e0 : evG ⟨cf, gl, gf⟩ γ = evA ⟨cf, gl, gf⟩ false γ := by funext env S; unfold evG; rw [hk]
    rw [e0]
    exact sAll C hr2 P Hk hag TB hc hP h.2
  · rename_i hk
    split at h
    · exact (lst_any C hr1 P Hk hag hk h).1 _
    · cases h
  · rename_i hk
    split at h
    · exact dct_any C hr1 P Hk hag hk h
    · cases h
end
/-- the checks of the numbered comprehensions, n deep -/
def gkN (gs : List Gen) (G : GT) : Nat → GKT
  | 0 => noGk
  | n + 1 => fun ag N sc g a => match gs[g]? with
    | some γ => ckGen (gkN gs G n) ag N sc G γ a
    | none => false
/-- .. of one given to a name -/
def gaN (gs : List Gen) (G : GT) (n : Nat) (ag : Bool) (N : List Str) (sc : Scope) (g i : Nat) (a : Stmt) : Bool := match gs[g]? with
  | some γ => match a with
    | .Assign [.Name y py] (.ListComp elt cs scope pos) spos => decide (γ.kd = .lst) && slotB N y i && decide (sc.names.lookup y = some .local) && decide (sc.kind = .function) && (py.line == pos.line) &&
        !(scope.names.any fun (n, k) => n == y && (k == .local || k == .cell)) && ckLst (gkN gs G n) ag N sc G γ elt cs scope
    | _ => false
  | none => false
section
variable {P : Program} {w : World} {K : PySem.W.Frag} {mg : Str → Option Value} {base : Heap} {T : Tb} {R : PXT} {k : Nat} {cf : Nat → List PV → Sto → Res PV} {gl : Nat → PV} {gs : List Gen} {G : GT}
theorem hook_all (PP : PG P w K mg base T R k cf gl G) (n : Nat) : Hook P w K mg base T R k (gkN gs G n) (gfN cf gl gs n) := by
  induction n with
  | zero => exact fun X W N sc ag _ _ _ _ _ _ _ _ g a h => by cases h
  | succ n ih =>
    intro X W N sc ag e1 e2 e3 e4 e5 C hr hag g a h
    subst e1 e2 e3 e4 e5
    simp only [gkN] at h
    split at h
    · rename_i γ eg
      have e : gfN cf gl gs (n + 1) g = evG ⟨cf, gl, gfN cf gl gs n⟩ γ := by
        funext env S
        simp only [gfN, eg]
      rw [e]
      exact sGen C hr PP ih hag h
    · cases h
theorem set_all {X : Cx} {W : Wish} {N : List Str} {sc : Scope} {ag : Bool} {n : Nat} (PP : PG X.prog X.w X.K X.mg X.base T R k cf gl G) (C : Cok X k T R W N sc) (hr : Room (k + 1) X.A) (hag : ag = true → Room (k + 2) X.A ∧ ∃ c0 P0, TabB X.base X.mg c0 P0 ∧ X.env.code = .ref c0 ∧ P0 ∈ T)
    {g i : Nat} {a : Stmt} (h : gaN gs G n ag N sc g i a = true) : L2.PS X a (LS X.K T W (evS ⟨cf, gl, gfN cf gl gs (n + 1)⟩ (.set (.nm i) (.gcall g)))) := by
  unfold gaN at h
  split at h
  · rename_i γ eg
    split at h
    · rename_i y py elt cs scope pos spos
      simp only [Bool.and_eq_true, decide_eq_true_eq, Bool.not_eq_true'] at h
      obtain ⟨⟨⟨⟨⟨⟨h1, h2⟩, h3⟩, h4⟩, h5⟩, h6⟩, h7⟩ := h
      refine PS.imp ((lst_any C hr PP (hook_all PP n) hag h1 h7).2 i y py pos spos (slot_of C h2) (by rw [C.hsc]; exact h3) (sw_true (by rw [C.hsc]; exact h4) (by rw [C.hsc]; exact h3) h5 h6)) fun D σ H hh => ?_
      · obtain ⟨S, io, env, rel, er, post⟩ := hh
        simp only [evS, ev, gfN, eg] at post
        refine PostS.head rel er post fun S io H x v rel er rp post => ?_
        simp only [bindP] at post
        split at post
        · rename_i env' e
          split at e
          · cases e
            exact post io H _ .refl (Nat.le_refl _) rel (er.set rp)
          · cases e
        · exact post.elim
    · cases h
  · cases h
end
end TM

/-! TM, part K: defs, the program, the law's end. -/
namespace TM
open PySem PySem.Spec PyProof.Rows L2
theorem env_start {K : PySem.W.Frag} {n : Nat} {io : Nat → Addr} {H : Hp} {N : List Str} {as : List PV} {vs : List V} {np nn : Nat} (r : Reps K n io H as vs) (h1 : as.length = np) (h2 : nn = N.length) (h3 : np ≤ nn) :
    EnvR K n io H (as.map some ++ List.replicate (nn - np) none) (L2.start N vs) := by
  have hl := r.length
  unfold L2.start
  refine ⟨by simp [hl]; omega, fun i p e => ?_⟩
  by_cases hi : i < as.length
  · rw [List.getElem?_append_left (by simpa using hi), List.getElem?_map] at e
    cases e2 : as[i]? with
    | none => rw [e2] at e; cases e
    | some q =>
      rw [e2] at e
      cases e
      obtain ⟨v, h4, h5⟩ := r.get e2
      refine ⟨v, ?_, h5⟩
      rw [List.getElem?_append_left (by simp [hl]; exact hi), List.getElem?_map, h4]
      rfl
  · rw [List.getElem?_append_right (by simpa using hi), List.getElem?_replicate] at e
    split at e <;> cases e
/-- a def of the written part, its code object told -/
structure FunC (K : PySem.W.Frag) (x qual : Str) (st : Stmt) (f : Addr) (fd : FuncData) (cdv : Value) : Prop where
  ex : ∃ (oc : Value) (od : Option Addr) (kV doc pm : Value) (an : Option Addr) (ct : Value) (osl : Array (Option Value)),
    fd = PySem.W.fnOf x qual (defArgs st) (defBody st) (defScope st) .none kV doc pm an cdv ct ∧ K.lookup f = some ⟨oc, od, .func fd, osl⟩ ∧ PySem.W.codeIn K cdv qual = true
  kp : PySem.W.keepIn K (.ref f) = true
theorem funC_mk {K : PySem.W.Frag} {x qual : Str} {st : Stmt} {f : Addr} {oc : Value} {od an : Option Addr} {osl : Array (Option Value)} {kV doc pm cdv ct : Value} (l : K.lookup f = some ⟨oc, od, .func (PySem.W.fnOf x qual (defArgs st) (defBody st) (defScope st) .none kV doc pm an cdv ct), osl⟩)
    (c : PySem.W.codeIn K cdv qual = true) (k : PySem.W.keepIn K (.ref f) = true) : FunC K x qual st f (PySem.W.fnOf x qual (defArgs st) (defBody st) (defScope st) .none kV doc pm an cdv ct) cdv := ⟨⟨oc, od, kV, doc, pm, an, ct, osl, rfl, l, c⟩, k⟩
theorem FunC.old {K : PySem.W.Frag} {x qual : Str} {st : Stmt} {f : Addr} {fd : FuncData} {cdv : Value} (F : FunC K x qual st f fd cdv) : Fun K x qual st f fd := by
  obtain ⟨oc, od, kV, doc, pm, an, ct, osl, e, l, c⟩ := F.ex
  exact ⟨⟨oc, od, kV, doc, pm, an, cdv, ct, osl, e, l, c⟩, F.kp⟩
/-- a def's comprehensions hold a generator expression -/
def agOf (gs : List Gen) : Bool := gs.any fun γ => decide (γ.kd = .all) || decide (γ.kd = .any)
abbrev gkOf (gs : List Gen) (N : List Str) (sc : Scope) (G : GT) : Nat → Expr → Bool := gkN gs G 3 (agOf gs) N sc
abbrev gaOf (gs : List Gen) (N : List Str) (sc : Scope) (G : GT) : Nat → Nat → Stmt → Bool := gaN gs G 2 (agOf gs) N sc
/-- what a def must be; cs: the code objects whose tables are told -/
structure DefB (K : PySem.W.Frag) (cs : List (Addr × Addr)) (fs : List Fn) (G : GT) (j : Nat) (fa : Addr) (fd : FuncData) (ps : List Str) : Prop where
  bnd : Binds K fd ps []
  ex : ∃ nm qual st N fn cdv, FunC K nm qual st fa fd cdv ∧ FnScope N ps (defScope st) ∧ fs[j]? = some fn ∧ fn.np = ps.length ∧ fn.nn = N.length ∧ ckB (gkOf fn.gens N (defScope st) G) (gaOf fn.gens N (defScope st) G) N (defScope st) G fn.body (defBody st) = true ∧
    (agOf fn.gens = false ∨ ∃ c0 P0, cdv = .ref c0 ∧ (c0, P0) ∈ cs)
/-- .. of a name of the module -/
structure DefOk (K : PySem.W.Frag) (mg : Str → Option Value) (cs : List (Addr × Addr)) (fs : List Fn) (G : GT) (x : Str) (j : Nat) (fa : Addr) (fd : FuncData) (ps : List Str) : Prop extends DefB K cs fs G j fa fd ps where
  mg : mg x = some (.ref fa)
/-- the tables, the classes -/
abbrev tbOf (cs : List (Addr × Addr)) (cl : Nat → Addr) : Tb := ⟨cs.map (·.2), cl⟩
/-- what a class must be -/
structure ClsB (K : PySem.W.Frag) (mg : Str → Option Value) (cs : List (Addr × Addr)) (fs : List Fn) (G : GT) (x : Str) (C : Addr) (ci : CI) : Prop where
  mg : mg x = some (.ref C)
  cls : ClsK K C ci
  mkd : ∃ fa fd ps, Mk K C fa ∧ DefB K cs fs G ci.init fa fd ps
  meth : ∀ p ∈ ci.meths, ∃ fa fd ps, Meth K C p.1 fa ∧ DefB K cs fs G p.2 fa fd ps
  prop : ∀ p ∈ ci.props, ∃ pa fa fd ps, PropOf K C p.1 pa fa ∧ DefB K cs fs G p.2 fa fd ps
section
variable {P : Program} {w : World} {K : PySem.W.Frag} {mg : Str → Option Value} {base : Heap} {cs : List (Addr × Addr)} {cl : Nat → Addr} {R : PXT} {fs : List Fn} {gl : Nat → PV} {G : GT}
theorem def_ok {j k : Nat} {fa : Addr} {fd : FuncData} {ps : List Str} (D : DefB K cs fs G j fa fd ps) (hcs : ∀ p ∈ cs, GxR.TabB base mg p.1 p.2) (PP : PG P w K mg base (tbOf cs cl) R (3 * k) (callN fs gl k) gl G) :
    FnOk P w K mg base (L2.CX P w) (3 * k + 3) fa fd ps (spOf K (tbOf cs cl) R ps.length (callN fs gl (k + 1) j)) := by
  obtain ⟨nm, qual, st, N, fn, cdv, F, FS, hf, hnp, hnn, hck, hgens⟩ := D.ex
  obtain ⟨oc, od, kV, doc, pm, an, ct, osl, rfl, lk, hcd⟩ := F.ex
  refine fn_of (k := 3 * k + 2) lk hcd FS (fun vs H Q E h => h.1) fun A outer s H vs Q E hr h => ?_
  obtain ⟨hl, S, io, as, rel, rp, post⟩ := h
  have C : Cok (cxOf (L2.CX P w) P w K mg base N qual (defScope st) fa cdv A outer s H E) (3 * k) (tbOf cs cl) R (fun x S io H => ∀ cls d, R x cls d H → E cls d H) N (defScope st) := by
    refine ⟨rfl, FS.nd, rfl, rfl, hr.mono (by omega), ?_, passes_of (X := cxOf (L2.CX P w) P w K mg base N qual (defScope st) fa cdv A outer s H E) (K := fun e s'' => L2.CX P w outer H s E e s'') rfl⟩
    exact passes_call (X := cxOf (L2.CX P w) P w K mg base N qual (defScope st) fa cdv A outer s H E) (takes_of rfl rfl rfl rfl) fun cls d σ H' ⟨x, S, io, rel, hx, hw⟩ => hw cls d hx
  have CP : CokP (cxOf (L2.CX P w) P w K mg base N qual (defScope st) fa cdv A outer s H E) N (defScope st) := ⟨rfl, FS.nd, rfl, fun x hx => ⟨loc_of hx, .inl rfl⟩⟩
  have hr1 : Room (3 * k + 1) (cxOf (L2.CX P w) P w K mg base N qual (defScope st) fa cdv A outer s H E).A := hr.mono (by omega)
  have hag : agOf fn.gens = true → Room (3 * k + 2) (cxOf (L2.CX P w) P w K mg base N qual (defScope st) fa cdv A outer s H E).A ∧ ∃ c0 P0, GxR.TabB base mg c0 P0 ∧ (cxOf (L2.CX P w) P w K mg base N qual (defScope st) fa cdv A outer s H E).env.code = .ref c0 ∧ P0 ∈ tbOf cs cl := fun z => by
    rcases hgens with hg | ⟨c0, P0, e1, e2⟩
    · rw [hg] at z; cases z
    · exact ⟨hr, c0, P0, hcs _ e2, e1, List.mem_map.mpr ⟨_, e2, rfl⟩⟩
  have Hg : ∀ g a, gkOf fn.gens N (defScope st) G g a = true → PE (cxOf (L2.CX P w) P w K mg base N qual (defScope st) fa cdv A outer s H E) a
      (LE (cxOf (L2.CX P w) P w K mg base N qual (defScope st) fa cdv A outer s H E) (tbOf cs cl) (fun x S io H => ∀ cls d, R x cls d H → E cls d H) (gfOf (callN fs gl k) gl fn.gens g)) := hook_all (gs := fn.gens) PP 3 (cxOf (L2.CX P w) P w K mg base N qual (defScope st) fa cdv A outer s H E) (fun x S io H => ∀ cls d, R x cls d H → E cls d H) N (defScope st) (agOf fn.gens) rfl rfl rfl rfl rfl C hr1 hag
  have Ha : ∀ g i a, gaOf fn.gens N (defScope st) G g i a = true → L2.PS (cxOf (L2.CX P w) P w K mg base N qual (defScope st) fa cdv A outer s H E) a
      (LS K (tbOf cs cl) (fun x S io H => ∀ cls d, R x cls d H → E cls d H) (evS ⟨callN fs gl k, gl, gfOf (callN fs gl k) gl fn.gens⟩ (.set (.nm i) (.gcall g)))) := fun g i a h =>
    set_all (n := 2) PP C hr1 hag h
  refine ⟨_, sB C CP PP Hg Ha fn.body _ hck, ?_⟩
  have el : as.length = fn.np := by rw [hnp, ← hl, rp.length]
  have hle : fn.np ≤ fn.nn := by
    have := congrArg List.length FS.pre
    rw [List.length_take] at this
    omega
  refine ⟨S, io, _, rel, env_start rp el hnn hle, ?_⟩
  have post : Post K (tbOf cs cl) (fun x S' io' H' => ∀ cls d, R x cls d H' → E cls d H') (Rep K) S io H Q (match fs[j]? with
    | some fn => runF ⟨callN fs gl k, gl, gfOf (callN fs gl k) gl fn.gens⟩ fn as S
    | none => .bad) := post
  rw [hf] at post
  simp only [runF, if_pos el] at post
  cases e : evB ⟨callN fs gl k, gl, gfOf (callN fs gl k) gl fn.gens⟩ fn.body (as.map some ++ List.replicate (fn.nn - fn.np) none) S with
  | nx env' S' =>
    rw [e] at post
    exact fun io' H' σ' ex l rel' er' => post io' H' .non ex l rel' rfl
  | ret p S' => rw [e] at post; exact post
  | exc x S' => rw [e] at post; exact post
  | brk env' S' => rw [e] at post; exact post.elim
  | cnt env' S' => rw [e] at post; exact post.elim
  | bad => rw [e] at post; exact post.elim
theorem fn_zero {T : Tb} {f : Addr} {fd : FuncData} {ps : List Str} {np : Nat} {j : Nat} : FnOk P w K mg base (L2.CX P w) 0 f fd ps (spOf K T R np (callN fs gl 0 j)) :=
  ⟨fun vs H Q E h => by obtain ⟨_, _, _, _, _, _, h⟩ := h; exact h.elim, fun A outer s H args us vs Q E _ _ _ _ h => by obtain ⟨_, _, _, _, _, _, h⟩ := h; exact h.elim⟩
theorem callN_len {j k : Nat} {as : List PV} {S : Sto} {fn : Fn} (hf : fs[j]? = some fn) (h : callN fs gl k j as S ≠ .bad) : as.length = fn.np := by
  cases k with
  | zero => exact absurd rfl h
  | succ k =>
    apply Classical.byContradiction
    intro hn
    apply h
    simp only [callN, hf, runF, if_neg hn]
theorem fnp_zero {T : Tb} {j : Nat} {fa : Addr} {fd : FuncData} {ps : List Str} (D : DefB K cs fs G j fa fd ps) : FnP P w K mg base T R 0 (callN fs gl 0) fa j :=
  ⟨fd, ps, D.bnd, fun as S hh => absurd rfl hh, fn_zero⟩
theorem fnp_succ {j k : Nat} {fa : Addr} {fd : FuncData} {ps : List Str} (D : DefB K cs fs G j fa fd ps) (hcs : ∀ p ∈ cs, GxR.TabB base mg p.1 p.2) (PP : PG P w K mg base (tbOf cs cl) R (3 * k) (callN fs gl k) gl G) : FnP P w K mg base (tbOf cs cl) R (3 * k + 3) (callN fs gl (k + 1)) fa j := by
  obtain ⟨nm, qual, st, N, fn, cdv, F, FS, hfn, hnp, hnn, hck, _⟩ := D.ex
  exact ⟨fd, ps, D.bnd, fun as S hh => by rw [callN_len hfn hh, hnp], def_ok D hcs PP⟩
theorem cls_mem {c : Nat} {ci : CI} : ∀ {G : GT}, clsOf c G = some ci → ∃ x, (x, GV.cls c ci) ∈ G
  | [], h => by cases h
  | (x, v) :: G, h => by
    have go : clsOf c G = some ci → ∃ y, (y, GV.cls c ci) ∈ (x, v) :: G := fun h => by
      obtain ⟨y, hy⟩ := cls_mem h
      exact ⟨y, List.mem_cons_of_mem _ hy⟩
    cases v with
    | cls c' ci' =>
      simp only [clsOf] at h
      split at h
      · rename_i e
        cases h
        exact ⟨x, by rw [e]; exact List.mem_cons_self⟩
      · exact go h
    | blt => exact go h
    | fn f => exact go h
    | cst g => exact go h
theorem prog_ok (hcs : ∀ p ∈ cs, GxR.TabB base mg p.1 p.2) (hb : ∀ x, gvB G x .blt = true → mg x = none) (hf : ∀ x j, gvB G x (.fn j) = true → ∃ fa fd ps, DefOk K mg cs fs G x j fa fd ps)
    (hc : ∀ x g, gvB G x (.cst g) = true → ∃ u v, mg x = some u ∧ RelV v u ∧ ∀ n io H, Rep K n io H (gl g) v) (hcl : ∀ x c ci, (x, GV.cls c ci) ∈ G → ClsB K mg cs fs G x (cl c) ci) : ∀ k, PG P w K mg base (tbOf cs cl) R (3 * k) (callN fs gl k) gl G := by
  have cnm : ∀ x c, isClsB G x c = true → mg x = some (.ref ((tbOf cs cl).cl c)) := fun x c h => by
    unfold isClsB at h
    split at h
    · rename_i c' ci e
      have e2 := of_decide_eq_true h
      subst e2
      exact (hcl x _ ci (lookupMem e)).mg
    · cases h
  intro k
  induction k with
  | zero =>
    refine ⟨hb, fun x j h => ?_, hc, fun c ci h => ?_, cnm⟩
    · obtain ⟨fa, fd, ps, D⟩ := hf x j h
      obtain ⟨nm, qual, st, N, fn, cdv, F, FS, hfn, hnp, hnn, hck, _⟩ := D.ex
      exact ⟨fa, fd, ps, D.mg, F.kp, D.bnd, fun as S hh => absurd rfl hh, fn_zero⟩
    · obtain ⟨x, hx⟩ := cls_mem h
      have B := hcl x c ci hx
      obtain ⟨fa, fd, ps, h1, h2⟩ := B.mkd
      refine ⟨B.cls, ⟨fa, h1, fnp_zero h2⟩, fun y f e => ?_, fun y f e => ?_⟩
      · obtain ⟨fa, fd, ps, h1, h2⟩ := B.meth _ (lookupMem e)
        exact ⟨fa, h1, fnp_zero h2⟩
      · obtain ⟨pa, fa, fd, ps, h1, h2⟩ := B.prop _ (lookupMem e)
        exact ⟨pa, fa, h1, fnp_zero h2⟩
  | succ k ih =>
    refine ⟨hb, fun x j h => ?_, hc, fun c ci h => ?_, cnm⟩
    · obtain ⟨fa, fd, ps, D⟩ := hf x j h
      obtain ⟨nm, qual, st, N, fn, cdv, F, FS, hfn, hnp, hnn, hck, _⟩ := D.ex
      exact ⟨fa, fd, ps, D.mg, F.kp, D.bnd, fun as S hh => by rw [callN_len hfn hh, hnp], def_ok D.toDefB hcs ih⟩
    · obtain ⟨x, hx⟩ := cls_mem h
      have B := hcl x c ci hx
      obtain ⟨fa, fd, ps, h1, h2⟩ := B.mkd
      refine ⟨B.cls, ⟨fa, h1, fnp_succ h2 hcs ih⟩, fun y f e => ?_, fun y f e => ?_⟩
      · obtain ⟨fa, fd, ps, h1, h2⟩ := B.meth _ (lookupMem e)
        exact ⟨fa, h1, fnp_succ h2 hcs ih⟩
      · obtain ⟨pa, fa, fd, ps, h1, h2⟩ := B.prop _ (lookupMem e)
        exact ⟨pa, fa, h1, fnp_succ h2 hcs ih⟩
/-- the script's object, as the store has it -/
def ScrO (ns : List Int) (o : PO) : Prop := o = .ro (ns.map PV.int) ∨ o = .lst (ns.map PV.int)
/-- the law's promise, where the interpreter says True -/
theorem law_sp {T : Tb} {j k : Nat} {H : Hp} {a : Addr} {ns : List Int} (hT : ∀ P ∈ T, GxR.TabG H P) (hS : SqL K H a (ns.map V.int)) (h : ∀ o, ScrO ns o → ∃ S', callN fs gl k j [.obj 0] [o] = .ok (.bl true) S') :
    spOf K T R 1 (callN fs gl k j) [.ref a] H (fun v _ => v = .bl true) fun _ _ _ => False := by
  have reps : ∀ (n : Nat) (io : Nat → Addr) (ms : List Int), Reps K n io H (ms.map PV.int) (ms.map V.int) := fun n io ms => by
    induction ms with
    | nil => rfl
    | cons m ms ih => exact Reps.cons rfl ih
  have main : ∀ o, ScrO ns o → POR K T.cl 1 (fun _ => a) H a o → spOf K T R 1 (callN fs gl k j) [.ref a] H (fun v _ => v = .bl true) fun _ _ _ => False := by
    intro o ho hp
    obtain ⟨S', h⟩ := h o ho
    refine ⟨rfl, [o], fun _ => a, [.obj 0], ⟨fun i o' e => ?_, fun i j o1 o2 e1 e2 m1 m2 z => ?_, hT⟩, Reps.cons ⟨by simp, rfl⟩ Reps.nil, ?_⟩
    · cases i with
      | zero =>
        cases e
        exact hp
      | succ i => simp at e
    · cases i with
      | zero =>
        cases j with
        | zero => rfl
        | succ j => simp at e2
      | succ i => simp at e1
    · rw [h]
      intro io' H' v _ _ _ r
      exact r
  rcases hS with (hS | ⟨o, hS⟩) | hS
  · exact main _ (.inr rfl) ⟨_, hS, reps _ _ _⟩
  · exact main _ (.inl rfl) ⟨_, .inl ⟨o, hS⟩, reps _ _ _⟩
  · exact main _ (.inl rfl) ⟨_, .inr hS, reps _ _ _⟩
end
theorem cx_none {P : Program} {w : World} {H : Hp} {s : Shared} {e : Value} {s' : Shared} (h : L2.CX P w [] H s (fun _ _ _ => False) e s') : False := by
  obtain ⟨_, _, _, _, _, _, _, _, _, _, _, _, z⟩ := h
  exact z
/-- the checks of a def's scope -/
def scopeB (N ps : List Str) (sc : Scope) : Bool :=
  decide (sc.kind = .function) && !sc.isCoroutine && !sc.isGenerator && decide (N.Nodup) && decide (N.take ps.length = ps) && ps.all (fun x => match sc.names.lookup x with | some .local => true | some .cell => true | _ => false) && sc.names.all (fun y => decide (y.2 ≠ .free))
theorem scope_of {N ps : List Str} {sc : Scope} (h : scopeB N ps sc = true) : FnScope N ps sc := by
  simp only [scopeB, Bool.and_eq_true, decide_eq_true_eq, Bool.not_eq_true', List.all_eq_true] at h
  obtain ⟨⟨⟨⟨⟨⟨h1, h2⟩, h3⟩, h4⟩, h5⟩, h6⟩, h7⟩ := h
  refine ⟨h1, h2, h3, h4, h5, fun x hx => ?_, fun y hy => h7 y hy⟩
  have := h6 x hx
  split at this
  · exact .inl (by assumption)
  · exact .inr (by assumption)
  · cases this
/-- all of a list -/
def AllP {a : Type} (p : a → Prop) : List a → Prop
  | [] => True
  | x :: xs => p x ∧ AllP p xs
theorem AllP.mem {a : Type} {p : a → Prop} : ∀ {l : List a}, AllP p l → ∀ x ∈ l, p x
  | [], _, _, h => absurd h (by simp)
  | y :: ys, ⟨h1, h2⟩, x, h => by
    rcases List.mem_cons.mp h with rfl | h
    · exact h1
    · exact AllP.mem h2 x h
theorem lookup_mem {x : Str} {v : GV} : ∀ {G : GT}, G.lookup x = some v → (x, v) ∈ G
  | [], h => by simp at h
  | (y, u) :: G, h => by
    rw [List.lookup_cons] at h
    split at h
    · rename_i e
      cases h
      rw [eq_of_beq e]
      exact List.mem_cons_self
    · exact List.mem_cons_of_mem _ (lookup_mem h)
theorem gvB_mem {G : GT} {x : Str} {v : GV} (h : gvB G x v = true) : (x, v) ∈ G := by
  unfold gvB at h
  split at h
  · rename_i u e
    rw [← of_decide_eq_true h]
    exact lookup_mem e
  · cases h
def GOk (K : PySem.W.Frag) (mg : Str → Option Value) (cs : List (Addr × Addr)) (cl : Nat → Addr) (fs : List Fn) (gl : Nat → PV) (G : GT) (p : Str × GV) : Prop := match p.2 with
  | .blt => mg p.1 = none
  | .fn j => ∃ fa fd ps, DefOk K mg cs fs G p.1 j fa fd ps
  | .cst g => ∃ u v, mg p.1 = some u ∧ RelV v u ∧ ∀ n io H, Rep K n io H (gl g) v
  | .cls c ci => ClsB K mg cs fs G p.1 (cl c) ci
theorem prog_all {P : Program} {w : World} {K : PySem.W.Frag} {mg : Str → Option Value} {base : Heap} {cs : List (Addr × Addr)} {cl : Nat → Addr} {R : PXT} {fs : List Fn} {gl : Nat → PV} {G : GT} (hcs : ∀ p ∈ cs, GxR.TabB base mg p.1 p.2) (h : AllP (GOk K mg cs cl fs gl G) G) (k : Nat) :
    PG P w K mg base (tbOf cs cl) R (3 * k) (callN fs gl k) gl G :=
  prog_ok hcs (fun x hx => AllP.mem h _ (gvB_mem hx)) (fun x j hx => AllP.mem h _ (gvB_mem hx)) (fun x g hx => AllP.mem h _ (gvB_mem hx)) (fun x c ci hx => AllP.mem h _ hx) k
end TM

/-! TM, part M: the end where defs hold generator expressions: the tables of all defs of the text are empty at the head. -/
namespace TM
open PySem PySem.Spec PyProof.Rows L2 LamX
/-- the tables of the text's defs -/
def AllTab (K : PySem.W.Frag) (q : Program) (mg : Str → Option Value) (h : Heap) : Prop :=
  ∀ (x : Str) (fx : Addr), ((recsOf q).any fun e => e.name == x) = true → mg x = some (.ref fx) → OwnTab K fx h
theorem walk_tabs {l : PySem.W.OpenLaw} {n k : Nat} {q : Program} {loose : List Str} {XP : (Str → Option Value) → Heap → Prop} {YP : World → Heap → Prop} {d : DefRec} {K : Params → PySem.W.Frag} {CX : World → CXT} {x : Str}
    (hn : l.most = some n) (hn2 : n ≤ sizeLine) (hdf : d.params.defaults = []) (hr : Room k callerA) (hY : ∀ (w : World) (h : Heap), YP w h → (K w.params).In h)
    (F : ∀ (w : World) (mg : Str → Option Value) (fa : Addr) (h : Heap), YP w h → (K w.params).In h → h.Ns mainGlobals mg → mg d.name = some (.ref fa) → AllTab (K w.params) q mg h → LawAtS l w (K w.params) (CX w) k n x mg fa h)
    (hCX : ∀ (w : World) (H : Hp) (s : Shared) (e : Value) (s' : Shared), CX w [] H s (fun _ _ _ => False) e s' → False) :
    PySem.W.WalkO q loose XP YP l.row.toRowW d [] (fun f vs => PySem.call f vs) := by
  refine Att.attach_callB hn hdf fun w s₀ s₁ mg mb fa o pm cd doc a vs ns G Y ho hd hcd hmg hobj hints hlen hbits hg => ?_
  have KX := hY w _ Y
  have tabs : AllTab (K w.params) q mg s₁.heap := by
    intro y fy hrec hmy c P ob fdy e dd ws sl k1 k2 k3 k4 k5
    obtain ⟨dL, hm, hnm⟩ := List.any_eq_true.mp hrec
    have hnm2 : dL.name = y := beq_iff_eq.mp hnm
    obtain ⟨a', o', fd', c', P', h1, h2, h3, h4, h5, h6⟩ := G.T.tab dL hm
    rw [hnm2, hmy] at h1
    cases h1
    rw [KX _ _ k1] at h2
    cases h2
    rw [k2] at h3
    cases h3
    rw [k3] at h4
    cases h4
    obtain ⟨⟨oc, vc, e1, _, e3, e4⟩, hP⟩ := h6
    rw [KX _ _ k4] at e1
    cases e1
    cases e3
    rw [k5] at e4
    cases e4
    exact hP
  obtain ⟨fd, cs, sp, hT, nT, C, hb, hsp, hF⟩ := F w mg fa _ Y KX G.T.g hmg tabs
  exact law_callTs KX G.T.g G.T.b G.T.builtins G.T.nolimit hg hT nT C G.T.bmain hobj hints (Nat.le_trans hlen hn2) hr hF hb (fun H hH hS => hsp H a ns hlen hbits hH hS) fun H e s' => hCX w H s₁ e s'
/-- a law's end, with the tables of the defs that hold generator expressions -/
theorem law_endT {l : PySem.W.OpenLaw} {q : Program} {loose : List Str} {XP : (Str → Option Value) → Heap → Prop} {YP : World → Heap → Prop} {d : DefRec} {KP : Params → PySem.W.Frag} {k j : Nat} {fs : List Fn} {gl : Nat → PV} {x : Str} {R : PXT}
    (hn : l.most = some 63) (hdf : d.params.defaults = []) (hr : Room (3 * k) callerA) (hY : ∀ (w : World) (h : Heap), YP w h → (KP w.params).In h)
    (F : ∀ (w : World) (mg : Str → Option Value) (fa : Addr) (h : Heap), YP w h → (KP w.params).In h → h.Ns mainGlobals mg → mg d.name = some (.ref fa) → AllTab (KP w.params) q mg h →
      ∃ (fd : FuncData) (cs : List (Addr × Addr)) (cl : Nat → Addr), (∀ p ∈ cs, h.get? p.2 = some { cls := .none, data := .fields #[] }) ∧ (∀ p ∈ cs, (KP w.params).lookup p.2 = none) ∧ (∀ p ∈ cs, PySem.W.codeHdIn (KP w.params) p.1 p.2 = true) ∧ (∀ (s : Shared) (u : Value), BindsTo s fd ⟨[u], []⟩ [(x, u)]) ∧
        ∀ base : Heap, (KP w.params).In base → base.Ns mainGlobals mg → (∀ p ∈ cs, GxR.TabB base mg p.1 p.2) → FnOk l.prog w (KP w.params) mg base (L2.CX l.prog w) (3 * k) fa fd [x] (spOf (KP w.params) (tbOf cs cl) R 1 (callN fs gl k j)))
    (hl : ∀ ns : List Int, ns.length ≤ 63 → ∀ o, ScrO ns o → ∃ S', callN fs gl k j [.obj 0] [o] = .ok (.bl true) S') : PySem.W.WalkO q loose XP YP l.row.toRowW d [] (fun f vs => PySem.call f vs) := by
  refine walk_tabs (K := KP) (n := 63) (k := 3 * k) (x := x) (CX := fun w => L2.CX l.prog w) hn (by decide) hdf hr hY ?_ fun w H s e s' h => cx_none h
  intro w mg fa h Y KX hns hm tabs
  obtain ⟨fd, cs, cl, h1, h2, h3, h4, h5⟩ := F w mg fa h Y KX hns hm tabs
  refine ⟨fd, cs, _, h1, h2, fun p hp => PySem.W.codeHd_of_K KX (h3 p hp), h4, fun H a ns hlen _ hH hS => ?_, fun base kb nb tb => h5 base kb nb fun p hp => ⟨(tb p hp).code, (tb p hp).bm, (tb p hp).gP⟩⟩
  refine law_sp (fun P hP => ?_) hS (hl ns hlen)
  obtain ⟨p, hp, rfl⟩ := List.mem_map.mp hP
  exact ⟨#[], hH p hp, trivial⟩
end TM

/-! TM, part P: how a run is told, and the givers of every law. -/
namespace TM
open L2
/-- how a run of statements ends -/
def Sat (r : Out) (N B : Env → Sto → Prop) (R : PV → Sto → Prop) : Prop := match r with
  | .nx e S => N e S
  | .brk e S => B e S
  | .cnt e S => N e S
  | .ret p S => R p S
  | _ => False
theorem Sat.imp {r : Out} {N B N' B' : Env → Sto → Prop} {R R' : PV → Sto → Prop} (h : Sat r N B R) (hn : ∀ e S, N e S → N' e S) (hb : ∀ e S, B e S → B' e S) (hr : ∀ p S, R p S → R' p S) : Sat r N' B' R' := by
  cases r <;> first | exact hn _ _ h | exact hb _ _ h | exact hr _ _ h | exact h
def NoB : Env → Sto → Prop := fun _ _ => False
/-- a for, by what holds ahead of each turn -/
theorem forN_rule {w : Wk} {p : Pat} {body : Env → Sto → Out} (m : Nat) (I : Nat → Env → Sto → Prop) {F B : Env → Sto → Prop} {R : PV → Sto → Prop}
    (turn : ∀ k env S, k < m → I k env S → ∃ x env1, w.at k S = some (some x) ∧ bindP p x env = some env1 ∧ Sat (body env1 S) (I (k + 1)) F R)
    (fin : ∀ env S, I m env S → w.at m S = some none ∧ F env S) :
    ∀ n k env S, k ≤ m → m - k < n → I k env S → Sat (forN w p body n k env S) F B R := by
  intro n
  induction n with
  | zero => intro k env S _ h; omega
  | succ n ih =>
    intro k env S hk hn hi
    unfold forN
    by_cases e : k = m
    · subst e
      obtain ⟨h1, h2⟩ := fin env S hi
      rw [h1]
      exact h2
    · obtain ⟨x, env1, h1, h2, h3⟩ := turn k env S (by omega) hi
      rw [h1]
      simp -implicitDefEqProofs only [h2]
      cases hb : body env1 S with
      | nx e1 S1 => rw [hb] at h3; exact ih (k + 1) e1 S1 (by omega) (by omega) h3
      | cnt e1 S1 => rw [hb] at h3; exact ih (k + 1) e1 S1 (by omega) (by omega) h3
      | brk e1 S1 => rw [hb] at h3; exact h3
      | ret q S1 => rw [hb] at h3; exact h3
      | exc q S1 => rw [hb] at h3; exact h3.elim
      | bad => rw [hb] at h3; exact h3.elim
theorem for_rule {w : Wk} {p : Pat} {body : Env → Sto → Out} {env : Env} {S : Sto} (m : Nat) (I : Nat → Env → Sto → Prop) {F B : Env → Sto → Prop} {R : PV → Sto → Prop} (hm : m < FU) (h0 : I 0 env S)
    (turn : ∀ k env S, k < m → I k env S → ∃ x env1, w.at k S = some (some x) ∧ bindP p x env = some env1 ∧ Sat (body env1 S) (I (k + 1)) F R)
    (fin : ∀ env S, I m env S → w.at m S = some none ∧ F env S) : Sat (forN w p body FU 0 env S) F B R :=
  forN_rule m I turn fin FU 0 env S (Nat.zero_le _) (by omega) h0
/-- a while, by what holds ahead of each turn and what shrinks -/
theorem whl_rule {t : Env → Sto → Res Bool} {body : Env → Sto → Out} {F B : Env → Sto → Prop} {R : PV → Sto → Prop} (I : Nat → Env → Sto → Prop)
    (turn : ∀ k env S, I k env S → ∃ b S1, t env S = .ok b S1 ∧ if b then Sat (body env S1) (fun e S => ∃ j, j < k ∧ I j e S) F R else F env S1) :
    ∀ n k env S, k < n → I k env S → Sat (whlN t body n env S) F B R := by
  intro n
  induction n with
  | zero => intro k env S h; omega
  | succ n ih =>
    intro k env S hk hi
    unfold whlN
    obtain ⟨b, S1, h1, h2⟩ := turn k env S hi
    rw [h1]
    cases b with
    | false => exact h2
    | true =>
      simp -implicitDefEqProofs only [if_true] at h2
      simp -implicitDefEqProofs only [Res.out_ok, if_true]
      cases hb : body env S1 with
      | nx e1 S2 =>
        rw [hb] at h2
        obtain ⟨j, hj, h2⟩ := h2
        exact ih j e1 S2 (by omega) h2
      | cnt e1 S2 =>
        rw [hb] at h2
        obtain ⟨j, hj, h2⟩ := h2
        exact ih j e1 S2 (by omega) h2
      | brk e1 S2 => rw [hb] at h2; exact h2
      | ret q S2 => rw [hb] at h2; exact h2
      | exc q S2 => rw [hb] at h2; exact h2.elim
      | bad => rw [hb] at h2; exact h2.elim
theorem sat_seq {r : Out} {f : Env → Sto → Out} {N B : Env → Sto → Prop} {R : PV → Sto → Prop} (h : Sat r (fun e S => Sat (f e S) N B R) B R) (hc : ∀ e S, r ≠ .cnt e S) : Sat (r.seq f) N B R := by
  cases r with
  | nx e S => exact h
  | brk e S => exact h
  | cnt e S => exact (hc e S rfl).elim
  | ret p S => exact h
  | exc x S => exact h.elim
  | bad => exact h.elim
theorem forN_nc {w : Wk} {p : Pat} {body : Env → Sto → Out} : ∀ n k env S e' S', forN w p body n k env S ≠ .cnt e' S'
  | 0, _, _, _, _, _ => fun z => by cases z
  | n + 1, k, env, S, e', S' => by
    intro z
    unfold forN at z
    split at z
    · cases z
    · cases z
    · split at z
      · cases z
      · split at z
        · exact forN_nc _ _ _ _ _ _ z
        · exact forN_nc _ _ _ _ _ _ z
        · cases z
        · rename_i r a b c
          exact b _ _ z
theorem whlN_nc {t : Env → Sto → Res Bool} {body : Env → Sto → Out} : ∀ n env S e' S', whlN t body n env S ≠ .cnt e' S'
  | 0, _, _, _, _ => fun z => by cases z
  | n + 1, env, S, e', S' => by
    intro z
    unfold whlN at z
    cases h : t env S with
    | ok b S1 =>
      rw [h] at z
      cases b with
      | false => cases z
      | true =>
        simp -implicitDefEqProofs only [Res.out_ok, if_true] at z
        split at z
        · exact whlN_nc _ _ _ _ _ z
        · exact whlN_nc _ _ _ _ _ z
        · cases z
        · rename_i r a b c
          exact b _ _ z
    | exc x S1 => rw [h] at z; cases z
    | bad => rw [h] at z; cases z

/-! ### the givers -/
def IR_numbers : Fn := ⟨1, 6, [(.set (.nm 1) (.lst [])), (.for (.nm 2) (.e (.slc (.var 0) none (some (.cst (.int 63))))) [(.ite (.e (.cmp .ge (.var 2) (.bin .pow (.cst (.int 10)) (.cst (.int 18))))) [(.set (.nm 3) (.var 2)), (.for (.nm 4) (.rng1 (.cst (.int 60))) [(.ite (.e (.cmp .eq (.var 3) (.cst (.int 0)))) [.brk] []), (.expr (.me .append (.var 1) [(.bin .mod (.bi .int [(.var 3)]) (.cst (.int 997)))])), (.set (.nm 3) (.bin .fdiv (.var 3) (.cst (.int 997))))])] [(.for (.nm 4) (.rng1 (.cst (.int 4))) [(.set (.nm 5) (.bin .mod (.bi .int [(.bin .add (.bin .add (.bin .mul (.var 2) (.cst (.int 48271))) (.bin .mul (.var 4) (.cst (.int 69621)))) (.cst (.int 11)))]) (.cst (.int 2147483647)))), (.expr (.me .append (.var 1) [(.bin .mod (.bi .int [(.bin .add (.bin .mul (.var 5) (.cst (.int 16807))) (.var 4))]) (.cst (.int 2147483629)))]))])])]), (.ite (.e (.cmp .eq (.bi .len [(.var 1)]) (.cst (.int 0)))) [(.expr (.me .append (.var 1) [(.cst (.int 0))]))] []), (.ret (.var 1))], []⟩
def IR_draw : Fn := ⟨3, 4, [(.ite (.e (.cmp .lt (.var 1) (.bi .len [(.var 0)]))) [(.ret (.bin .mod (.bi .int [(.idx (.var 0) (.var 1))]) (.var 2)))] []), (.set (.nm 3) (.bin .mod (.bi .int [(.bin .add (.bin .add (.bin .mul (.idx (.var 0) (.bin .mod (.bi .int [(.var 1)]) (.bi .len [(.var 0)]))) (.cst (.int 40692))) (.bin .mul (.var 1) (.cst (.int 7919)))) (.cst (.int 3)))]) (.cst (.int 2147483399)))), (.ret (.bin .mod (.bi .int [(.bin .mod (.bi .int [(.bin .add (.bin .mul (.var 3) (.cst (.int 48271))) (.var 1))]) (.cst (.int 2147483647)))]) (.var 2)))], []⟩
def IR_take (d : Nat) : Fn := ⟨3, 3, [(.seti (.var 1) (.cst (.int 0)) (.bin .add (.idx (.var 1) (.cst (.int 0))) (.cst (.int 1)))), (.ret (.call d [(.var 0), (.bin .sub (.idx (.var 1) (.cst (.int 0))) (.cst (.int 1))), (.var 2)]))], []⟩
theorem mul_lit (a : Int) (b : Int) (h : (decide (-P64 < b) && decide (b < P64)) = true) : mulOk a b = true := by
  unfold mulOk
  rw [h, Bool.or_true]
/-- the rows' cells so far -/
def NI (o : PO) (c : List PV) (m : Nat) (env : Env) (S : Sto) : Prop :=
  (∃ x2 x3 x4 x5, env = [some (.obj 0), some (.obj 1), x2, x3, x4, x5]) ∧ ∃ xs : List Int, S = [o, .lst (xs.map PV.int), .lst c] ∧ (∀ x ∈ xs, 0 ≤ x) ∧ xs.length ≤ m
theorem bindP_nm (i : Nat) (p : PV) (env : Env) : bindP (.nm i) p env = if i < env.length then some (env.set i (some p)) else none := by rw [bindP]
theorem app1 {S : Sto} {i : Nat} {xs : List PV} {p : PV} (h : S[i]? = some (.lst xs)) (l : xs.length < LINE) : meAppend (.obj i) [p] S = .ok .non (S.set i (.lst (xs ++ [p]))) := by
  unfold meAppend
  simp -implicitDefEqProofs only [h]
  rw [if_pos l]
theorem at_rng (lo : Int) (n k : Nat) (S : Sto) : (Wk.rng lo n).at k S = some (if k < n then some (.int (lo + k)) else none) := rfl
theorem fmod_nn (a : Int) {b : Int} (h : 0 < b) : 0 ≤ a.fmod b := Int.fmod_nonneg_of_pos a h
theorem e18 : binI .pow 10 18 = some 1000000000000000000 := by decide +kernel
theorem bV_add (i j : Int) (S : Sto) : binV .add (.int i) (.int j) S = .ok (.int (i + j)) S := by simp [binV, binI]
theorem bV_sub (i j : Int) (S : Sto) : binV .sub (.int i) (.int j) S = .ok (.int (i - j)) S := by simp [binV, binI]
theorem bV_mul (i j : Int) (S : Sto) (h : mulOk i j = true) : binV .mul (.int i) (.int j) S = .ok (.int (i * j)) S := by simp [binV, binI, h]
theorem bV_mulL (i j : Int) (S : Sto) (h : (decide (-P64 < j) && decide (j < P64)) = true) : binV .mul (.int i) (.int j) S = .ok (.int (i * j)) S := bV_mul i j S (mul_lit i j h)
theorem bV_mod (i j : Int) (S : Sto) (h : (j == 0) = false) : binV .mod (.int i) (.int j) S = .ok (.int (i.fmod j)) S := by simp [binV, binI, bne, h]
theorem bV_pow18 (S : Sto) : binV .pow (.int 10) (.int 18) S = .ok (.int 1000000000000000000) S := by simp -implicitDefEqProofs only [binV, e18, Option.map_some, ofO_some]
theorem bV_div (i j : Int) (S : Sto) (h : (j == 0) = false) (h2 : j.natAbs < 1073741824) : binV .fdiv (.int i) (.int j) S = .ok (.int (i.fdiv j)) S := by simp [binV, binI, bne, h, h2]
theorem one_nc {w : Wk} {p : Pat} {body : Env → Sto → Out} {f : Env → Sto → Out} {n k : Nat} {env : Env} {S : Sto} (hf : ∀ e T e' S', f e T ≠ .cnt e' S') : ∀ e' S', (forN w p body n k env S).seq f ≠ .cnt e' S' := by
  intro e' S' z
  cases h : forN w p body n k env S with
  | cnt a b => exact forN_nc _ _ _ _ _ _ h
  | nx a b => rw [h] at z; exact hf _ _ _ _ z
  | _ => rw [h] at z; simp [Out.seq] at z
theorem runF_sat {C : Ctx} {f : Fn} {as : List PV} {S : Sto} {R : PV → Sto → Prop} (hl : as.length = f.np) (h : Sat (evB C f.body (as.map some ++ List.replicate (f.nn - f.np) none) S) NoB NoB R) : ∃ p S', runF C f as S = .ok p S' ∧ R p S' := by
  unfold runF
  rw [if_pos hl]
  cases e : evB C f.body (as.map some ++ List.replicate (f.nn - f.np) none) S with
  | nx _ _ => rw [e] at h; exact h.elim
  | brk _ _ => rw [e] at h; exact h.elim
  | cnt _ _ => rw [e] at h; exact h.elim
  | ret p S' => rw [e] at h; exact ⟨p, S', rfl, h⟩
  | exc _ _ => rw [e] at h; exact h.elim
  | bad => rw [e] at h; exact h.elim
theorem cut_ints (ns : List Int) (lo hi : Option Int) : ∃ cs : List Int, cutL (ns.map PV.int) lo hi = cs.map PV.int ∧ cs.length ≤ ns.length := by
  refine ⟨cutL ns lo hi, ?_, ?_⟩
  · unfold cutL
    rw [List.length_map, ← List.map_drop, ← List.map_take]
  · unfold cutL
    rw [List.length_take, List.length_drop]
    omega
theorem ints_push {xs : List Int} {y : Int} : xs.map PV.int ++ [PV.int y] = (xs ++ [y]).map PV.int := by simp
theorem nn_push {xs : List Int} {y : Int} (h : ∀ x ∈ xs, 0 ≤ x) (hy : 0 ≤ y) : ∀ x ∈ xs ++ [y], 0 ≤ x := by
  intro x hx
  rcases List.mem_append.mp hx with hx | hx
  · exact h x hx
  · rw [List.mem_singleton.mp hx]; exact hy
theorem numbers_ok (C : Ctx) (ns : List Int) (hn : ns.length ≤ 63) (o : PO) (ho : ScrO ns o) :
    ∃ p S', runF C IR_numbers [.obj 0] [o] = .ok p S' ∧ ∃ xs : List Int, ∃ c, p = .obj 1 ∧ S' = [o, .lst (xs.map PV.int), .lst c] ∧ xs ≠ [] ∧ (∀ x ∈ xs, 0 ≤ x) ∧ xs.length ≤ 3781 := by
  refine runF_sat rfl ?_
  have h2 : ∀ (x : PO) (d : List PV), seqOf [o, x, .lst d] 2 = some d := fun _ _ => rfl
  have hs : ∀ r, seqOf (o :: r) 0 = some (ns.map PV.int) := fun r => by rcases ho with rfl | rfl <;> rfl
  obtain ⟨cs, hc, hcl⟩ := cut_ints ns none (some 63)
  have hcl : cs.length ≤ 63 := Nat.le_trans hcl hn
  simp -implicitDefEqProofs only [IR_numbers, List.map_cons, List.map_nil, List.replicate, List.cons_append, List.nil_append, evB, evS, ev, evs, evI, wkOf, ofO_some, evO, Res.bind_ok, Res.out_ok, Out.seq_nx, List.length_nil, Nat.zero_le, if_true, bindP_nm, List.length_cons, List.set, Nat.reduceAdd, Nat.reduceLT, List.getElem?_cons_succ, List.getElem?_cons_zero, cutP, hs, hc, h2]
  refine sat_seq ?_ fun e S => forN_nc _ _ _ _ _ _
  refine for_rule cs.length (fun k => NI o (cs.map PV.int) (60 * k)) (by unfold FU; omega) ⟨⟨_, _, _, _, rfl⟩, [], rfl, by simp, by simp⟩ ?_ ?_
  · rintro k env S hk ⟨⟨x2, x3, x4, x5, rfl⟩, xs, rfl, h1, h2⟩
    refine ⟨.int cs[k], [some (.obj 0), some (.obj 1), some (.int cs[k]), x3, x4, x5], ?_, rfl, ?_⟩
    · simp [Wk.at, seqOf, hk]
    · simp -implicitDefEqProofs only [evT, ev, Res.bind_ok, Res.out_ok, List.getElem?_cons_succ, List.getElem?_cons_zero, bV_pow18, Option.map_some, ofO_some, cmpV, ordB, pur, alk, isNon, dep, Nat.zero_le, decide_true, Bool.true_and, Bool.and_true, Bool.not_false, if_true, truth, ltP]
      cases hcell : (!decide (cs[k] < 1000000000000000000)) with
      | true =>
        simp -implicitDefEqProofs only [if_true, evB, evS, ev, Res.bind_ok, Res.out_ok, List.getElem?_cons_succ, List.getElem?_cons_zero, bindP_nm, List.length_cons, List.length_nil, List.set, Nat.reduceAdd, Nat.reduceLT, Out.seq_nx, evI, wkOf]
        rw [if_pos (by decide)]
        simp -implicitDefEqProofs only [Res.out_ok]
        refine sat_seq (sat_seq ?_ fun e S => forN_nc _ _ _ _ _ _) fun e S z => ?_
        refine for_rule 60 (fun j e T => (∃ l : Int, ∃ x4, e = [some (.obj 0), some (.obj 1), some (.int cs[k]), some (.int l), x4, x5]) ∧ ∃ xs : List Int, T = [o, .lst (xs.map PV.int), .lst (cs.map PV.int)] ∧ (∀ x ∈ xs, 0 ≤ x) ∧ xs.length ≤ 60 * k + j) (by unfold FU; omega) ⟨⟨_, _, rfl⟩, xs, rfl, h1, h2⟩ ?_ ?_
        · rintro j e T hj ⟨⟨l, x4, rfl⟩, ys, rfl, g1, g2⟩
          refine ⟨.int (0 + (j : Int)), [some (.obj 0), some (.obj 1), some (.int cs[k]), some (.int l), some (.int (0 + (j : Int))), x5], ?_, rfl, ?_⟩
          · rw [at_rng]
            rw [if_pos (by exact hj)]
          · simp -implicitDefEqProofs only [evB, evS, evT, ev, evs, Res.bind_ok, Res.out_ok, List.getElem?_cons_succ, List.getElem?_cons_zero, cmpV, eqV, eqS, Option.map_some, ofO_some, truth]
            cases hl : (l == 0) with
            | true =>
              simp -implicitDefEqProofs only [if_true, Out.seq_brk, Sat]
              exact ⟨⟨_, _, _, _, rfl⟩, ys, rfl, g1, by omega⟩
            | false =>
              simp -implicitDefEqProofs only [Bool.false_eq_true, if_false, Out.seq_nx, biV, bV_mod _ 997 _ rfl, mty, meOk, meV, Res.bind_ok, ofO_some, Option.map_some, List.getElem?_cons_succ, List.getElem?_cons_zero, Res.out_ok, if_true]
              rw [app1 (xs := ys.map PV.int) rfl (by rw [List.length_map]; unfold LINE; omega)]
              simp -implicitDefEqProofs only [Res.out_ok, Res.bind_ok, Out.seq_nx, bV_div _ 997 _ rfl (by decide), bindP_nm, List.length_cons, List.length_nil, List.set, Nat.reduceAdd, Nat.reduceLT, if_true, ints_push, List.getElem?_cons_succ, List.getElem?_cons_zero, Sat]
              exact ⟨⟨_, _, rfl⟩, _, rfl, nn_push g1 (fmod_nn _ (by decide)), by rw [List.length_append]; simp -implicitDefEqProofs only [List.length_cons, List.length_nil]; omega⟩
        · rintro e T ⟨⟨l, x4, rfl⟩, ys, rfl, g1, g2⟩
          refine ⟨by rw [at_rng]; rfl, ?_⟩
          simp -implicitDefEqProofs only [Sat, evB]
          exact ⟨⟨_, _, _, _, rfl⟩, ys, rfl, g1, by omega⟩
        · exact one_nc (fun e T e' S' z => by simp [evB] at z) _ _ z
      | false =>
        simp -implicitDefEqProofs only [Bool.false_eq_true, if_false, evB, evS, ev, Res.bind_ok, Res.out_ok, List.getElem?_cons_succ, List.getElem?_cons_zero, Out.seq_nx, evI, wkOf]
        rw [if_pos (by decide)]
        simp -implicitDefEqProofs only [Res.out_ok]
        refine sat_seq (sat_seq ?_ fun e S => forN_nc _ _ _ _ _ _) fun e S z => ?_
        refine for_rule 4 (fun j e T => (∃ x4 x5, e = [some (.obj 0), some (.obj 1), some (.int cs[k]), x3, x4, x5]) ∧ ∃ xs : List Int, T = [o, .lst (xs.map PV.int), .lst (cs.map PV.int)] ∧ (∀ x ∈ xs, 0 ≤ x) ∧ xs.length ≤ 60 * k + j) (by unfold FU; omega) ⟨⟨_, _, rfl⟩, xs, rfl, h1, h2⟩ ?_ ?_
        · rintro j e T hj ⟨⟨x4, x5, rfl⟩, ys, rfl, g1, g2⟩
          refine ⟨.int (0 + (j : Int)), [some (.obj 0), some (.obj 1), some (.int cs[k]), x3, some (.int (0 + (j : Int))), x5], ?_, rfl, ?_⟩
          · rw [at_rng]
            rw [if_pos (by exact hj)]
          · generalize (0 + (j : Int)) = J
            simp -implicitDefEqProofs only [evB, evS, evT, ev, evs, Res.bind_ok, Res.out_ok, List.getElem?_cons_succ, List.getElem?_cons_zero, biV, bV_add, bV_mulL _ 48271 _ rfl, bV_mulL _ 69621 _ rfl, bV_mulL _ 16807 _ rfl, bV_mod _ 2147483647 _ rfl, bV_mod _ 2147483629 _ rfl, if_true, bindP_nm, List.length_cons, List.length_nil, List.set, Nat.reduceAdd, Nat.reduceLT, Out.seq_nx, mty, meOk, meV]
            rw [app1 (xs := ys.map PV.int) rfl (by rw [List.length_map]; unfold LINE; omega)]
            simp -implicitDefEqProofs only [Res.out_ok, Out.seq_nx, ints_push, List.set, Sat]
            exact ⟨⟨_, _, rfl⟩, _, rfl, nn_push g1 (fmod_nn _ (by decide)), by rw [List.length_append]; simp -implicitDefEqProofs only [List.length_cons, List.length_nil]; omega⟩
        · rintro e T ⟨⟨x4, x5, rfl⟩, ys, rfl, g1, g2⟩
          refine ⟨by rw [at_rng]; rfl, ?_⟩
          simp -implicitDefEqProofs only [Sat, evB]
          exact ⟨⟨_, _, _, _, rfl⟩, ys, rfl, g1, by omega⟩
        · exact one_nc (fun e T e' S' z => by simp [evB] at z) _ _ z
  · rintro env S ⟨⟨x2, x3, x4, x5, rfl⟩, xs, rfl, h1, h2⟩
    refine ⟨by simp [Wk.at, seqOf], ?_⟩
    simp -implicitDefEqProofs only [evT, ev, evs, evB, evS, Res.bind_ok, Res.out_ok, List.getElem?_cons_succ, List.getElem?_cons_zero, biV, lenV, seqOf, Option.map_some, ofO_some, cmpV, eqV, eqS, truth, List.length_map]
    cases xs with
    | nil =>
      simp [Sat, meV, meOk, mty, meAppend, evB, evS, LINE]
      exact ⟨[0], rfl, by simp, by simp, by simp⟩
    | cons y ys =>
      have : (((y :: ys).length : Int) == 0) = false := by
        rw [beq_eq_false_iff_ne]; simp; omega
      rw [this]
      simp -implicitDefEqProofs only [Bool.false_eq_true, if_false, Out.seq_nx, Sat]
      exact ⟨y :: ys, _, rfl, rfl, by simp, h1, by omega⟩
theorem bV_modS (i j : Int) (S : Sto) (h : j ≠ 0) : binV .mod (.int i) (.int j) S = .ok (.int (i.fmod j)) S := bV_mod i j S (by rw [beq_eq_false_iff_ne]; exact h)
theorem atV_nat {S : Sto} {i : Nat} {xs : List PV} {k : Nat} {p : PV} (h : seqOf S i = some xs) (e : xs[k]? = some p) : atV (.obj i) (.int (k : Int)) S = some p := by
  simp only [atV, h, Option.bind_some]
  exact atI_nat e
theorem cmp_lt (i j : Int) (S : Sto) : cmpV .lt (.int i) (.int j) S = some (decide (i < j)) := by
  simp [cmpV, ltV, ordB, pur, alk, isNon, dep, ltP]
theorem cmp_eq (i j : Int) (S : Sto) : cmpV .eq (.int i) (.int j) S = some (i == j) := by simp [cmpV, eqV, eqS]
theorem draw_ok {C : Ctx} {S : Sto} {i : Nat} {xs : List Int} {k : Nat} {lim : Int} (h : S[i]? = some (.lst (xs.map PV.int))) (hx : xs ≠ []) (hl : 0 < lim) :
    ∃ p S', runF C IR_draw [.obj i, .int k, .int lim] S = .ok p S' ∧ ∃ d : Int, p = .int d ∧ S' = S ∧ 0 ≤ d ∧ d < lim := by
  refine runF_sat rfl ?_
  have hs : seqOf S i = some (xs.map PV.int) := by simp [seqOf, h]
  have hln : 0 < xs.length := List.length_pos_iff.mpr hx
  simp -implicitDefEqProofs only [IR_draw, List.map_cons, List.map_nil, List.replicate, List.cons_append, List.nil_append, evB, evS, evT, ev, evs, Res.bind_ok, Res.out_ok, List.getElem?_cons_succ, List.getElem?_cons_zero, biV, lenV, hs, Option.map_some, ofO_some, List.length_map, cmp_lt, truth]
  by_cases hk : (k : Int) < (xs.length : Int)
  · have hk' : k < xs.length := by omega
    have ha : atV (.obj i) (.int (k : Int)) S = some (.int xs[k]) := atV_nat hs (by simp [hk'])
    simp -implicitDefEqProofs only [hk, decide_true, if_true, ha, ofO_some, Res.bind_ok, bV_modS _ lim _ (by omega), Res.out_ok, Out.seq_ret, Sat]
    exact ⟨_, rfl, trivial, Int.fmod_nonneg_of_pos _ hl, Int.fmod_lt_of_pos _ hl⟩
  · simp -implicitDefEqProofs only [hk, decide_false, Bool.false_eq_true, if_false, Out.seq_nx, Res.bind_ok, Res.out_ok, List.getElem?_cons_succ, List.getElem?_cons_zero, biV, lenV, hs, Option.map_some, ofO_some, List.length_map]
    have hm : 0 ≤ (k : Int).fmod (xs.length : Int) ∧ (k : Int).fmod (xs.length : Int) < xs.length := ⟨Int.fmod_nonneg_of_pos _ (by omega), Int.fmod_lt_of_pos _ (by omega)⟩
    rw [bV_modS _ _ _ (by omega)]
    generalize (k : Int).fmod (xs.length : Int) = m at hm
    obtain ⟨m, rfl⟩ := Int.eq_ofNat_of_zero_le hm.1
    have hm' : m < xs.length := by omega
    have ha : atV (.obj i) (.int (m : Int)) S = some (.int xs[m]) := atV_nat hs (by simp [hm'])
    simp -implicitDefEqProofs only [Res.bind_ok, ha, ofO_some, bV_add, bV_mulL _ 40692 _ rfl, bV_mulL _ 7919 _ rfl, bV_mulL _ 48271 _ rfl, bV_mod _ 2147483399 _ rfl, bV_mod _ 2147483647 _ rfl, bV_modS _ lim _ (show lim ≠ 0 by omega), Res.out_ok, bindP_nm, List.length_cons, List.length_nil, List.set, Nat.reduceAdd, Nat.reduceLT, if_true, Out.seq_nx, List.getElem?_cons_succ, List.getElem?_cons_zero, Out.seq_ret, Sat]
    exact ⟨_, rfl, trivial, Int.fmod_nonneg_of_pos _ hl, Int.fmod_lt_of_pos _ hl⟩
/-- the next number, below lim -/
theorem take_ok {C : Ctx} {S : Sto} {i j d : Nat} {xs : List Int} {k : Nat} {lim : Int} (hd : ∃ C', C.cf d = runF C' IR_draw) (h : S[i]? = some (.lst (xs.map PV.int))) (hj : S[j]? = some (.lst [.int k])) (hij : i ≠ j) (hx : xs ≠ []) (hl : 0 < lim) :
    ∃ p S', runF C (IR_take d) [.obj i, .obj j, .int lim] S = .ok p S' ∧ ∃ d : Int, p = .int d ∧ S' = S.set j (.lst [.int ((k + 1 : Nat) : Int)]) ∧ 0 ≤ d ∧ d < lim := by
  refine runF_sat rfl ?_
  have hs : seqOf S j = some [.int k] := by simp [seqOf, hj]
  have ha : atV (.obj j) (.int 0) S = some (.int (k : Int)) := by simp only [atV, hs]; rfl
  have hlt : j < S.length := (List.getElem?_eq_some_iff.mp hj).1
  have hs2 : seqOf (S.set j (.lst [.int ((k + 1 : Nat) : Int)])) j = some [.int ((k + 1 : Nat) : Int)] := by simp [seqOf, hlt]
  have hz2 : (S.set j (.lst [.int ((k + 1 : Nat) : Int)]))[i]? = some (.lst (xs.map PV.int)) := by rw [List.getElem?_set_ne (by omega)]; exact h
  have ha2 : atV (.obj j) (.int 0) (S.set j (.lst [.int ((k + 1 : Nat) : Int)])) = some (.int ((k + 1 : Nat) : Int)) := by simp only [atV, hs2]; rfl
  have hix : ixN [PV.int (k : Int)].length 0 = some 0 := rfl
  have hset : [PV.int (k : Int)].set 0 (.int ((k : Int) + 1)) = [.int ((k + 1 : Nat) : Int)] := by simp
  simp -implicitDefEqProofs only [IR_take, List.map_cons, List.map_nil, List.replicate, List.cons_append, List.nil_append, evB, evS, evT, ev, evs, Res.bind_ok, Res.out_ok, List.getElem?_cons_succ, List.getElem?_cons_zero, ha, ofO_some, bV_add, hj, hix, hset, Out.seq_nx, ha2, bV_sub]
  have e : ((k + 1 : Nat) : Int) - 1 = (k : Int) := by omega
  rw [e]
  have fin : ∀ C', Sat (((runF C' IR_draw [.obj i, .int k, .int lim] (S.set j (.lst [.int ((k + 1 : Nat) : Int)])))).out fun p S => .ret p S) NoB NoB (fun p S' => ∃ d : Int, p = .int d ∧ S' = S.set j (.lst [.int ((k + 1 : Nat) : Int)]) ∧ 0 ≤ d ∧ d < lim) := fun C' => by
    obtain ⟨p, S', h1, d, h2, h3, h4⟩ := draw_ok (C := C') hz2 hx hl
    rw [h1]
    exact ⟨d, h2, h3, h4⟩
  obtain ⟨C', hd⟩ := hd
  rw [hd]
  have := fin C'
  revert this
  cases (runF C' IR_draw [.obj i, .int k, .int lim] (S.set j (.lst [.int ((k + 1 : Nat) : Int)]))) <;> exact id
end TM

/-! PM, part I: calls; a law's run. -/
namespace PM
open TM
def envQ (f : Fn) (as : List Q) : QE := as.map some ++ List.replicate (f.nn - f.np) none
def runQ (C : PC) (f : Fn) (as : List Q) (h : QH) : PR Q :=
  if as.length = f.np then match pb C f.body (envQ f as) h with
    | .nx _ h => .ok .non h
    | .ret p h => .ok p h
    | _ => .bad
  else .bad
def ownF (fn : Fn) (i : Nat) : Bool := decide (fn.np ≤ i)
def ownI (fn : Fn) (i : Nat) : Bool := i == 0 || decide (fn.np ≤ i)
def chF (fn : Fn) : Bool := (chB (geN fn.gens 3) (ownF fn) none fn.body []).isSome
def chI (fn : Fn) : Bool := match chB (geN fn.gens 3) (ownI fn) none fn.body [0] with
  | some O => O.contains 0
  | none => false
/-- __init__: what stands in self at the end -/
def runI (C : PC) (f : Fn) (c : Nat) (as : List Q) (h : QH) : PR Q :=
  if chI f && decide (as.length + 1 = f.np) then match pb C f.body (envQ f (.ins c [] :: as)) h with
    | .nx (some q :: _) h => .ok q h
    | _ => .bad
  else .bad
/-- one def, called at a level below which cf and ci stand -/
def ctxQ (cf : Nat → List Q → QH → PR Q) (ci : Nat → Nat → List Q → QH → PR Q) (gl : Nat → PV) (fn : Fn) : PC := ⟨cf, ci, gl, gfQ cf ci gl fn.gens 3, ownF fn⟩
def ctxI (cf : Nat → List Q → QH → PR Q) (ci : Nat → Nat → List Q → QH → PR Q) (gl : Nat → PV) (fn : Fn) : PC := ⟨cf, ci, gl, gfQ cf ci gl fn.gens 3, ownI fn⟩
mutual
def callQ (fs : List Fn) (gl : Nat → PV) : Nat → Nat → List Q → QH → PR Q
  | 0, _, _, _ => .bad
  | k + 1, f, as, h => match fs[f]? with
    | some fn => runQ (ctxQ (callQ fs gl k) (initQ fs gl k) gl fn) fn as h
    | none => .bad
def initQ (fs : List Fn) (gl : Nat → PV) : Nat → Nat → Nat → List Q → QH → PR Q
  | 0, _, _, _, _ => .bad
  | k + 1, c, f, as, h => match fs[f]? with
    | some fn => runI (ctxI (callQ fs gl k) (initQ fs gl k) gl fn) fn c as h
    | none => .bad
end
section
variable {w : W} {h : QH}
theorem W.back {w' : W} {h : QH} {Ow : Nat → Prop} (H : HR w' h) (o : w'.Ow = Ow) : w' = ⟨w'.S, Ow, w'.io, h.length⟩ := by rw [← H.nh, ← o]
theorem env_get {qs : List Q} {ps : List PV} (v : VRs w qs ps) (n : Nat) {j : Nat} {q : Q} (g : (qs.map some ++ List.replicate n none)[j]? = some (some q)) : ∃ p, (ps.map some ++ List.replicate n none)[j]? = some (some p) ∧ VR w q p := by
  rw [List.getElem?_append] at g
  rw [List.getElem?_append]
  rw [List.length_map] at g ⊢
  rw [← v.len]
  split at g
  · rename_i l
    rw [if_pos l]
    rw [List.getElem?_map, Option.map_eq_some_iff] at g
    obtain ⟨q', g, e⟩ := g
    cases e
    obtain ⟨p, a, b⟩ := v.get g
    exact ⟨p, by rw [List.getElem?_map, a]; rfl, b⟩
  · rw [List.getElem?_replicate] at g
    split at g <;> cases g
theorem run_snd {C : PC} {D : Ctx} {fn : Fn} (K : CS C D (geN fn.gens 3)) (ho : C.own = ownF fn) (hc : chF fn = true) (H : HR w h) {qs : List Q} {ps : List PV} (v : VRs w qs ps) : Snd w h RV (runQ C fn qs h) (runF D fn ps w.S) := by
  unfold chF at hc
  rw [← ho] at hc
  cases hb : chB (geN fn.gens 3) C.own none fn.body [] with
  | none => rw [hb] at hc; cases hc
  | some O' =>
    unfold runQ runF
    by_cases l : qs.length = fn.np
    · rw [if_pos l, if_pos (by rw [← v.len]; exact l)]
      have r : FR w.S.length w.Ow 0 w [] (envQ fn qs) (ps.map some ++ List.replicate (fn.nn - fn.np) none) := by
        refine ⟨by simp [envQ, v.len], fun j q g => ?_, fun i => ⟨.inl, fun z => z.elim id fun ⟨j, a, _⟩ => by simp at a⟩, fun j j' i a => by simp at a, fun z => by simp at z, Nat.le_refl _, fun i z => H.rng i (.inl z)⟩
        obtain ⟨p, a, b⟩ := env_get v (fn.nn - fn.np) g
        exact ⟨p, a, fun z => by simp at z, fun _ => b⟩
      have s := pb_snd K fn.body none [] O' hb w h _ _ H r
      intro q h' e
      cases hx : pb C fn.body (envQ fn qs) h with
      | nx penv h1 =>
        rw [hx] at e s
        cases e
        obtain ⟨env, w', a, b, c, d⟩ := s
        obtain ⟨w2, f1, f2, f3, f4⟩ := d.frz c (O2 := []) (fun j z => by simp at z)
        have o2 : w2.Ow = w.Ow := by
          funext i
          exact propext ((f2.own i).trans ⟨fun z => z.elim id fun ⟨j, a, _⟩ => by simp at a, .inl⟩)
        have x := b.trans f4 (Nat.le_refl _)
        have e9 := W.back f3 o2
        rw [e9] at x f3
        exact ⟨.non, w2.S, w2.io, by rw [a, f1], x, f3, .non⟩
      | ret q1 h1 =>
        rw [hx] at e s
        cases e
        obtain ⟨p, w', a, b, c, o, d⟩ := s
        have e9 := W.back c o
        rw [e9] at b c d
        exact ⟨p, w'.S, w'.io, by rw [a], b, c, d⟩
      | brk _ _ => rw [hx] at e; cases e
      | cnt _ _ => rw [hx] at e; cases e
      | bad => rw [hx] at e; cases e
    · rw [if_neg l]; exact .bad
theorem init_snd {C : PC} {D : Ctx} {fn : Fn} (K : CS C D (geN fn.gens 3)) (ho : C.own = ownI fn) (c : Nat) (H : HR w h) {qs : List Q} {ps : List PV} (v : VRs w qs ps) : Snd w h RV (runI C fn c qs h) ((runF D fn (.obj w.S.length :: ps) (w.S ++ [.ins c []])).bind fun r S' => match r with
    | .non => .ok (.obj w.S.length) S'
    | _ => .bad) := by
  unfold runI runF
  by_cases l0 : (chI fn && decide (qs.length + 1 = fn.np)) = true
  · rw [if_pos l0]
    rw [Bool.and_eq_true] at l0
    obtain ⟨hc, l⟩ := l0
    have l := of_decide_eq_true l
    rw [if_pos (by rw [List.length_cons, ← v.len]; exact l)]
    unfold chI at hc
    rw [← ho] at hc
    cases hb : chB (geN fn.gens 3) C.own none fn.body [0] with
    | none => rw [hb] at hc; cases hc
    | some O' =>
      rw [hb] at hc
      have h0 : 0 ∈ O' := by simpa using hc
      obtain ⟨S, Ow, io, nh⟩ := w
      have hn := H.nh
      subst hn
      simp only at v ⊢
      have app : ∀ i u, S[i]? = some u → (S ++ [TM.PO.ins c []])[i]? = some u := fun i u g => by rw [List.getElem?_append_left (lt_of_get g)]; exact g
      have mn : Mn ⟨S, Ow, io, h.length⟩ ⟨S ++ [.ins c []], fun k => Ow k ∨ k = S.length, io, h.length⟩ := ⟨fun i o' u g => ⟨fun z => by
          rcases z with (z | z) | z
          · exact u (.inl z)
          · have := lt_of_get g
            simp only at this
            omega
          · exact u (.inr z), app i o' g⟩, fun _ _ => rfl, Nat.le_refl _⟩
      have lt : ∀ i, i < S.length → i < (S ++ [TM.PO.ins c []]).length := fun i l => by rw [List.length_append]; exact Nat.lt_of_lt_of_le l (Nat.le_add_right _ _)
      have nrf : ¬isRf ⟨S ++ [.ins c []], fun k => Ow k ∨ k = S.length, io, h.length⟩ S.length := fun ⟨r, a, b⟩ => by
        have l9 : io r < S.length := H.rng (io r) (.inr ⟨r, a, rfl⟩)
        have b : io r = S.length := b
        omega
      have H1 : HR ⟨S ++ [.ins c []], fun k => Ow k ∨ k = S.length, io, h.length⟩ h := by
        refine H.later mn rfl (fun r _ u g => app _ u g) (fun i l => ?_) fun r a z => ?_
        · rcases l with (l | l) | l
          · exact lt i (H.rng i (.inl l))
          · rw [l]; simp
          · exact lt i (H.rng i (.inr l))
        · rcases z with z | z
          · exact H.dis r a z
          · exact nrf ⟨r, a, z⟩
      have x1 : Ext S.length ⟨S, Ow, io, h.length⟩ ⟨S ++ [.ins c []], fun k => Ow k ∨ k = S.length, io, h.length⟩ := ⟨by simp, fun _ _ => rfl, Nat.le_refl _, fun r a b => absurd b (Nat.not_lt.mpr a), fun i z => z.imp id fun z => by show S.length ≤ i; omega, fun i o g _ => app i o g⟩
      have r : FR S.length Ow S.length ⟨S ++ [.ins c []], fun k => Ow k ∨ k = S.length, io, h.length⟩ [0] (envQ fn (.ins c [] :: qs)) ((PV.obj S.length :: ps).map some ++ List.replicate (fn.nn - fn.np) none) := by
        refine ⟨by simp [envQ, v.len], fun j q g => ?_, fun i => or_congr Iff.rfl ⟨fun z => ⟨0, by simp, by simp [z]⟩, fun ⟨j, a, b⟩ => by simp at a; subst a; simp at b; exact b.symm⟩, fun j j' i a b _ _ => by simp at a b; rw [a, b], fun z => by simp, by simp, fun i z => H.rng i (.inl z)⟩
        cases j with
        | zero =>
          simp [envQ] at g
          subst g
          exact ⟨.obj S.length, by simp, fun _ => .inr ⟨S.length, rfl, Nat.le_refl _, nrf, S.length, [], rfl, by simp, .nil⟩, fun z => absurd (by simp) z⟩
        | succ j =>
          have g' : (qs.map some ++ List.replicate (fn.nn - fn.np) none)[j]? = some (some q) := by simpa [envQ] using g
          obtain ⟨p, a, b⟩ := env_get v (fn.nn - fn.np) g'
          exact ⟨p, by simpa using a, fun z => by simp at z, fun _ => b.mono mn⟩
      have s := pb_snd K fn.body none [0] O' hb _ h _ _ H1 r
      intro q h' e
      cases hx : pb C fn.body (envQ fn (.ins c [] :: qs)) h with
      | nx penv h1 =>
        rw [hx] at e s
        cases penv with
        | nil => cases e
        | cons o9 t9 =>
          cases o9 with
          | none => cases e
          | some q9 =>
            cases e
            obtain ⟨env, w', a, b, c', d⟩ := s
            obtain ⟨w2, f1, f2, f3, f4⟩ := d.frz c' (O2 := []) (fun j z => by simp at z)
            have o2 : w2.Ow = Ow := by
              funext i
              exact propext ((f2.own i).trans ⟨fun z => z.elim id fun ⟨j, a, _⟩ => by simp at a, .inl⟩)
            have x := x1.trans (b.trans f4 (Nat.le_refl _)) (Nat.le_refl _)
            obtain ⟨p, g1, _, g2⟩ := f2.get 0 q rfl
            have g3 := d.anc h0
            rw [g3] at g1
            cases g1
            have g4 := g2 (by simp)
            have e9 := W.back f3 o2
            rw [e9] at x f3 g4
            refine ⟨.obj S.length, w2.S, w2.io, ?_, x, f3, g4⟩
            simp only at a
            rw [a, f1]
            rfl
      | ret q1 h1 => rw [hx] at e; cases e
      | brk _ _ => rw [hx] at e; cases e
      | cnt _ _ => rw [hx] at e; cases e
      | bad => rw [hx] at e; cases e
  · rw [if_neg l0]; exact .bad
end
theorem cs_of {cf : Nat → List Q → QH → PR Q} {ci : Nat → Nat → List Q → QH → PR Q} {cfT : Nat → List PV → Sto → Res PV} {gl : Nat → PV} {gs : List Gen}
    (h1 : ∀ f (w : W) h qs ps, HR w h → VRs w qs ps → Snd w h RV (cf f qs h) (cfT f ps w.S))
    (h2 : ∀ c f (w : W) h qs ps, HR w h → VRs w qs ps → Snd w h RV (ci c f qs h) ((cfT f (.obj w.S.length :: ps) (w.S ++ [.ins c []])).bind fun r S' => match r with
    | .non => .ok (.obj w.S.length) S'
    | _ => .bad)) : ∀ n ow, CS ⟨cf, ci, gl, gfQ cf ci gl gs n, ow⟩ ⟨cfT, gl, gfN cfT gl gs n⟩ (geN gs n)
  | 0, ow => ⟨h1, h2, rfl, fun g w O h penv env H r n => .bad⟩
  | n + 1, ow => ⟨h1, h2, rfl, fun g w O h penv env H r nn => by
      show Snd w h _ (gfQ cf ci gl gs (n + 1) g penv h) (gfN cfT gl gs (n + 1) g env w.S)
      rw [gfQ, gfN]
      rw [geN] at nn
      cases hg : gs[g]? with
      | none => exact .bad
      | some γ =>
        rw [hg] at nn
        exact peG_snd (cs_of h1 h2 n _) γ w O h penv env H r nn⟩
theorem levels {fs : List Fn} {gl : Nat → PV} (hF : ∀ fn ∈ fs, chF fn = true) : ∀ k,
    (∀ f (w : W) h qs ps, HR w h → VRs w qs ps → Snd w h RV (callQ fs gl k f qs h) (callN fs gl k f ps w.S)) ∧
    (∀ c f (w : W) h qs ps, HR w h → VRs w qs ps → Snd w h RV (initQ fs gl k c f qs h) ((callN fs gl k f (.obj w.S.length :: ps) (w.S ++ [.ins c []])).bind fun r S' => match r with
    | .non => .ok (.obj w.S.length) S'
    | _ => .bad))
  | 0 => ⟨fun f w h qs ps _ _ => .bad, fun c f w h qs ps _ _ => .bad⟩
  | k + 1 => by
    obtain ⟨i1, i2⟩ := levels hF k
    refine ⟨fun f w h qs ps H v => ?_, fun c f w h qs ps H v => ?_⟩
    · rw [callQ, callN]
      cases hf : fs[f]? with
      | none => exact .bad
      | some fn => exact run_snd (cs_of i1 i2 3 _) rfl (hF fn (List.mem_of_getElem? hf)) H v
    · rw [initQ, callN]
      cases hf : fs[f]? with
      | none => exact .bad
      | some fn => exact init_snd (cs_of i1 i2 3 _) rfl c H v
/-- a law's run: the numbers, the spot, the rest -/
theorem law_pm {fs : List Fn} {gl : Nat → PV} {k jl jn nn : Nat} {rest : List TM.S} {gens : List Gen} (hl : fs[jl]? = some ⟨1, nn, .set (.nm 1) (.call jn [.var 0]) :: .set (.nm 2) (.lst [.cst (.int 0)]) :: rest, gens⟩) (hn : fs[jn]? = some IR_numbers) (hF : fs.all chF = true) (hk : 3 ≤ nn)
    (hr : (chB (geN gens 3) (ownF ⟨1, nn, [], gens⟩) none rest []).isSome = true)
    (main : ∀ row : List Int, row ≠ [] → (∀ x ∈ row, 0 ≤ x) → row.length ≤ 3781 → ∃ h', pb (ctxQ (callQ fs gl (k + 1)) (initQ fs gl (k + 1)) gl ⟨1, nn, rest, gens⟩) rest (none :: some (.lst (row.map .int)) :: some (.ref 0) :: List.replicate (nn - 3) none) [.lst [.int 0]] = .ret (.bl true) h') :
    ∀ ns : List Int, ns.length ≤ 63 → ∀ o : TM.PO, ScrO ns o → ∃ S', callN fs gl (k + 2) jl [.obj 0] [o] = .ok (.bl true) S' := by
  intro ns hns o ho
  obtain ⟨p, S1, e1, xs, c, rfl, rfl, e2, e3, e4⟩ := numbers_ok ⟨callN fs gl k, gl, gfOf (callN fs gl k) gl IR_numbers.gens⟩ ns hns o ho
  have e1' : callN fs gl (k + 1) jn [.obj 0] [o] = .ok (.obj 1) [o, .lst (xs.map PV.int), .lst c] := by
    rw [callN, hn]; exact e1
  obtain ⟨h', hm⟩ := main xs e2 e3 e4
  obtain ⟨i1, i2⟩ := levels (fs := fs) (gl := gl) (List.all_eq_true.mp hF) (k + 1)
  cases hb : chB (geN gens 3) (ownF ⟨1, nn, [], gens⟩) none rest [] with
  | none => rw [hb] at hr; cases hr
  | some O' =>
    obtain ⟨m, rfl⟩ : ∃ m, nn = m + 3 := ⟨nn - 3, by omega⟩
    have hw : HR ⟨[o, .lst (xs.map PV.int), .lst c, .lst [.int 0]], fun _ => False, fun _ => 3, 1⟩ [.lst [.int 0]] := by
      refine ⟨rfl, fun r u g => ?_, fun r r' a b _ => by simp at a b; omega, fun i z => ?_, fun _ _ z => z⟩
      · have : r = 0 := by have := lt_of_get g; simp at this; exact this
        subst this
        cases g
        exact ⟨3, [.int 0], rfl, rfl, .cons .int .nil⟩
      · rcases z with z | ⟨r, a, b⟩
        · exact z.elim
        · have b : 3 = i := b
          subst b; simp
    have ul : ∀ i, i ≠ 3 → ¬Lock ⟨[o, .lst (xs.map PV.int), .lst c, .lst [.int 0]], fun _ => False, fun _ => 3, 1⟩ i := fun i n z => by
      rcases z with z | ⟨r, a, b⟩
      · exact z
      · exact n b.symm
    have fr : FR 0 (fun _ => False) 0 ⟨[o, .lst (xs.map PV.int), .lst c, .lst [.int 0]], fun _ => False, fun _ => 3, 1⟩ [] (none :: some (.lst (xs.map .int)) :: some (.ref 0) :: List.replicate m none) (some (.obj 0) :: some (.obj 1) :: some (.obj 3) :: List.replicate m none) := by
      refine ⟨by simp, fun j q g => ?_, fun i => ⟨.inl, fun z => z.elim id fun ⟨j, a, _⟩ => by simp at a⟩, fun j j' i a => by simp at a, fun z => by simp at z, Nat.zero_le _, fun i z => z.elim⟩
      match j, g with
      | 0, g => cases g
      | 1, g =>
        cases g
        refine ⟨.obj 1, rfl, fun z => by simp at z, fun _ => .lst' (ul 1 (by decide)) rfl (R2.map (R2.same (r := fun a b => a = b) fun _ _ => rfl) fun x y e => by subst e; exact .int)⟩
      | 2, g =>
        cases g
        exact ⟨.obj 3, rfl, fun z => by simp at z, fun _ => VR.ref (w := ⟨[o, .lst (xs.map PV.int), .lst c, .lst [.int 0]], fun _ => False, fun _ => 3, 1⟩) (r := 0) (by show 0 < 1; decide)⟩
      | j + 3, g =>
        simp only [List.getElem?_cons_succ, List.getElem?_replicate] at g
        split at g <;> cases g
    have s := pb_snd (cs_of (gl := gl) i1 i2 3 (ownF ⟨1, m + 3, [], gens⟩)) rest none [] O' hb _ _ _ _ hw fr
    have hm' : pb ⟨callQ fs gl (k + 1), initQ fs gl (k + 1), gl, gfQ (callQ fs gl (k + 1)) (initQ fs gl (k + 1)) gl gens 3, ownF ⟨1, m + 3, [], gens⟩⟩ rest (none :: some (.lst (xs.map .int)) :: some (.ref 0) :: List.replicate m none) [.lst [.int 0]] = .ret (.bl true) h' := hm
    rw [hm'] at s
    obtain ⟨p, w', a, _, _, _, v⟩ := s
    cases v
    refine ⟨w'.S, ?_⟩
    rw [callN, hl]
    simp only [runF, List.length_cons, List.length_nil, Nat.zero_add, if_true]
    have el : (List.map some [PV.obj 0] ++ List.replicate (m + 3 - 1) none : Env) = some (.obj 0) :: none :: none :: List.replicate m none := by
      rw [show m + 3 - 1 = m + 2 from rfl]
      simp [List.replicate_succ]
    rw [el]
    have l0 : ([PV.int 0].length ≤ LINE) := by decide
    simp only [evB, evS, ev, evs, List.getElem?_cons_zero, Res.bind_ok, e1', Res.out_ok, bindP_nm, List.length_cons, List.length_replicate, List.set, Out.seq_nx]
    rw [if_pos (by omega)]
    simp only [Out.seq_nx]
    rw [if_pos (by decide)]
    simp only [Res.out_ok, List.set, List.length_cons, List.length_nil, List.cons_append, List.nil_append]
    rw [if_pos (by omega)]
    simp only [Out.seq_nx]
    have a' : evB ⟨callN fs gl (k + 1), gl, gfOf (callN fs gl (k + 1)) gl gens⟩ rest (some (.obj 0) :: some (.obj 1) :: some (.obj 3) :: List.replicate m none) [o, .lst (xs.map PV.int), .lst c, .lst [.int 0]] = .ret (.bl true) w'.S := a
    rw [a']
end PM

/-! TM, part Q: the laws' common helpers, told for any data. -/
namespace TM
open L2
/-- all objects but those of ex stay -/
def Kp (ex : List Nat) (S S' : Sto) : Prop := S.length ≤ S'.length ∧ ∀ j o, j ∉ ex → S[j]? = some o → S'[j]? = some o
theorem Kp.refl {ex : List Nat} {S : Sto} : Kp ex S S := ⟨Nat.le_refl _, fun _ _ _ h => h⟩
theorem Kp.trans {ex : List Nat} {S S1 S2 : Sto} (a : Kp ex S S1) (b : Kp ex S1 S2) : Kp ex S S2 := ⟨Nat.le_trans a.1 b.1, fun j o h e => b.2 j o h (a.2 j o h e)⟩
theorem Kp.mono {ex ex' : List Nat} {S S' : Sto} (a : Kp ex S S') (h : ∀ j ∈ ex, j ∈ ex') : Kp ex' S S' := ⟨a.1, fun j o hj e => a.2 j o (fun z => hj (h j z)) e⟩
theorem Kp.push {ex : List Nat} {S l : Sto} : Kp ex S (S ++ l) := ⟨by simp, fun j o _ e => by rw [List.getElem?_append_left (List.getElem?_eq_some_iff.mp e).1]; exact e⟩
theorem Kp.set {ex : List Nat} {S : Sto} {j : Nat} {o : PO} (h : j ∈ ex) : Kp ex S (S.set j o) := ⟨by simp, fun i u hi e => by rw [List.getElem?_set_ne (by rintro rfl; exact hi h)]; exact e⟩
theorem Kp.get {ex : List Nat} {S S' : Sto} (a : Kp ex S S') {j : Nat} {o : PO} (h : S[j]? = some o) (hj : j ∉ ex) : S'[j]? = some o := a.2 j o hj h
/-- a call that gives -/
def Ret (r : Res PV) (R : PV → Sto → Prop) : Prop := ∃ p S', r = .ok p S' ∧ R p S'
theorem Ret.imp {r : Res PV} {R R' : PV → Sto → Prop} (h : Ret r R) (i : ∀ p S, R p S → R' p S) : Ret r R' := by
  obtain ⟨p, S, e, h⟩ := h
  exact ⟨p, S, e, i _ _ h⟩
/-- the numbers at a, the spot at b -/
structure Wd (a b : Nat) (xs : List Int) (S : Sto) : Prop where
  row : S[a]? = some (.lst (xs.map PV.int))
  spot : ∃ n : Nat, S[b]? = some (.lst [.int n])
/-- what _law_take does -/
def TakeOk (a b : Nat) (xs : List Int) (f : List PV → Sto → Res PV) : Prop := ∀ (S : Sto) (lim : Nat), Wd a b xs S → 0 < lim → ∃ (d : Nat) (S' : Sto), f [.obj a, .obj b, .int lim] S = .ok (.int d) S' ∧ d < lim ∧ Wd a b xs S' ∧ Kp [b] S S' ∧ S'.length = S.length
theorem take_of {C : Ctx} {a b d : Nat} {xs : List Int} (hab : a ≠ b) (hx : xs ≠ []) (hd : ∃ C', C.cf d = runF C' IR_draw) : TakeOk a b xs (runF C (IR_take d)) := by
  intro S lim w hl
  obtain ⟨n, hs⟩ := w.spot
  obtain ⟨p, S', h1, z, h2, h3, h4, h5⟩ := take_ok (C := C) (lim := (lim : Int)) hd w.row hs hab hx (by omega)
  obtain ⟨z', rfl⟩ := Int.eq_ofNat_of_zero_le h4
  subst h2 h3
  have hb : b < S.length := (List.getElem?_eq_some_iff.mp hs).1
  exact ⟨z', _, h1, by omega, ⟨by rw [List.getElem?_set_ne (fun z => hab z.symm)]; exact w.row, n + 1, by rw [List.getElem?_set_self hb]⟩, Kp.set (by simp), by simp⟩
theorem sat_ret {C : Ctx} {f : Fn} {as : List PV} {S : Sto} {R : PV → Sto → Prop} (hl : as.length = f.np) (h : Sat (evB C f.body (as.map some ++ List.replicate (f.nn - f.np) none) S) NoB NoB R) : Ret (runF C f as S) R := runF_sat hl h
theorem lenV_str {S : Sto} {cs : List Nat} (h : cs.length ≤ 1000) : lenV S (.str cs) = some (cs.length : Int) := if_pos (by unfold LINE; omega)
theorem lenV_tup {S : Sto} {xs : List PV} : lenV S (.tup xs) = some (xs.length : Int) := rfl
theorem atV_str {S : Sto} {cs : List Nat} {k c : Nat} (h : cs.length ≤ 1000) (e : cs[k]? = some c) : atV (.str cs) (.int (k : Int)) S = some (.str [c]) := by
  show (if cs.length ≤ LINE then (atI cs (k : Int)).map fun c => PV.str [c] else none) = _
  rw [if_pos (by unfold LINE; omega), atI_nat e]
  rfl
theorem atV_tup {S : Sto} {xs : List PV} {k : Nat} {p : PV} (e : xs[k]? = some p) : atV (.tup xs) (.int (k : Int)) S = some p := atI_nat e
theorem bV_str {S : Sto} {a b : List Nat} (h : a.length + b.length ≤ 2000) : binV .add (.str a) (.str b) S = .ok (.str (a ++ b)) S := if_pos (by unfold LINE; omega)
/-! ### _law_text -/
def IR_text (t : Nat) : Fn := ⟨5, 7, [(.set (.nm 5) (.cst (.str []))), (.for (.nm 6) (.rng1 (.bin .add (.var 3) (.call t [(.var 0), (.var 1), (.bin .add (.bin .sub (.var 4) (.var 3)) (.cst (.int 1)))]))) [(.set (.nm 5) (.bin .add (.var 5) (.idx (.var 2) (.call t [(.var 0), (.var 1), (.bi .len [(.var 2)])]))))]), (.ret (.var 5))], []⟩
theorem text_ok {C : Ctx} {a b t : Nat} {xs : List Int} {al : List Nat} {least most : Nat} {S : Sto} (T : TakeOk a b xs (C.cf t)) (w : Wd a b xs S) (ha : al ≠ []) (hal : al.length ≤ 1000) (hm : least ≤ most) (hm2 : most ≤ 1000) :
    Ret (runF C (IR_text t) [.obj a, .obj b, .str al, .int least, .int most] S) fun p S' => ∃ cs : List Nat, p = .str cs ∧ least ≤ cs.length ∧ cs.length ≤ most ∧ (∀ c ∈ cs, c ∈ al) ∧ Wd a b xs S' ∧ Kp [b] S S' ∧ S'.length = S.length := by
  refine sat_ret rfl ?_
  obtain ⟨d, S1, h1, h2, w1, k1, l1⟩ := T S (most - least + 1) w (by omega)
  have e1 : ((most : Int) - (least : Int) + 1) = ((most - least + 1 : Nat) : Int) := by omega
  simp -implicitDefEqProofs only [IR_text, List.map_cons, List.map_nil, List.replicate, List.cons_append, List.nil_append, evB, evS, ev, evs, evI, Res.bind_ok, Res.out_ok, Out.seq_nx, List.length_nil, bindP_nm, List.length_cons, List.set, Nat.reduceAdd, Nat.reduceLT, if_true, List.getElem?_cons_succ, List.getElem?_cons_zero, bV_add, bV_sub, Nat.reduceSub, e1, h1]
  have e2 : ((least : Int) + (d : Int)) = ((least + d : Nat) : Int) := by omega
  rw [e2]
  have hb : (decide (-P62 ≤ ((least + d : Nat) : Int)) && decide (((least + d : Nat) : Int) < P62)) = true := by
    rw [Bool.and_eq_true, decide_eq_true_eq, decide_eq_true_eq]; unfold P62; omega
  rw [if_pos hb]
  simp -implicitDefEqProofs only [Res.out_ok, Int.toNat_natCast]
  refine sat_seq ?_ fun e S => forN_nc _ _ _ _ _ _
  refine for_rule (least + d) (fun k e T => ∃ x6 cs, e = [some (.obj a), some (.obj b), some (.str al), some (.int least), some (.int most), some (.str cs), x6] ∧ cs.length = k ∧ (∀ c ∈ cs, c ∈ al) ∧ Wd a b xs T ∧ Kp [b] S T ∧ T.length = S.length) (by unfold FU; omega) ⟨none, [], rfl, rfl, by simp, w1, k1, l1⟩ ?_ ?_
  · rintro k env S2 hk ⟨x6, cs, rfl, h3, h4, w2, k2, l2⟩
    refine ⟨_, _, by rw [at_rng, if_pos hk], rfl, ?_⟩
    obtain ⟨d2, S3, h5, h6, w3, k3, l3⟩ := T S2 al.length w2 (List.length_pos_iff.mpr ha)
    have hln : lenV S2 (.str al) = some (al.length : Int) := lenV_str hal
    have hat : atV (.str al) (.int (d2 : Int)) S3 = some (.str [al[d2]]) := atV_str hal (by simp [h6])
    have hbin : binV .add (.str cs) (.str [al[d2]]) S3 = .ok (.str (cs ++ [al[d2]])) S3 := bV_str (by simp; omega)
    simp -implicitDefEqProofs only [List.set, evB, evS, ev, evs, Res.bind_ok, Res.out_ok, List.getElem?_cons_succ, List.getElem?_cons_zero, biV, hln, Option.map_some, ofO_some, h5, hat, hbin, bindP_nm, List.length_cons, List.length_nil, Nat.reduceAdd, Nat.reduceLT, if_true, Out.seq_nx, Sat]
    exact ⟨_, _, rfl, by simp [h3], fun c hc => by
      rcases List.mem_append.mp hc with hc | hc
      · exact h4 c hc
      · rw [List.mem_singleton.mp hc]; exact List.getElem_mem _, w3, k2.trans k3, l3.trans l2⟩
  · rintro env S2 ⟨x6, cs, rfl, h3, h4, w2, k2, l2⟩
    refine ⟨by rw [at_rng]; simp, ?_⟩
    simp -implicitDefEqProofs only [evB, evS, ev, List.getElem?_cons_succ, List.getElem?_cons_zero, Res.out_ok, Out.seq_ret, Sat]
    exact ⟨cs, rfl, by omega, by omega, h4, w2, k2, l2⟩
end TM

/-! TM, part R: _law_ordered, _law_so, _law_loose. -/
namespace TM
open L2
theorem getL {S : Sto} {o : PO} : (S ++ [o])[S.length]? = some o := by simp
theorem getP {S : Sto} {o u : PO} {i : Nat} (h : S[i]? = some u) : (S ++ [o])[i]? = some u := by
  rw [List.getElem?_append_left (List.getElem?_eq_some_iff.mp h).1]; exact h
theorem cut_all {a : Type} {xs : List a} : cutL xs none (some (xs.length : Int)) = xs := by
  have h : HT.sIx xs.length xs.length (some (xs.length : Int)) = xs.length := by rw [HT.sIx_nat, Nat.min_self]
  have h0 : HT.sIx xs.length 0 none = 0 := rfl
  unfold cutL
  rw [h, h0]
  simp
theorem cut_none {a : Type} {xs : List a} : cutL xs (some (xs.length : Int)) none = [] := by
  have h : HT.sIx xs.length 0 (some (xs.length : Int)) = xs.length := by rw [HT.sIx_nat, Nat.min_self]
  unfold cutL
  rw [h]
  simp
theorem bV_cat {S : Sto} {i j : Nat} {a b : List PV} (h1 : S[i]? = some (.lst a)) (h2 : S[j]? = some (.lst b)) (h : a.length + b.length ≤ 1000000) : binV .add (.obj i) (.obj j) S = .ok (.obj S.length) (S ++ [.lst (a ++ b)]) := by
  unfold binV
  simp only [h1, h2]
  rw [if_pos (by unfold LINE; omega)]
theorem cutP_obj {S : Sto} {i : Nat} {a : List PV} {lo hi : Option Int} (h : S[i]? = some (.lst a)) : cutP (.obj i) lo hi S = .ok (.obj S.length) (S ++ [.lst (cutL a lo hi)]) := by
  simp [cutP, seqOf, h]
theorem lenV_obj {S : Sto} {i : Nat} {a : List PV} (h : S[i]? = some (.lst a)) : lenV S (.obj i) = some (a.length : Int) := by simp [lenV, seqOf, h]
theorem tuple_obj {S : Sto} {i : Nat} {a : List PV} (h : S[i]? = some (.lst a)) : biV .tuple [.obj i] S = .ok (.tup a) S := by simp [biV, h]
theorem at_obj {S : Sto} {i k : Nat} {a : List PV} (h : S[i]? = some (.lst a)) : (Wk.obj i).at k S = some a[k]? := by simp [Wk.at, seqOf, h]
theorem seq_obj {S : Sto} {i : Nat} {a : List PV} (h : S[i]? = some (.lst a)) : seqOf S i = some a := by simp [seqOf, h]
def IR_ordered : Fn := ⟨1, 4, [(.set (.nm 1) (.lst [])), (.for (.nm 2) (.e (.var 0)) [(.set (.nm 3) (.cst (.int 0))), (.whl (.and (.e (.cmp .lt (.var 3) (.bi .len [(.var 1)]))) (.e (.cmp .lt (.idx (.var 1) (.var 3)) (.var 2)))) [(.set (.nm 3) (.bin .add (.var 3) (.cst (.int 1))))]), (.ite (.or (.e (.cmp .eq (.var 3) (.bi .len [(.var 1)]))) (.e (.cmp .ne (.idx (.var 1) (.var 3)) (.var 2)))) [(.set (.nm 1) (.bin .add (.bin .add (.slc (.var 1) none (some (.var 3))) (.lst [(.var 2)])) (.slc (.var 1) (some (.var 3)) none)))] [])]), (.ret (.bi .tuple [(.var 1)]))], []⟩
/-- strictly ascending -/
def Asc (vs : List PV) : Prop := ∀ (i j : Nat) (p q : PV), i < j → vs[i]? = some p → vs[j]? = some q → ordB p q = true ∧ ltP p q = true
theorem ordered_asc {C : Ctx} {S : Sto} {i : Nat} {vs : List PV} (h : S[i]? = some (.lst vs)) (hs : Asc vs) (hl : vs.length ≤ 100000) : Ret (runF C IR_ordered [.obj i] S) fun p S' => p = .tup vs ∧ Kp [] S S' := by
  refine sat_ret rfl ?_
  simp -implicitDefEqProofs only [IR_ordered, List.map_cons, List.map_nil, List.replicate, List.cons_append, List.nil_append, evB, evS, ev, evs, evI, Res.bind_ok, Res.out_ok, Out.seq_nx, List.length_nil, bindP_nm, List.length_cons, List.set, Nat.reduceAdd, Nat.reduceLT, if_true, List.getElem?_cons_succ, List.getElem?_cons_zero, Nat.reduceSub, Nat.zero_le, wkOf, seq_obj (getP h), ofO_some]
  refine sat_seq ?_ fun e S => forN_nc _ _ _ _ _ _
  refine for_rule vs.length (fun k e T => ∃ x2 x3 m, e = [some (.obj i), some (.obj m), x2, x3] ∧ T[m]? = some (.lst (vs.take k)) ∧ Kp [] S T) (by unfold FU; omega) ⟨none, none, S.length, rfl, by simp, Kp.push⟩ ?_ ?_
  · rintro k env T hk ⟨x2, x3, m, rfl, h1, h2⟩
    have hvk : vs[k]? = some vs[k] := by simp [hk]
    refine ⟨vs[k], _, by rw [at_obj (h2.get h (by simp)), hvk], rfl, ?_⟩
    have lk : (vs.take k).length = k := by simp; omega
    simp -implicitDefEqProofs only [List.set, evB, evS, evT, ev, evs, Res.bind_ok, Res.out_ok, List.getElem?_cons_succ, List.getElem?_cons_zero, bindP_nm, List.length_cons, List.length_nil, Nat.reduceAdd, Nat.reduceLT, if_true, Out.seq_nx, biV]
    refine sat_seq ?_ fun e S => whlN_nc _ _ _ _ _
    refine whl_rule (fun n e T2 => ∃ j : Nat, e = [some (.obj i), some (.obj m), some vs[k], some (.int j)] ∧ T2 = T ∧ j ≤ k ∧ n = k - j) ?_ FU k _ _ (by unfold FU; omega) ⟨0, rfl, rfl, by omega, by omega⟩
    rintro n env2 T2 ⟨j, rfl, rfl, hj, rfl⟩
    by_cases hjk : j < k
    · obtain ⟨o1, o2⟩ := hs j k vs[j] vs[k] hjk (by simp) hvk
      have a1 : atV (.obj m) (.int (j : Int)) T2 = some vs[j] := atV_nat (seq_obj h1) (by rw [List.getElem?_take_of_lt hjk]; simp)
      have c1 : cmpV .lt vs[j] vs[k] T2 = some true := by simp [cmpV, ltV, o1, o2]
      refine ⟨true, T2, ?_, ?_⟩
      · simp -implicitDefEqProofs only [List.getElem?_cons_succ, List.getElem?_cons_zero, Res.bind_ok, lenV_obj h1, Option.map_some, ofO_some, cmp_lt, truth, lk, show decide ((j : Int) < (k : Int)) = true by simp [hjk], if_true, a1, c1]
      · simp -implicitDefEqProofs only [if_true, evB, evS, ev, Res.bind_ok, Res.out_ok, List.getElem?_cons_succ, List.getElem?_cons_zero, bV_add, bindP_nm, List.length_cons, List.length_nil, Nat.reduceAdd, Nat.reduceLT, Out.seq_nx, List.set, Sat]
        exact ⟨k - (j + 1), by omega, j + 1, by simp, trivial, hjk, rfl⟩
    · have e : j = k := by omega
      subst e
      refine ⟨false, T2, ?_, ?_⟩
      · simp -implicitDefEqProofs only [List.getElem?_cons_succ, List.getElem?_cons_zero, Res.bind_ok, lenV_obj h1, Option.map_some, ofO_some, cmp_lt, truth, lk, show decide ((j : Int) < (j : Int)) = false by simp, Bool.false_eq_true, if_false]
      · have g1 : (T2 ++ [.lst (vs.take j)])[T2.length]? = some (.lst (vs.take j)) := getL
        have lc : (vs.take j).length + [vs[j]].length ≤ 1000000 := by simp; omega
        have c1 := cutP_obj (lo := none) (hi := some (j : Int)) h1
        have z1 : cutL (vs.take j) none (some (j : Int)) = vs.take j := by have := cut_all (xs := vs.take j); rwa [lk] at this
        have z2 : cutL (vs.take j) (some (j : Int)) none = [] := by have := cut_none (xs := vs.take j); rwa [lk] at this
        rw [z1] at c1
        have c2 := bV_cat (S := T2 ++ [.lst (vs.take j)] ++ [.lst [vs[j]]]) (getP getL) getL lc
        have c3 := cutP_obj (lo := some (j : Int)) (hi := none) (getP (o := .lst (vs.take j ++ [vs[j]])) (getP (o := .lst [vs[j]]) (getP (o := .lst (vs.take j)) h1)))
        rw [z2] at c3
        have c4 := bV_cat (S := T2 ++ [.lst (vs.take j)] ++ [.lst [vs[j]]] ++ [.lst (vs.take j ++ [vs[j]])] ++ [.lst []]) (getP getL) getL (by simp; omega)
        simp -implicitDefEqProofs only [List.getElem?_cons_succ, List.getElem?_cons_zero, Res.bind_ok, Res.out_ok, lenV_obj h1, Option.map_some, ofO_some, cmp_eq, truth, lk, beq_self_eq_true, if_true, ev, evs, evO, c1, c2, c3, c4, List.length_cons, List.length_nil, Nat.reduceAdd, Nat.reduceLT, bindP_nm, List.set, Out.seq_nx, Sat, show (0 + 1 ≤ LINE) = True from eq_true (by decide)]
        refine ⟨_, _, _, rfl, ?_, h2.trans (((Kp.push.trans Kp.push).trans Kp.push).trans (Kp.push.trans Kp.push))⟩
        rw [getL, List.append_nil, List.take_succ, hvk]
        rfl
  · rintro env T ⟨x2, x3, m, rfl, h1, h2⟩
    refine ⟨by rw [at_obj (h2.get h (by simp))]; simp, ?_⟩
    rw [List.take_length] at h1
    simp -implicitDefEqProofs only [evB, evS, ev, evs, Res.bind_ok, List.getElem?_cons_succ, List.getElem?_cons_zero, tuple_obj h1, Res.out_ok, Out.seq_ret, Sat]
    exact ⟨trivial, h2⟩
end TM

/-! TM, part S: rules for comprehensions; _law_so, _law_loose. -/
namespace TM
open L2
theorem lcN_rule {w : Wk} {p : Pat} {tst : Env → Sto → Res Bool} {turn : Env → Sto → Res Unit} {env : Env} (m : Nat) (I : Nat → Sto → Prop)
    (step : ∀ k S, k < m → I k S → ∃ x env1, w.at k S = some (some x) ∧ bindP p x env = some env1 ∧ ∃ b S1, tst env1 S = .ok b S1 ∧ if b then ∃ S2, turn env1 S1 = .ok () S2 ∧ I (k + 1) S2 else I (k + 1) S1)
    (fin : ∀ S, I m S → w.at m S = some none) :
    ∀ n k S, k ≤ m → m - k < n → I k S → ∃ S', lcN w p tst turn n k env S = .ok () S' ∧ I m S' := by
  intro n
  induction n with
  | zero => intro k S _ h; omega
  | succ n ih =>
    intro k S hk hn hi
    unfold lcN
    by_cases e : k = m
    · subst e
      rw [fin S hi]
      exact ⟨S, rfl, hi⟩
    · obtain ⟨x, env1, h1, h2, b, S1, h3, h4⟩ := step k S (by omega) hi
      simp only [h1, h2, h3]
      cases b with
      | false =>
        simp only [Bool.false_eq_true, if_false] at h4
        exact ih (k + 1) S1 (by omega) (by omega) h4
      | true =>
        simp only [if_true] at h4
        obtain ⟨S2, h5, h6⟩ := h4
        simp only [Res.nox, Res.bind_ok, if_true, h5]
        exact ih (k + 1) S2 (by omega) (by omega) h6
/-- a list comprehension of one clause -/
theorem lc1_rule {C : Ctx} {γ : Gen} {env : Env} {S S1 : Sto} {w : Wk} (hi : evI C γ.c.it env S = .ok w S1) (m : Nat) (J : Nat → List PV → Sto → Prop) (hm : m ≤ 1000000) (h0 : J 0 [] (S1 ++ [.lst []]))
    (step : ∀ k acc T, k < m → T[S1.length]? = some (.lst acc) → acc.length ≤ k → J k acc T → ∃ x env1, w.at k T = some (some x) ∧ bindP γ.c.p x (wipeE env γ.c.own) = some env1 ∧ ∃ b T1, evTs C γ.c.ts env1 T = .ok b T1 ∧ T1[S1.length]? = some (.lst acc) ∧
      if b then ∃ y T2, ev C γ.e env1 T1 = .ok y T2 ∧ T2[S1.length]? = some (.lst acc) ∧ J (k + 1) (acc ++ [y]) (T2.set S1.length (.lst (acc ++ [y]))) else J (k + 1) acc T1)
    (fin : ∀ acc T, T[S1.length]? = some (.lst acc) → J m acc T → w.at m T = some none) :
    Ret (evL1 C γ env S) fun p S' => p = .obj S1.length ∧ ∃ acc, S'[S1.length]? = some (.lst acc) ∧ J m acc S' := by
  obtain ⟨S', h1, acc, h2, _, h3⟩ := lcN_rule (w := w) (p := γ.c.p) (tst := evTs C γ.c.ts) (turn := eltD C γ.e S1.length) (env := wipeE env γ.c.own) m (fun k T => ∃ acc, T[S1.length]? = some (.lst acc) ∧ acc.length ≤ k ∧ J k acc T)
    (fun k T hk ⟨acc, g1, g2, g3⟩ => by
      obtain ⟨x, env1, e1, e2, b, T1, e3, e4, e5⟩ := step k acc T hk g1 g2 g3
      refine ⟨x, env1, e1, e2, b, T1, e3, ?_⟩
      cases b with
      | false => exact ⟨acc, e4, by omega, e5⟩
      | true =>
        simp only [if_true] at e5 ⊢
        obtain ⟨y, T2, e6, e7, e8⟩ := e5
        refine ⟨T2.set S1.length (.lst (acc ++ [y])), ?_, acc ++ [y], ?_, by simp; omega, e8⟩
        · unfold eltD appD
          simp only [e6, Res.bind_ok, e7]
          rw [if_pos (by unfold LINE; omega)]
        · rw [List.getElem?_set_self (List.getElem?_eq_some_iff.mp e7).1])
    (fun T ⟨acc, g1, _, g3⟩ => fin acc T g1 g3) FU 0 (S1 ++ [.lst []]) (Nat.zero_le _) (by unfold FU; omega) ⟨[], getL, Nat.le_refl _, h0⟩
  refine ⟨_, S', ?_, rfl, acc, h2, h3⟩
  unfold evL1
  simp only [hi, Res.bind_ok, h1]
/-- all(..), any(..) whose elements all go on -/
theorem gen_rule {w : Wk} {p : Pat} {b : Bool} {elt : Env → Sto → Res PV} (m : Nat) (I : Nat → Env → Sto → Prop)
    (step : ∀ k env S, k < m → I k env S → ∃ x env1 S1, w.at k S = some (some x) ∧ bindP p x env = some env1 ∧ elt env1 S = .ok (.bl b) S1 ∧ I (k + 1) env1 S1)
    (fin : ∀ env S, I m env S → w.at m S = some none) :
    ∀ n k env S, k ≤ m → m - k < n → I k env S → ∃ env' S', genN w p b elt n k env S = .ok (.bl b) S' ∧ I m env' S' := by
  intro n
  induction n with
  | zero => intro k env S _ h; omega
  | succ n ih =>
    intro k env S hk hn hi
    unfold genN
    by_cases e : k = m
    · subst e
      rw [fin env S hi]
      exact ⟨env, S, rfl, hi⟩
    · obtain ⟨x, env1, S1, h1, h2, h3, h4⟩ := step k env S (by omega) hi
      simp only [h1, h2, h3, if_true]
      exact ih (k + 1) env1 S1 (by omega) (by omega) h4
/-! ### runs told with four ways out -/
def S4 (r : Out) (N B C : Env → Sto → Prop) (R : PV → Sto → Prop) : Prop := match r with
  | .nx e S => N e S
  | .brk e S => B e S
  | .cnt e S => C e S
  | .ret p S => R p S
  | _ => False
theorem seq4 {r : Out} {f : Env → Sto → Out} {N B C : Env → Sto → Prop} {R : PV → Sto → Prop} (h : S4 r (fun e S => S4 (f e S) N B C R) B C R) : S4 (r.seq f) N B C R := by
  cases r <;> first | exact h | exact h.elim
theorem nx4 {e : Env} {S : Sto} {N B C : Env → Sto → Prop} {R : PV → Sto → Prop} (h : N e S) : S4 (.nx e S) N B C R := h
theorem ret4 {p : PV} {S : Sto} {N B C : Env → Sto → Prop} {R : PV → Sto → Prop} (h : R p S) : S4 (.ret p S) N B C R := h
theorem cnt4 {e : Env} {S : Sto} {N B C : Env → Sto → Prop} {R : PV → Sto → Prop} (h : C e S) : S4 (.cnt e S) N B C R := h
theorem S4.imp {r : Out} {N B C N' B' C' : Env → Sto → Prop} {R R' : PV → Sto → Prop} (h : S4 r N B C R) (hn : ∀ e S, N e S → N' e S) (hb : ∀ e S, B e S → B' e S) (hc : ∀ e S, C e S → C' e S) (hr : ∀ p S, R p S → R' p S) : S4 r N' B' C' R' := by
  cases r <;> first | exact hn _ _ h | exact hb _ _ h | exact hc _ _ h | exact hr _ _ h | exact h
theorem fn4 {C : Ctx} {f : Fn} {as : List PV} {S : Sto} {R : PV → Sto → Prop} (hl : as.length = f.np) (h : S4 (evB C f.body (as.map some ++ List.replicate (f.nn - f.np) none) S) NoB NoB NoB R) : Ret (runF C f as S) R := by
  refine sat_ret hl ?_
  cases e : evB C f.body (as.map some ++ List.replicate (f.nn - f.np) none) S <;> rw [e] at h <;> first | exact h | exact h.elim
theorem forN4 {w : Wk} {p : Pat} {body : Env → Sto → Out} (m : Nat) (I : Nat → Env → Sto → Prop) {F B C : Env → Sto → Prop} {R : PV → Sto → Prop}
    (turn : ∀ k env S, k < m → I k env S → ∃ x env1, w.at k S = some (some x) ∧ bindP p x env = some env1 ∧ S4 (body env1 S) (I (k + 1)) F (I (k + 1)) R)
    (fin : ∀ env S, I m env S → w.at m S = some none ∧ F env S) :
    ∀ n k env S, k ≤ m → m - k < n → I k env S → S4 (forN w p body n k env S) F B C R := by
  intro n
  induction n with
  | zero => intro k env S _ h; omega
  | succ n ih =>
    intro k env S hk hn hi
    unfold forN
    by_cases e : k = m
    · subst e
      obtain ⟨h1, h2⟩ := fin env S hi
      rw [h1]
      exact h2
    · obtain ⟨x, env1, h1, h2, h3⟩ := turn k env S (by omega) hi
      simp only [h1, h2]
      cases hb : body env1 S with
      | nx e1 S1 => rw [hb] at h3; exact ih (k + 1) e1 S1 (by omega) (by omega) h3
      | cnt e1 S1 => rw [hb] at h3; exact ih (k + 1) e1 S1 (by omega) (by omega) h3
      | brk e1 S1 => rw [hb] at h3; exact h3
      | ret q S1 => rw [hb] at h3; exact h3
      | exc q S1 => rw [hb] at h3; exact h3.elim
      | bad => rw [hb] at h3; exact h3.elim
theorem for4 {w : Wk} {p : Pat} {body : Env → Sto → Out} {env : Env} {S : Sto} (m : Nat) (I : Nat → Env → Sto → Prop) {F B C : Env → Sto → Prop} {R : PV → Sto → Prop} (hm : m < FU) (h0 : I 0 env S)
    (turn : ∀ k env S, k < m → I k env S → ∃ x env1, w.at k S = some (some x) ∧ bindP p x env = some env1 ∧ S4 (body env1 S) (I (k + 1)) F (I (k + 1)) R)
    (fin : ∀ env S, I m env S → w.at m S = some none ∧ F env S) : S4 (forN w p body FU 0 env S) F B C R :=
  forN4 m I turn fin FU 0 env S (Nat.zero_le _) (by omega) h0
/-! ### _law_so of alike values -/
def IR_so (t : Nat) : Fn := ⟨2, 3, [(.ite (.e (.cmp .is (.var 1) (.cst .non))) [(.ret (.cmp .is (.var 0) (.cst .non)))] []), (.ite (.e (.isi (.var 1) [.tuple])) [(.ite (.or (.not (.e (.isi (.var 0) [.tuple]))) (.e (.cmp .ne (.bi .len [(.var 0)]) (.bi .len [(.var 1)])))) [(.ret (.cst (.bl false)))] []), (.for (.nm 2) (.rng1 (.bi .len [(.var 1)])) [(.ite (.not (.e (.call t [(.idx (.var 0) (.var 2)), (.idx (.var 1) (.var 2))]))) [(.ret (.cst (.bl false)))] [])]), (.ret (.cst (.bl true)))] []), (.ite (.or (.e (.isi (.var 1) [.bool])) (.e (.isi (.var 0) [.bool]))) [(.ret (.andv (.isi (.var 1) [.bool]) (.andv (.isi (.var 0) [.bool]) (.cmp .eq (.var 0) (.var 1)))))] []), (.ite (.e (.isi (.var 1) [.int])) [(.ret (.andv (.isi (.var 0) [.int]) (.cmp .eq (.var 0) (.var 1))))] []), (.ret (.andv (.isi (.var 1) [.str]) (.andv (.isi (.var 0) [.str]) (.cmp .eq (.var 0) (.var 1)))))], []⟩
mutual
/-- short tuples, no objects -/
def shrt : PV → Bool
  | .tup xs => decide (xs.length ≤ 1000000) && shrtL xs
  | .obj _ => false
  | _ => true
def shrtL : List PV → Bool
  | [] => true
  | x :: xs => shrt x && shrtL xs
end
theorem shrtL_get : ∀ {xs : List PV} {i : Nat} {p : PV}, shrtL xs = true → xs[i]? = some p → shrt p = true
  | [], i, p, _, h => by simp at h
  | x :: xs, 0, p, h, e => by simp [shrtL] at h e; rw [← e]; exact h.1
  | x :: xs, i + 1, p, h, e => by simp [shrtL] at h; exact shrtL_get h.2 (by simpa using e)
theorem depL_get : ∀ {xs : List PV} {i : Nat} {p : PV}, xs[i]? = some p → dep p ≤ depL xs
  | [], i, p, h => by simp at h
  | x :: xs, 0, p, e => by simp at e; rw [e]; simp [depL]; omega
  | x :: xs, i + 1, p, e => by have := depL_get (xs := xs) (i := i) (p := p) (by simpa using e); simp [depL]; omega
theorem cmp_ne (i j : Int) (S : Sto) : cmpV .ne (.int i) (.int j) S = some (!(i == j)) := by simp [cmpV, eqV, eqS]
theorem so_refl {fs : List Fn} {gl : Nat → PV} {t : Nat} (hf : fs[t]? = some (IR_so t)) : ∀ (k : Nat) (p : PV) (S : Sto), dep p < k → shrt p = true → callN fs gl k t [p, p] S = .ok (.bl true) S := by
  intro k
  induction k with
  | zero => intro p S h; omega
  | succ k ih =>
    intro p S hd hs
    have key : Ret (runF ⟨callN fs gl k, gl, gfOf (callN fs gl k) gl (IR_so t).gens⟩ (IR_so t) [p, p] S) fun q S' => q = .bl true ∧ S' = S := by
      refine fn4 rfl ?_
      cases p with
      | tup xs =>
        simp only [shrt, Bool.and_eq_true, decide_eq_true_eq] at hs
        have hne : (!((xs.length : Int) == (xs.length : Int))) = false := by simp
        simp -implicitDefEqProofs only [IR_so, List.map_cons, List.map_nil, List.replicate, List.cons_append, List.nil_append, evB, evS, evT, ev, evs, evI, Res.bind_ok, Res.out_ok, Out.seq_nx, List.length_nil, List.length_cons, Nat.reduceAdd, Nat.reduceLT, if_true, List.getElem?_cons_succ, List.getElem?_cons_zero, Nat.reduceSub, cmpV, Option.map_some, ofO_some, truth, Bool.false_eq_true, if_false, isiL, isiV, beq_self_eq_true, Bool.or_false, Bool.not_true, biV, lenV, eqV, eqS, hne]
        have hb : (decide (-P62 ≤ (xs.length : Int)) && decide ((xs.length : Int) < P62)) = true := by
          rw [Bool.and_eq_true, decide_eq_true_eq, decide_eq_true_eq]; unfold P62; omega
        rw [if_pos hb]
        simp -implicitDefEqProofs only [Res.out_ok, Int.toNat_natCast]
        refine seq4 (seq4 ?_)
        · refine for4 xs.length (fun k e T => T = S ∧ ∃ x2, e = [some (.tup xs), some (.tup xs), x2]) (by unfold FU; omega) ⟨rfl, none, rfl⟩ ?_ ?_
          · rintro j env T hj ⟨rfl, x2, rfl⟩
            refine ⟨_, _, by rw [at_rng, if_pos hj], rfl, ?_⟩
            have a1 : atV (.tup xs) (.int (0 + (j : Int))) T = some xs[j] := by rw [Int.zero_add]; exact atV_tup (by simp [hj])
            have c1 := ih xs[j] T (by have := depL_get (xs := xs) (i := j) (p := xs[j]) (by simp [hj]); simp [dep] at hd; omega) (shrtL_get hs.2 (i := j) (by simp [hj]))
            simp -implicitDefEqProofs only [evB, evS, evT, ev, evs, List.set, Res.bind_ok, Res.out_ok, List.getElem?_cons_succ, List.getElem?_cons_zero, a1, ofO_some, c1, truth, Bool.not_true, Bool.false_eq_true, if_false, Out.seq_nx, S4]
            exact ⟨trivial, _, rfl⟩
          · rintro env T ⟨rfl, x2, rfl⟩
            refine ⟨by rw [at_rng]; simp, ?_⟩
            simp -implicitDefEqProofs only [evB, evS, ev, Res.out_ok, Out.seq_ret, S4]
            exact ⟨trivial, trivial⟩
      | obj _ => simp [shrt] at hs
      | non =>
        simp -implicitDefEqProofs only [IR_so, List.map_cons, List.map_nil, List.replicate, List.cons_append, List.nil_append, evB, evS, evT, ev, evs, evI, Res.bind_ok, Res.out_ok, Out.seq_nx, Out.seq_ret, List.getElem?_cons_succ, List.getElem?_cons_zero, Nat.reduceSub, cmpV, Option.map_some, ofO_some, truth, if_true, S4]
        exact ⟨trivial, trivial⟩
      | bl b =>
        simp -implicitDefEqProofs only [IR_so, List.map_cons, List.map_nil, List.replicate, List.cons_append, List.nil_append, evB, evS, evT, ev, evs, evI, Res.bind_ok, Res.out_ok, Out.seq_nx, Out.seq_ret, List.getElem?_cons_succ, List.getElem?_cons_zero, Nat.reduceSub, cmpV, Option.map_some, ofO_some, truth, if_true, Bool.false_eq_true, if_false, isiL, isiV, beq_self_eq_true, Bool.or_false, Bool.or_true, eqV, eqS, reduceCtorEq, beq_eq_false_iff_ne, ne_eq, not_false_eq_true, show ((Ty.tuple == Ty.int) = false) from rfl, show ((Ty.tuple == Ty.bool) = false) from rfl, S4]
        exact ⟨trivial, trivial⟩
      | int i =>
        simp -implicitDefEqProofs only [IR_so, List.map_cons, List.map_nil, List.replicate, List.cons_append, List.nil_append, evB, evS, evT, ev, evs, evI, Res.bind_ok, Res.out_ok, Out.seq_nx, Out.seq_ret, List.getElem?_cons_succ, List.getElem?_cons_zero, Nat.reduceSub, cmpV, Option.map_some, ofO_some, truth, if_true, Bool.false_eq_true, if_false, isiL, isiV, beq_self_eq_true, Bool.or_false, Bool.or_true, eqV, eqS, show ((Ty.tuple == Ty.int) = false) from rfl, show ((Ty.bool == Ty.int) = false) from rfl, S4]
        exact ⟨trivial, trivial⟩
      | str cs =>
        simp -implicitDefEqProofs only [IR_so, List.map_cons, List.map_nil, List.replicate, List.cons_append, List.nil_append, evB, evS, evT, ev, evs, evI, Res.bind_ok, Res.out_ok, Out.seq_nx, Out.seq_ret, List.getElem?_cons_succ, List.getElem?_cons_zero, Nat.reduceSub, cmpV, Option.map_some, ofO_some, truth, if_true, Bool.false_eq_true, if_false, isiL, isiV, beq_self_eq_true, Bool.or_false, Bool.or_true, eqV, eqS, show ((Ty.tuple == Ty.str) = false) from rfl, show ((Ty.bool == Ty.str) = false) from rfl, show ((Ty.int == Ty.str) = false) from rfl, S4]
        exact ⟨trivial, trivial⟩
    obtain ⟨q, S', h1, rfl, rfl⟩ := key
    have e : callN fs gl (k + 1) t [p, p] S' = runF ⟨callN fs gl k, gl, gfOf (callN fs gl k) gl (IR_so t).gens⟩ (IR_so t) [p, p] S' := by simp only [callN, hf]
    rw [e]
    exact h1
end TM

/-! TM, part T: _law_loose of a flat tuple. -/
namespace TM
open L2
def IR_loose (t : Nat) : Fn := ⟨2, 4, [(.ite (.e (.isi (.var 0) [.tuple])) [(.set (.nm 2) (.gcall 0)), (.ret (.ife (.e (.cmp .eq (.bin .mod (.bi .int [(.var 1)]) (.cst (.int 2))) (.cst (.int 0)))) (.var 2) (.bi .tuple [(.var 2)])))] []), (.ret (.var 0))], [⟨.lst, 0, [], ⟨[3], (.nm 3), (.e (.var 0)), []⟩, [], (.call t [(.var 3), (.bin .add (.var 1) (.cst (.int 1)))]), .never⟩]⟩
def flat1 : PV → Bool
  | .tup _ => false
  | .obj _ => false
  | _ => true
theorem gf_lst {cf : Nat → List PV → Sto → Res PV} {gl : Nat → PV} {gs : List Gen} {g : Nat} {γ : Gen} (h : gs[g]? = some γ) (h1 : γ.kd = .lst) (h2 : γ.c2 = []) (env : Env) (S : Sto) : gfOf cf gl gs g env S = evL1 ⟨cf, gl, gfN cf gl gs 2⟩ γ env S := by
  show gfN cf gl gs 3 g env S = _
  simp only [gfN, h, evG, h1, h2]
theorem gf_all {cf : Nat → List PV → Sto → Res PV} {gl : Nat → PV} {gs : List Gen} {g : Nat} {γ : Gen} (h : gs[g]? = some γ) (h1 : γ.kd = .all) (env : Env) (S : Sto) : gfOf cf gl gs g env S = evA ⟨cf, gl, gfN cf gl gs 2⟩ true γ env S := by
  show gfN cf gl gs 3 g env S = _
  simp only [gfN, h, evG, h1]
/-- all(..), any(..) whose elements all go on -/
theorem all_rule {C : Ctx} {γ : Gen} {b : Bool} {env : Env} {S S1 : Sto} {w : Wk} (hi : evI C γ.c.it env S = .ok w S1) (m : Nat) (I : Nat → Env → Sto → Prop) (hm : m ≤ 1000000) (h0 : I 0 (env ++ List.replicate γ.k none) S1)
    (step : ∀ k env S, k < m → I k env S → ∃ x env1 S1, w.at k S = some (some x) ∧ bindP γ.c.p x env = some env1 ∧ ev C γ.e env1 S = .ok (.bl b) S1 ∧ I (k + 1) env1 S1)
    (fin : ∀ env S, I m env S → w.at m S = some none) : ∃ S', evA C b γ env S = .ok (.bl b) S' ∧ ∃ env', I m env' S' := by
  obtain ⟨env', S', e, h⟩ := gen_rule (w := w) (p := γ.c.p) (b := b) (elt := ev C γ.e) m I step fin FU 0 (env ++ List.replicate γ.k none) S1 (Nat.zero_le _) (by unfold FU; omega) h0
  refine ⟨S', ?_, env', h⟩
  unfold evA
  rw [hi, Res.bind_ok, e]
theorem callN_eq {fs : List Fn} {gl : Nat → PV} {t k : Nat} {fn : Fn} (hf : fs[t]? = some fn) (as : List PV) (S : Sto) : callN fs gl (k + 1) t as S = runF ⟨callN fs gl k, gl, gfOf (callN fs gl k) gl fn.gens⟩ fn as S := by simp only [callN, hf]
theorem isi_flat {S : Sto} {p : PV} (h : flat1 p = true) : isiL S p [.tuple] = some false := by
  cases p <;> first | rfl | cases h
theorem loose_at {fs : List Fn} {gl : Nat → PV} {t k : Nat} (hf : fs[t]? = some (IR_loose t)) {p : PV} (h : flat1 p = true) (n : Int) (S : Sto) : callN fs gl (k + 1) t [p, .int n] S = .ok p S := by
  rw [callN_eq hf]
  have key : Ret (runF ⟨callN fs gl k, gl, gfOf (callN fs gl k) gl (IR_loose t).gens⟩ (IR_loose t) [p, .int n] S) fun q S' => q = p ∧ S' = S := by
    refine fn4 rfl ?_
    simp -implicitDefEqProofs only [IR_loose, List.map_cons, List.map_nil, List.replicate, List.cons_append, List.nil_append, evB, evS, evT, ev, Res.bind_ok, Res.out_ok, Out.seq_nx, Out.seq_ret, List.getElem?_cons_succ, List.getElem?_cons_zero, isi_flat h, Option.map_some, ofO_some, truth, Bool.false_eq_true, if_false, S4]
    exact ⟨trivial, trivial⟩
  obtain ⟨q, S', e, rfl, rfl⟩ := key
  exact e
theorem loose_flat {fs : List Fn} {gl : Nat → PV} {t k : Nat} (hf : fs[t]? = some (IR_loose t)) {xs : List PV} (hx : ∀ x ∈ xs, flat1 x = true) (hl : xs.length ≤ 1000) (n : Nat) (hn : n < 2) (S : Sto) :
    Ret (callN fs gl (k + 2) t [.tup xs, .int n] S) fun p S' => Kp [] S S' ∧ ((∃ m, p = .obj m ∧ S'[m]? = some (.lst xs)) ∨ p = .tup xs) := by
  rw [callN_eq hf]
  refine fn4 rfl ?_
  have comp : Ret (evL1 ⟨callN fs gl (k + 1), gl, gfN (callN fs gl (k + 1)) gl (IR_loose t).gens 2⟩ ⟨.lst, 0, [], ⟨[3], (.nm 3), (.e (.var 0)), []⟩, [], (.call t [(.var 3), (.bin .add (.var 1) (.cst (.int 1)))]), .never⟩ [some (.tup xs), some (.int n), none, none] S) fun p S' => p = .obj S.length ∧ S' = S ++ [.lst xs] := by
    refine Ret.imp (lc1_rule (S1 := S) (w := .seq xs) rfl xs.length (fun j acc T => acc = xs.take j ∧ T = S ++ [.lst acc]) (by omega) ⟨rfl, rfl⟩ ?_ ?_) ?_
    · rintro j acc T hj g1 g2 ⟨rfl, rfl⟩
      refine ⟨xs[j], [some (.tup xs), some (.int n), none, some xs[j]], by simp [Wk.at, hj], rfl, true, _, rfl, getL, ?_⟩
      refine ⟨xs[j], _, ?_, getL, ?_, ?_⟩
      · simp -implicitDefEqProofs only [ev, evs, List.getElem?_cons_succ, List.getElem?_cons_zero, Res.bind_ok, bV_add]
        exact loose_at hf (hx _ (List.getElem_mem _)) _ _
      · rw [List.take_succ]; simp [hj]
      · simp
    · rintro acc T g1 ⟨rfl, rfl⟩
      simp [Wk.at]
    · rintro p S' ⟨rfl, acc, g1, rfl, rfl⟩
      refine ⟨rfl, ?_⟩
      simp
  obtain ⟨p, S', e, rfl, rfl⟩ := comp
  rw [← gf_lst (gs := (IR_loose t).gens) (g := 0) rfl rfl rfl] at e
  have isi1 : isiL S (.tup xs) [.tuple] = some true := rfl
  simp -implicitDefEqProofs only [IR_loose, List.map_cons, List.map_nil, List.replicate, List.cons_append, List.nil_append, evB, evS, evT, ev, evs, Res.bind_ok, Res.out_ok, Out.seq_nx, List.getElem?_cons_succ, List.getElem?_cons_zero, isi1, Option.map_some, ofO_some, truth, if_true] at e ⊢
  rw [e]
  have g1 := getL (S := S) (o := .lst xs)
  simp -implicitDefEqProofs only [Res.out_ok, bindP_nm, List.length_cons, List.length_nil, Nat.reduceAdd, Nat.reduceLT, if_true, List.set, Out.seq_nx, biV, Res.bind_ok, List.getElem?_cons_succ, List.getElem?_cons_zero, g1]
  have hn : n = 0 ∨ n = 1 := by omega
  rcases hn with rfl | rfl
  · have b0 : binV .mod (.int ((0 : Nat) : Int)) (.int 2) (S ++ [.lst xs]) = .ok (.int 0) (S ++ [.lst xs]) := rfl
    simp -implicitDefEqProofs only [b0, Res.bind_ok, cmp_eq, Option.map_some, ofO_some, truth, beq_self_eq_true, if_true, Res.out_ok, Out.seq_ret, S4]
    exact ⟨Kp.push, .inl ⟨_, rfl, g1⟩⟩
  · have b0 : binV .mod (.int ((1 : Nat) : Int)) (.int 2) (S ++ [.lst xs]) = .ok (.int 1) (S ++ [.lst xs]) := rfl
    simp -implicitDefEqProofs only [b0, Res.bind_ok, cmp_eq, Option.map_some, ofO_some, truth, show ((1 : Int) == 0) = false from rfl, Bool.false_eq_true, if_false, g1, Res.out_ok, Out.seq_ret, S4]
    exact ⟨Kp.push, .inr trivial⟩
end TM

/-! TM, part W: the small defs of many laws. -/
namespace TM
open L2
theorem cmp_le (i j : Int) (S : Sto) : cmpV .le (.int i) (.int j) S = some (!decide (j < i)) := by
  simp [cmpV, ordB, pur, alk, isNon, dep, ltP]
theorem cmp_gt (i j : Int) (S : Sto) : cmpV .gt (.int i) (.int j) S = some (decide (j < i)) := by
  simp [cmpV, ordB, pur, alk, isNon, dep, ltP]
section
variable {fs : List Fn} {gl : Nat → PV} {t k : Nat}
theorem cf_of {fn : Fn} {as : List PV} {S S' : Sto} {p : PV} (hf : fs[t]? = some fn) (h : Ret (runF ⟨callN fs gl k, gl, gfOf (callN fs gl k) gl fn.gens⟩ fn as S) fun q T => q = p ∧ T = S') : callN fs gl (k + 1) t as S = .ok p S' := by
  rw [callN_eq hf]
  obtain ⟨q, T, e, rfl, rfl⟩ := h
  exact e
def IR_need : Fn := ⟨2, 2, [(.ite (.not (.e (.var 0))) [.never] [])], []⟩
theorem need_cf (hf : fs[t]? = some IR_need) (v : PV) (S : Sto) : callN fs gl (k + 1) t [.bl true, v] S = .ok .non S := by
  rw [callN_eq hf]
  rfl
def IR_is_sequence : Fn := ⟨1, 1, [(.ret (.isi (.var 0) [.list, .tuple]))], []⟩
def IR_is_tuple_of : Fn := ⟨2, 2, [(.ret (.andv (.isi (.var 0) [.list, .tuple]) (.cmp .eq (.bi .len [(.var 0)]) (.var 1))))], []⟩
/-- a row of values: a list, a tuple -/
def RowV (v : PV) (S : Sto) (xs : List PV) : Prop := v = .tup xs ∨ ∃ m, v = .obj m ∧ S[m]? = some (.lst xs)
theorem RowV.kp {v : PV} {S S' : Sto} {xs : List PV} (h : RowV v S xs) (k : Kp [] S S') : RowV v S' xs := by
  rcases h with h | ⟨m, h1, h2⟩
  · exact .inl h
  · exact .inr ⟨m, h1, k.get h2 (by simp)⟩
theorem RowV.len {v : PV} {S : Sto} {xs : List PV} (h : RowV v S xs) : lenV S v = some (xs.length : Int) := by
  rcases h with rfl | ⟨m, rfl, h2⟩
  · rfl
  · exact lenV_obj h2
theorem RowV.wk {v : PV} {S : Sto} {xs : List PV} (h : RowV v S xs) : ∃ w, wkOf S v = some w ∧ ∀ k S', Kp [] S S' → w.at k S' = some (xs[k]?) := by
  rcases h with rfl | ⟨m, rfl, h2⟩
  · exact ⟨_, rfl, fun k S' _ => rfl⟩
  · exact ⟨.obj m, by simp [wkOf, seq_obj h2], fun k S' hk => at_obj (hk.get h2 (by simp))⟩
theorem RowV.isi {v : PV} {S : Sto} {xs : List PV} (h : RowV v S xs) : isiL S v [.list, .tuple] = some true := by
  rcases h with rfl | ⟨m, rfl, h2⟩
  · rfl
  · simp [isiL, isiV, h2]
theorem is_sequence_cf (hf : fs[t]? = some IR_is_sequence) {v : PV} {S : Sto} {xs : List PV} (h : RowV v S xs) : callN fs gl (k + 1) t [v] S = .ok (.bl true) S := by
  refine cf_of hf (fn4 rfl ?_)
  simp -implicitDefEqProofs only [IR_is_sequence, List.map_cons, List.map_nil, Nat.sub_self, List.replicate, List.cons_append, List.nil_append, evB, evS, ev, Res.bind_ok, List.getElem?_cons_zero, h.isi, Option.map_some, ofO_some, Res.out_ok, Out.seq_ret, S4]
  exact ⟨trivial, trivial⟩
theorem is_tuple_cf (hf : fs[t]? = some IR_is_tuple_of) {v : PV} {S : Sto} {xs : List PV} (h : RowV v S xs) : callN fs gl (k + 1) t [v, .int xs.length] S = .ok (.bl true) S := by
  refine cf_of hf (fn4 rfl ?_)
  simp -implicitDefEqProofs only [IR_is_tuple_of, List.map_cons, List.map_nil, Nat.sub_self, List.replicate, List.cons_append, List.nil_append, evB, evS, ev, evs, Res.bind_ok, List.getElem?_cons_zero, List.getElem?_cons_succ, h.isi, Option.map_some, ofO_some, truth, if_true, biV, h.len, cmp_eq, beq_self_eq_true, Res.out_ok, Out.seq_ret, S4]
  exact ⟨trivial, trivial⟩
def gText : Gen := ⟨.all, 1, ["value", "signs", "low", "high", "sign"], ⟨[], (.nm 4), (.e (.var 0)), []⟩, [], (.cmp .inn (.var 4) (.var 1)), .never⟩
def IR_is_text : Fn := ⟨4, 4, [(.ret (.andv (.isi (.var 0) [.str]) (.andv (.chain .le .le (.var 2) (.bi .len [(.var 0)]) (.var 3)) (.gcall 0))))], [gText]⟩
theorem is_text_cf (hf : fs[t]? = some IR_is_text) {cs sg : List Nat} {lo hi : Nat} (S : Sto) (hl : ∀ c ∈ cs, c ∈ sg) (h1 : lo ≤ cs.length) (h2 : cs.length ≤ hi) (h3 : hi ≤ 1000) : callN fs gl (k + 1) t [.str cs, .str sg, .int lo, .int hi] S = .ok (.bl true) S := by
  refine cf_of hf (fn4 rfl ?_)
  have g : gfOf (callN fs gl k) gl [gText] 0 [some (.str cs), some (.str sg), some (.int lo), some (.int hi)] S = .ok (.bl true) S := by
    rw [gf_all (γ := gText) rfl rfl]
    obtain ⟨S', e, env', rfl, _⟩ := all_rule (C := ⟨callN fs gl k, gl, gfN (callN fs gl k) gl [gText] 2⟩) (γ := gText) (b := true) (env := [some (.str cs), some (.str sg), some (.int lo), some (.int hi)]) (S := S) (S1 := S) (w := .seq (cs.map fun c => .str [c])) rfl cs.length (fun j env T => T = S ∧ ∃ x, env = [some (.str cs), some (.str sg), some (.int lo), some (.int hi), x]) (by omega) ⟨rfl, none, rfl⟩ (by
        rintro j env T hj ⟨rfl, x, rfl⟩
        refine ⟨.str [cs[j]], [some (.str cs), some (.str sg), some (.int lo), some (.int hi), some (.str [cs[j]])], T, by simp [Wk.at, hj], rfl, ?_, rfl, _, rfl⟩
        have hin : inV T (.str [cs[j]]) (.str sg) = some true := by
          show some (sg.any fun d => d == cs[j]) = some true
          congr 1
          rw [List.any_eq_true]
          exact ⟨_, hl _ (List.getElem_mem hj), by simp⟩
        simp -implicitDefEqProofs only [gText, ev, List.getElem?_cons_succ, List.getElem?_cons_zero, Res.bind_ok, cmpV, hin]
        rfl) (by
        rintro env T ⟨rfl, x, rfl⟩
        simp [Wk.at])
    exact e
  have c1 : decide ((cs.length : Int) < (lo : Int)) = false := by simp; omega
  have c2 : decide ((hi : Int) < (cs.length : Int)) = false := by simp; omega
  simp -implicitDefEqProofs only [IR_is_text, List.map_cons, List.map_nil, Nat.sub_self, List.replicate, List.cons_append, List.nil_append, evB, evS, evT, ev, evs, Res.bind_ok, Res.out_ok, Out.seq_nx, Out.seq_ret, List.getElem?_cons_succ, List.getElem?_cons_zero, Option.map_some, ofO_some, truth, if_true, biV, lenV_str (show cs.length ≤ 1000 by omega), cmp_le, c1, c2, Bool.not_false, isiL, isiV, beq_self_eq_true, Bool.or_false] at g ⊢
  rw [g]
  exact ⟨rfl, rfl⟩
def alpha : List Nat := [97, 98, 99, 100, 101, 102, 103, 104, 105, 106, 107, 108, 109, 110, 111, 112, 113, 114, 115, 116, 117, 118, 119, 120, 121, 122]
def IR_is_word (t g : Nat) : Fn := ⟨1, 1, [(.ret (.call t [(.var 0), (.glob g), (.cst (.int 1)), (.cst (.int 15))]))], []⟩
/-- a word -/
def Word (cs : List Nat) : Prop := 1 ≤ cs.length ∧ cs.length ≤ 15 ∧ ∀ c ∈ cs, c ∈ alpha
theorem is_word_cf {t2 g : Nat} (hf : fs[t]? = some (IR_is_word t2 g)) (h2 : fs[t2]? = some IR_is_text) (hg : gl g = .str alpha) {cs : List Nat} (S : Sto) (hw : Word cs) : callN fs gl (k + 2) t [.str cs] S = .ok (.bl true) S := by
  refine cf_of hf (fn4 rfl ?_)
  have e : callN fs gl (k + 1) t2 [.str cs, .str alpha, .int 1, .int 15] S = .ok (.bl true) S := is_text_cf (lo := 1) (hi := 15) h2 S hw.2.2 hw.1 hw.2.1 (by omega)
  simp -implicitDefEqProofs only [IR_is_word, List.map_cons, List.map_nil, Nat.sub_self, List.replicate, List.cons_append, List.nil_append, evB, evS, ev, evs, Res.bind_ok, List.getElem?_cons_zero, hg, e, Res.out_ok, Out.seq_ret, S4]
  exact ⟨trivial, trivial⟩
end
/-- all(..), element by element -/
theorem all_dec {C : Ctx} {γ : Gen} {env : Env} {S S1 : Sto} {w : Wk} (hi : evI C γ.c.it env S = .ok w S1) (m : Nat) (f : Nat → Bool) (I : Nat → Env → Sto → Prop) (hm : m ≤ 1000000) (h0 : I 0 (env ++ List.replicate γ.k none) S1)
    (step : ∀ k env S, k < m → I k env S → ∃ x env1 S1, w.at k S = some (some x) ∧ bindP γ.c.p x env = some env1 ∧ ev C γ.e env1 S = .ok (.bl (f k)) S1 ∧ I (k + 1) env1 S1)
    (fin : ∀ env S, I m env S → w.at m S = some none) : ∃ S', evA C true γ env S = .ok (.bl ((List.range m).all f)) S' ∧ ∃ j env', j ≤ m ∧ I j env' S' := by
  have go : ∀ n k env S, k ≤ m → m - k < n → I k env S → (∀ i, i < k → f i = true) → ∃ S', genN w γ.c.p true (ev C γ.e) n k env S = .ok (.bl ((List.range m).all f)) S' ∧ ∃ j env', j ≤ m ∧ I j env' S' := by
    intro n
    induction n with
    | zero => intro k env S _ h; omega
    | succ n ih =>
      intro k env S hk hn hI hp
      unfold genN
      by_cases e : k = m
      · subst e
        rw [fin env S hI]
        have : (List.range k).all f = true := List.all_eq_true.mpr fun i hi => hp i (List.mem_range.mp hi)
        rw [this]
        exact ⟨S, rfl, k, env, Nat.le_refl _, hI⟩
      · obtain ⟨x, env1, S1, h1, h2, h3, h4⟩ := step k env S (by omega) hI
        simp only [h1, h2, h3]
        cases hb : f k with
        | true =>
          simp only [if_true]
          exact ih (k + 1) env1 S1 (by omega) (by omega) h4 fun i hi => by
            rcases Nat.lt_succ_iff_lt_or_eq.mp hi with z | z
            · exact hp i z
            · rw [z]; exact hb
        | false =>
          simp only [Bool.false_eq_true, if_false, Bool.not_true]
          have : (List.range m).all f = false := by
            rw [List.all_eq_false]
            exact ⟨k, List.mem_range.mpr (by omega), by simp [hb]⟩
          rw [this]
          exact ⟨S1, rfl, k + 1, env1, by omega, h4⟩
  obtain ⟨S', e, h⟩ := go FU 0 (env ++ List.replicate γ.k none) S1 (Nat.zero_le _) (by unfold FU; omega) h0 fun i hi => absurd hi (Nat.not_lt_zero _)
  refine ⟨S', ?_, h⟩
  unfold evA
  rw [hi, Res.bind_ok, e]
end TM

/-! TM, part X: texts in order. -/
namespace TM
open L2
/-- rising -/
def AscN (l : List (List Nat)) : Prop := l.Pairwise fun a b => a < b
theorem lt_of_le {a b : List Nat} (h : a ≤ b) (ne : a ≠ b) : a < b := Classical.byContradiction fun n => ne (List.le_antisymm h (List.not_lt.mp n))
theorem AscN.nodup {l : List (List Nat)} (h : AscN l) : l.Nodup := List.Pairwise.imp (fun h e => by rw [e] at h; exact List.lt_irrefl _ h) h
theorem asc_uniq {l m : List (List Nat)} (h : AscN l) (h' : AscN m) (e : ∀ x, x ∈ l ↔ x ∈ m) : l = m :=
  ((List.perm_ext_iff_of_nodup h.nodup h'.nodup).mpr e).eq_of_pairwise (le := fun a b : List Nat => a ≤ b) (fun a b _ _ h1 h2 => List.le_antisymm h1 h2) (h.imp fun z => List.le_of_lt z) (h'.imp fun z => List.le_of_lt z)
theorem txo_mem {ys : List (List Nat)} {x : List Nat} : x ∈ isort leN (nubS ys) ↔ x ∈ ys := by
  have pi : (isort leN (nubS ys)).Perm (nubS ys) := by rw [isort_eq leN_total]; exact List.mergeSort_perm _ _
  rw [pi.mem_iff, nub_mem]
theorem txo_asc (ys : List (List Nat)) : AscN (isort leN (nubS ys)) := by
  have pi : (isort leN (nubS ys)).Perm (nubS ys) := by rw [isort_eq leN_total]; exact List.mergeSort_perm _ _
  have ni : (isort leN (nubS ys)).Nodup := pi.nodup_iff.mpr (nub_nodup ys)
  have pw := isort_pair leN_total (nubS ys)
  have := List.Pairwise.and pw ni
  refine this.imp fun {a b} h => ?_
  obtain ⟨h1, h2⟩ := h
  rw [leN_eq, decide_eq_true_eq] at h1
  exact lt_of_le h1 h2
theorem txo_self {l : List (List Nat)} (h : AscN l) : isort leN (nubS l) = l := asc_uniq (txo_asc l) h fun x => txo_mem
/-- x put in its place -/
def insU (x : List Nat) : List (List Nat) → List (List Nat)
  | [] => [x]
  | y :: l => if ltN y x then y :: insU x l else if y = x then y :: l else x :: y :: l
theorem insU_mem {x z : List Nat} : ∀ l : List (List Nat), z ∈ insU x l ↔ z = x ∨ z ∈ l
  | [] => by simp [insU]
  | y :: l => by
    have ih := insU_mem (x := x) (z := z) l
    simp only [insU]
    split
    · rw [List.mem_cons, List.mem_cons, ih]
      constructor
      · rintro (h | h | h) <;> simp [h]
      · rintro (h | h | h) <;> simp [h]
    · split
      · rename_i e
        rw [e, List.mem_cons]
        constructor
        · rintro (h | h) <;> simp [h]
        · rintro (h | h | h) <;> simp [h]
      · simp
theorem insU_asc {x : List Nat} : ∀ {l : List (List Nat)}, AscN l → AscN (insU x l)
  | [], _ => List.pairwise_singleton _ _
  | y :: l, h => by
    obtain ⟨h1, h2⟩ := List.pairwise_cons.mp h
    simp only [insU]
    split
    · rename_i e
      rw [ltN_eq, decide_eq_true_eq] at e
      refine List.pairwise_cons.mpr ⟨fun z hz => ?_, insU_asc h2⟩
      rcases (insU_mem l).mp hz with rfl | hz
      · exact e
      · exact h1 z hz
    · split
      · exact h
      · rename_i e ne
        rw [ltN_eq, decide_eq_true_eq] at e
        have hx : x < y := lt_of_le (List.not_lt.mp e) fun z => ne z.symm
        refine List.pairwise_cons.mpr ⟨fun z hz => ?_, h⟩
        rcases List.mem_cons.mp hz with rfl | hz
        · exact hx
        · exact List.lt_trans hx (h1 z hz)
def ordU (ys : List (List Nat)) : List (List Nat) := ys.foldl (fun acc x => insU x acc) []
theorem ordU_go : ∀ (ys acc : List (List Nat)), AscN acc → AscN (ys.foldl (fun acc x => insU x acc) acc) ∧ ∀ z, z ∈ ys.foldl (fun acc x => insU x acc) acc ↔ z ∈ acc ∨ z ∈ ys
  | [], acc, h => ⟨h, fun z => by simp⟩
  | y :: ys, acc, h => by
    obtain ⟨h1, h2⟩ := ordU_go ys (insU y acc) (insU_asc h)
    refine ⟨h1, fun z => ?_⟩
    rw [List.foldl_cons, h2, insU_mem, List.mem_cons]
    constructor
    · rintro ((h | h) | h) <;> simp [h]
    · rintro (h | h | h) <;> simp [h]
theorem ordU_asc (ys : List (List Nat)) : AscN (ordU ys) := (ordU_go ys [] List.Pairwise.nil).1
theorem ordU_mem {ys : List (List Nat)} {z : List Nat} : z ∈ ordU ys ↔ z ∈ ys := by
  have := (ordU_go ys [] List.Pairwise.nil).2 z
  unfold ordU
  rw [this]
  simp
theorem insU_len (x : List Nat) : ∀ l : List (List Nat), (insU x l).length ≤ l.length + 1
  | [] => by simp [insU]
  | y :: l => by
    have ih := insU_len x l
    simp only [insU]
    split
    · simp; omega
    · split <;> simp
theorem ordU_len (ys : List (List Nat)) : (ordU ys).length ≤ ys.length := by
  have go : ∀ (ys acc : List (List Nat)), (ys.foldl (fun acc x => insU x acc) acc).length ≤ acc.length + ys.length := by
    intro ys
    induction ys with
    | nil => intro acc; simp
    | cons y ys ih =>
      intro acc
      have h1 := ih (insU y acc)
      have h2 := insU_len y acc
      simp only [List.foldl_cons, List.length_cons]
      omega
  have := go ys []
  unfold ordU
  simp only [List.length_nil] at this
  omega
/-- the place of x -/
def posU (x : List Nat) : List (List Nat) → Nat
  | [] => 0
  | y :: l => if ltN y x then posU x l + 1 else 0
theorem posU_le (x : List Nat) : ∀ l : List (List Nat), posU x l ≤ l.length
  | [] => Nat.le_refl _
  | y :: l => by
    have ih := posU_le x l
    simp only [posU]
    split <;> simp <;> omega
theorem posU_lt (x : List Nat) : ∀ (l : List (List Nat)) (j : Nat) (y : List Nat), j < posU x l → l[j]? = some y → ltN y x = true
  | [], j, y, h, _ => by simp [posU] at h
  | z :: l, 0, y, h, e => by
    simp only [posU] at h
    simp at e
    subst e
    split at h
    · assumption
    · omega
  | z :: l, j + 1, y, h, e => by
    simp only [posU] at h
    split at h
    · exact posU_lt x l j y (by omega) (by simpa using e)
    · omega
theorem posU_at (x : List Nat) : ∀ (l : List (List Nat)) (y : List Nat), l[posU x l]? = some y → ltN y x = false
  | [], y, e => by simp [posU] at e
  | z :: l, y, e => by
    simp only [posU] at e
    split at e
    · exact posU_at x l y (by simpa using e)
    · rename_i h
      simp at e
      subst e
      simpa using h
theorem insU_pos (x : List Nat) : ∀ l : List (List Nat), insU x l = if l[posU x l]? = some x then l else l.take (posU x l) ++ [x] ++ l.drop (posU x l)
  | [] => by simp [insU, posU]
  | y :: l => by
    have ih := insU_pos x l
    simp only [insU, posU]
    split
    · rename_i h
      rw [ih]
      simp only [List.getElem?_cons_succ, List.take_succ_cons, List.drop_succ_cons, List.cons_append]
      split <;> rfl
    · simp only [List.getElem?_cons_zero, Option.some.injEq, List.take_zero, List.drop_zero, List.nil_append, List.singleton_append]
theorem lt_txt (a b : List Nat) (S : Sto) : cmpV .lt (.str a) (.str b) S = some (ltN a b) := by
  simp [cmpV, ltV, ordB, pur, alk, isNon, dep, ltP]
theorem ne_txt (a b : List Nat) (S : Sto) : cmpV .ne (.str a) (.str b) S = some (!(a == b)) := by
  simp [cmpV, eqV, eqS]
theorem eq_txt (a b : List Nat) (S : Sto) : cmpV .eq (.str a) (.str b) S = some (a == b) := by
  simp [cmpV, eqV, eqS]
theorem cut_to {a : Type} (xs : List a) {j : Nat} (h : j ≤ xs.length) : cutL xs none (some (j : Int)) = xs.take j := by
  have h1 : HT.sIx xs.length xs.length (some (j : Int)) = j := by rw [HT.sIx_nat, Nat.min_eq_left h]
  have h0 : HT.sIx xs.length 0 none = 0 := rfl
  unfold cutL
  rw [h1, h0]
  simp
theorem cut_from {a : Type} (xs : List a) {j : Nat} (h : j ≤ xs.length) : cutL xs (some (j : Int)) none = xs.drop j := by
  have h1 : HT.sIx xs.length 0 (some (j : Int)) = j := by rw [HT.sIx_nat, Nat.min_eq_left h]
  have h0 : HT.sIx xs.length xs.length none = xs.length := rfl
  unfold cutL
  rw [h1, h0, List.take_of_length_le (by simp)]
theorem map_len {ys : List (List Nat)} : (ys.map PV.str).length = ys.length := List.length_map _
/-- a while that ends by its test -/
theorem whl_nx {t : Env → Sto → Res Bool} {body : Env → Sto → Out} {F : Env → Sto → Prop} (I : Nat → Env → Sto → Prop)
    (turn : ∀ k env S, I k env S → ∃ b S1, t env S = .ok b S1 ∧ if b then Sat (body env S1) (fun e S => ∃ j, j < k ∧ I j e S) F (fun _ _ => False) else F env S1)
    (k : Nat) (env : Env) (S : Sto) (hk : k < FU) (h : I k env S) : ∃ e S', whlN t body FU env S = .nx e S' ∧ F e S' := by
  have w := whl_rule (B := NoB) I turn FU k env S hk h
  have nc := whlN_nc (t := t) (body := body) FU env S
  cases e : whlN t body FU env S with
  | nx e1 S1 => rw [e] at w; exact ⟨e1, S1, rfl, w⟩
  | cnt e1 S1 => exact absurd e (nc _ _)
  | brk e1 S1 => rw [e] at w; exact w.elim
  | ret p S1 => rw [e] at w; exact w.elim
  | exc x S1 => rw [e] at w; exact w.elim
  | bad => rw [e] at w; exact w.elim
/-- _law_ordered of texts -/
theorem ordered_txt {C : Ctx} {v : PV} {S : Sto} {ys : List (List Nat)} (h : RowV v S (ys.map .str)) (hl : ys.length ≤ 100000) : Ret (runF C IR_ordered [v] S) fun p S' => p = .tup ((ordU ys).map .str) ∧ Kp [] S S' := by
  refine fn4 rfl ?_
  obtain ⟨wk, hw, hat⟩ := (h.kp (Kp.push (l := [.lst []]))).wk
  simp -implicitDefEqProofs only [IR_ordered, List.map_cons, List.map_nil, List.replicate, List.cons_append, List.nil_append, evB, evS, ev, evs, evI, Res.bind_ok, Res.out_ok, Out.seq_nx, List.length_nil, bindP_nm, List.length_cons, List.set, Nat.reduceAdd, Nat.reduceLT, if_true, List.getElem?_cons_succ, List.getElem?_cons_zero, show (0 ≤ LINE) = True from eq_true (by decide), hw, ofO_some]
  refine seq4 ?_
  refine for4 ys.length (fun k e T => ∃ x2 x3 m, e = [some v, some (.obj m), x2, x3] ∧ T[m]? = some (.lst ((ordU (ys.take k)).map .str)) ∧ Kp [] (S ++ [.lst []]) T) (by unfold FU; omega) ⟨none, none, S.length, rfl, getL, Kp.refl⟩ ?_ ?_
  · rintro k env T hk ⟨x2, x3, m, rfl, h1, h2⟩
    refine ⟨.str ys[k], [some v, some (.obj m), some (.str ys[k]), x3], by rw [hat k T h2]; simp [hk], rfl, ?_⟩
    have nx : ordU (ys.take (k + 1)) = insU ys[k] (ordU (ys.take k)) := by
      unfold ordU
      rw [List.take_succ, List.getElem?_eq_getElem hk, List.foldl_append]
      rfl
    generalize ha : ordU (ys.take k) = acc at h1 nx
    have la : acc.length ≤ 100000 := by
      rw [← ha]
      exact Nat.le_trans (ordU_len _) (by rw [List.length_take]; omega)
    generalize ys[k] = x at nx ⊢
    have lp := posU_le x acc
    simp -implicitDefEqProofs only [List.set, evB, evS, evT, ev, evs, Res.bind_ok, Res.out_ok, List.getElem?_cons_succ, List.getElem?_cons_zero, bindP_nm, List.length_cons, List.length_nil, Nat.reduceAdd, Nat.reduceLT, if_true, Out.seq_nx, biV]
    have wh := whl_nx (t := evT C (.and (.e (.cmp .lt (.var 3) (.bi .len [(.var 1)]))) (.e (.cmp .lt (.idx (.var 1) (.var 3)) (.var 2))))) (body := evB C [(.set (.nm 3) (.bin .add (.var 3) (.cst (.int 1))))]) (F := fun e T2 => e = [some v, some (.obj m), some (.str x), some (.int (posU x acc))] ∧ T2 = T)
      (fun n e T2 => ∃ j : Nat, e = [some v, some (.obj m), some (.str x), some (.int j)] ∧ T2 = T ∧ j ≤ posU x acc ∧ n = posU x acc - j) (by
      rintro n env2 T2 ⟨j, rfl, rfl, hj, rfl⟩
      by_cases hjk : j < posU x acc
      · have hja : j < acc.length := by omega
        have a1 : atV (.obj m) (.int (j : Int)) T2 = some (.str acc[j]) := atV_nat (seq_obj h1) (by simp [hja])
        have c1 : ltN acc[j] x = true := posU_lt x acc j _ hjk (List.getElem?_eq_getElem hja)
        refine ⟨true, T2, ?_, ?_⟩
        · simp -implicitDefEqProofs only [evT, ev, evs, biV, List.getElem?_cons_succ, List.getElem?_cons_zero, Res.bind_ok, lenV_obj h1, Option.map_some, ofO_some, cmp_lt, truth, map_len, show decide ((j : Int) < (acc.length : Int)) = true by simp [hja], if_true, a1, lt_txt, c1]
        · simp -implicitDefEqProofs only [if_true, evB, evS, ev, Res.bind_ok, Res.out_ok, List.getElem?_cons_succ, List.getElem?_cons_zero, bV_add, bindP_nm, List.length_cons, List.length_nil, Nat.reduceAdd, Nat.reduceLT, Out.seq_nx, List.set, Sat]
          exact ⟨posU x acc - (j + 1), by omega, j + 1, by simp, trivial, hjk, rfl⟩
      · have e : j = posU x acc := by omega
        subst e
        refine ⟨false, T2, ?_, ?_⟩
        · by_cases hf : posU x acc < acc.length
          · have a1 : atV (.obj m) (.int (posU x acc : Int)) T2 = some (.str acc[posU x acc]) := atV_nat (seq_obj h1) (by simp [hf])
            have c1 : ltN acc[posU x acc] x = false := posU_at x acc _ (List.getElem?_eq_getElem hf)
            simp -implicitDefEqProofs only [evT, ev, evs, biV, List.getElem?_cons_succ, List.getElem?_cons_zero, Res.bind_ok, lenV_obj h1, Option.map_some, ofO_some, cmp_lt, truth, map_len, show decide ((posU x acc : Int) < (acc.length : Int)) = true by simp [hf], if_true, a1, lt_txt, c1]
          · simp -implicitDefEqProofs only [evT, ev, evs, biV, List.getElem?_cons_succ, List.getElem?_cons_zero, Res.bind_ok, lenV_obj h1, Option.map_some, ofO_some, cmp_lt, truth, map_len, show decide ((posU x acc : Int) < (acc.length : Int)) = false by simp; omega, Bool.false_eq_true, if_false]
        · simp -implicitDefEqProofs only [Bool.false_eq_true, if_false]
          first | exact ⟨rfl, rfl⟩ | exact ⟨trivial, rfl⟩ | exact ⟨trivial, trivial⟩ | trivial) (posU x acc - 0) [some v, some (.obj m), some (.str x), some (.int (0 : Nat))] T (by unfold FU; omega) ⟨0, rfl, rfl, by omega, rfl⟩
    obtain ⟨e1, S1, hwl, rfl, rfl⟩ := wh
    have hwl : whlN (evT C (.and (.e (.cmp .lt (.var 3) (.bi .len [(.var 1)]))) (.e (.cmp .lt (.idx (.var 1) (.var 3)) (.var 2))))) (evB C [(.set (.nm 3) (.bin .add (.var 3) (.cst (.int 1))))]) FU [some v, some (.obj m), some (.str x), some (.int 0)] S1 = _ := hwl
    simp -implicitDefEqProofs only [List.set, evB, evS, evT, ev, evs, evO, Res.bind_ok, Res.out_ok, List.getElem?_cons_succ, List.getElem?_cons_zero, bindP_nm, List.length_cons, List.length_nil, Nat.reduceAdd, Nat.reduceLT, if_true, Out.seq_nx, biV] at hwl ⊢
    rw [hwl]
    simp -implicitDefEqProofs only [Out.seq_nx, List.getElem?_cons_succ, List.getElem?_cons_zero, Res.bind_ok, lenV_obj h1, Option.map_some, ofO_some, cmp_eq, truth, map_len]
    have grow : ∃ S2 m2, ev C (.bin .add (.bin .add (.slc (.var 1) none (some (.var 3))) (.lst [(.var 2)])) (.slc (.var 1) (some (.var 3)) none)) [some v, some (.obj m), some (.str x), some (.int (posU x acc))] S1 = .ok (.obj m2) S2 ∧ S2[m2]? = some (.lst ((acc.take (posU x acc) ++ [x] ++ acc.drop (posU x acc)).map .str)) ∧ Kp [] S1 S2 := by
      have g1 := cutP_obj (lo := none) (hi := some (posU x acc : Int)) h1
      rw [cut_to _ (by rw [map_len]; exact lp)] at g1
      have hA := getL (S := S1) (o := .lst ((acc.map PV.str).take (posU x acc)))
      have hB := getL (S := S1 ++ [.lst ((acc.map PV.str).take (posU x acc))]) (o := .lst [.str x])
      have g2 := bV_cat (getP (o := .lst [.str x]) hA) hB (by simp; omega)
      have g3 := cutP_obj (S := (S1 ++ [.lst ((acc.map PV.str).take (posU x acc))]) ++ [.lst [.str x]] ++ [.lst ((acc.map PV.str).take (posU x acc) ++ [.str x])]) (lo := some (posU x acc : Int)) (hi := none) (getP (getP (getP h1)))
      rw [cut_from _ (by rw [map_len]; exact lp)] at g3
      have hC := getL (S := (S1 ++ [.lst ((acc.map PV.str).take (posU x acc))]) ++ [.lst [.str x]]) (o := .lst ((acc.map PV.str).take (posU x acc) ++ [.str x]))
      have hD := getL (S := (S1 ++ [.lst ((acc.map PV.str).take (posU x acc))]) ++ [.lst [.str x]] ++ [.lst ((acc.map PV.str).take (posU x acc) ++ [.str x])]) (o := .lst ((acc.map PV.str).drop (posU x acc)))
      have g4 := bV_cat (getP (o := .lst ((acc.map PV.str).drop (posU x acc))) hC) hD (by simp; omega)
      have em : (acc.take (posU x acc) ++ [x] ++ acc.drop (posU x acc)).map PV.str = (acc.map PV.str).take (posU x acc) ++ [.str x] ++ (acc.map PV.str).drop (posU x acc) := by simp [List.map_take, List.map_drop]
      refine ⟨((((S1 ++ [.lst ((acc.map PV.str).take (posU x acc))]) ++ [.lst [.str x]]) ++ [.lst ((acc.map PV.str).take (posU x acc) ++ [.str x])]) ++ [.lst ((acc.map PV.str).drop (posU x acc))]) ++ [.lst ((acc.map PV.str).take (posU x acc) ++ [.str x] ++ (acc.map PV.str).drop (posU x acc))], _, ?_, by rw [em]; exact getL, ?_⟩
      · simp -implicitDefEqProofs only [ev, evs, evO, List.getElem?_cons_succ, List.getElem?_cons_zero, Res.bind_ok, g1, List.length_cons, List.length_nil, Nat.reduceAdd, show (0 + 1 ≤ LINE) = True from eq_true (by decide), show (1 ≤ LINE) = True from eq_true (by decide), if_true, g2, g3]
        exact g4
      · exact ((Kp.push.trans Kp.push).trans Kp.push).trans (Kp.push.trans Kp.push)
    obtain ⟨S2, m2, e2, e3, e4⟩ := grow
    simp -implicitDefEqProofs only [ev, evs, evO, List.getElem?_cons_succ, List.getElem?_cons_zero, Res.bind_ok, List.length_cons, List.length_nil, Nat.reduceAdd] at e2
    by_cases hx : acc[posU x acc]? = some x
    · have hlt := (List.getElem?_eq_some_iff.mp hx).1
      have ei : insU x acc = acc := by rw [insU_pos, if_pos hx]
      have a1 : atV (.obj m) (.int (posU x acc : Int)) S1 = some (.str x) := atV_nat (seq_obj h1) (by rw [List.getElem?_map, hx]; rfl)
      simp -implicitDefEqProofs only [show ((posU x acc : Int) == (acc.length : Int)) = false by simp; omega, Bool.false_eq_true, if_false, a1, ofO_some, Res.bind_ok, ne_txt, beq_self_eq_true, Bool.not_true, Option.map_some, Res.out_ok, truth]
      show S4 (Out.nx _ _) _ _ _ _
      exact nx4 ⟨_, _, m, rfl, by rw [nx, ei]; exact h1, h2⟩
    · have ei : insU x acc = acc.take (posU x acc) ++ [x] ++ acc.drop (posU x acc) := by rw [insU_pos, if_neg hx]
      by_cases hf : posU x acc = acc.length
      · simp -implicitDefEqProofs only [show ((posU x acc : Int) == (acc.length : Int)) = true by simp [hf], if_true, Res.out_ok, e2, bindP_nm, List.length_cons, List.length_nil, Nat.reduceAdd, Nat.reduceLT, List.set, Out.seq_nx]
        show S4 (Out.nx _ _) _ _ _ _
        exact nx4 ⟨_, _, m2, rfl, by rw [nx, ei]; exact e3, h2.trans e4⟩
      · have hlt : posU x acc < acc.length := by omega
        have a1 : atV (.obj m) (.int (posU x acc : Int)) S1 = some (.str acc[posU x acc]) := atV_nat (seq_obj h1) (by simp [hlt])
        have ne : (acc[posU x acc] == x) = false := by
          rw [beq_eq_false_iff_ne]
          intro z
          exact hx (by rw [List.getElem?_eq_getElem hlt, z])
        simp -implicitDefEqProofs only [show ((posU x acc : Int) == (acc.length : Int)) = false by simp; omega, Bool.false_eq_true, if_false, a1, ofO_some, Res.bind_ok, ne_txt, ne, Bool.not_false, Option.map_some, Res.out_ok, truth, if_true, e2, bindP_nm, List.length_cons, List.length_nil, Nat.reduceAdd, Nat.reduceLT, List.set, Out.seq_nx]
        show S4 (Out.nx _ _) _ _ _ _
        exact nx4 ⟨_, _, m2, rfl, by rw [nx, ei]; exact e3, h2.trans e4⟩
  · rintro env T ⟨x2, x3, m, rfl, h1, h2⟩
    refine ⟨by rw [hat _ T h2]; simp, ?_⟩
    rw [List.take_length] at h1
    simp -implicitDefEqProofs only [evB, evS, ev, evs, List.getElem?_cons_succ, List.getElem?_cons_zero, Res.bind_ok, tuple_obj h1, Res.out_ok, Out.seq_ret, S4]
    exact ⟨trivial, Kp.push.trans h2⟩
end TM

/-! TM, part Y: the book. -/
namespace TM
open L2 PySem
theorem fnx4 {C : Ctx} {f : Fn} {as : List PV} {S : Sto} {R : PV → Sto → Prop} (hl : as.length = f.np) (h : S4 (evB C f.body (as.map some ++ List.replicate (f.nn - f.np) none) S) (fun _ S => R .non S) NoB NoB R) : Ret (runF C f as S) R := by
  unfold runF
  rw [if_pos hl]
  cases e : evB C f.body (as.map some ++ List.replicate (f.nn - f.np) none) S with
  | nx e1 S1 => rw [e] at h; exact ⟨.non, S1, rfl, h⟩
  | ret p S1 => rw [e] at h; exact ⟨p, S1, rfl, h⟩
  | brk e1 S1 => rw [e] at h; exact h.elim
  | cnt e1 S1 => rw [e] at h; exact h.elim
  | exc x S1 => rw [e] at h; exact h.elim
  | bad => rw [e] at h; exact h.elim
def gBook (w : Nat) : Gen := ⟨.all, 1, ["self", "words", "word'", "word"], ⟨[], (.nm 3), (.e (.var 1)), []⟩, [], (.call w [(.var 3)]), .never⟩
def gKnown (c : Nat) : Gen := ⟨.dct, 0, [], ⟨[2], (.nm 2), (.e (.fld (.var 0) "_words" [(c, none)])), []⟩, [], (.var 2), (.cst (.bl true))⟩
def IR_book (n s g w c : Nat) : Fn := ⟨2, 3, [(.expr (.call n [(.andv (.call s [(.var 1)]) (.andv (.cmp .le (.bi .len [(.var 1)]) (.glob g)) (.gcall 0))), (.cst (.int 1))])), (.setf (.var 0) "_words" [c] (.bi .tuple [(.sset (.var 1))])), (.setf (.var 0) "_known" [c] (.gcall 1))], [gBook w, gKnown c]⟩
/-- a book's object -/
def BookO (c : Nat) (ws : List (List Nat)) (d : Nat) : PO := .ins c [("_words", .tup (ws.map .str)), ("_known", .obj d)]
def BookAt (c : Nat) (v : PV) (S : Sto) (ws : List (List Nat)) : Prop := ∃ i d, v = .obj i ∧ S[i]? = some (BookO c ws d) ∧ S[d]? = some (.dic (ws.map fun w => (.str w, .bl true)))
theorem BookAt.kp {c : Nat} {v : PV} {S S' : Sto} {ws : List (List Nat)} (h : BookAt c v S ws) (k : Kp [] S S') : BookAt c v S' ws := by
  obtain ⟨i, d, h1, h2, h3⟩ := h
  exact ⟨i, d, h1, k.get h2 (by simp), k.get h3 (by simp)⟩
theorem strs_map : ∀ ys : List (List Nat), strsOf (ys.map PV.str) = some ys
  | [] => rfl
  | y :: ys => by simp only [List.map_cons, strsOf, strs_map ys]
theorem RowV.sset {v : PV} {S : Sto} {ys : List (List Nat)} (h : RowV v S (ys.map .str)) (hl : ys.length ≤ 4000) : ssetV v S = .ok (.obj S.length) (S ++ [.lst ((isort leN (nubS ys)).map .str)]) := by
  have e : txtsOf S v = some ys := by
    rcases h with rfl | ⟨m, rfl, h2⟩
    · simp [txtsOf, seqV, strs_map]
    · simp [txtsOf, seqV, seq_obj h2, strs_map]
  unfold ssetV
  rw [e]
  simp only
  rw [if_pos (by unfold SETS; omega)]
theorem gf_dct {cf : Nat → List PV → Sto → Res PV} {gl : Nat → PV} {gs : List Gen} {g : Nat} {γ : Gen} (h : gs[g]? = some γ) (h1 : γ.kd = .dct) (h2 : γ.c2 = []) (env : Env) (S : Sto) : gfOf cf gl gs g env S = evD1 ⟨cf, gl, gfN cf gl gs 2⟩ γ env S := by
  simp only [gfOf, gfN, h, evG, h1, h2]
theorem putD_new {k v : PV} {kvs : List (PV × PV)} (h : hasD k kvs = false) : putD k v kvs = kvs ++ [(k, v)] := by
  unfold putD
  rw [h]
  rfl
theorem hasD_strs {w : List Nat} {l : List (List Nat)} {x : PV} (h : w ∉ l) : hasD (.str w) (l.map fun w => (.str w, x)) = false := by
  unfold hasD
  rw [List.any_eq_false]
  intro e he
  obtain ⟨y, hy, rfl⟩ := List.mem_map.mp he
  simp only [keq]
  intro z
  exact h (by rw [← eq_of_beq z]; exact hy)
section
variable {fs : List Fn} {gl : Nat → PV} {t k : Nat}
/-- the dict of the words -/
theorem known_ok {C : Ctx} {c i : Nat} {ws : List (List Nat)} {S : Sto} {x1 x2 : Option PV} (nd : ws.Nodup) (hl : ws.length ≤ 4000) (hi : S[i]? = some (.ins c [("_words", .tup (ws.map .str))])) :
    evD1 C (gKnown c) [some (.obj i), x1, x2] S = .ok (.obj S.length) (S ++ [.dic (ws.map fun w => (.str w, .bl true))]) := by
  have hI : evI C (.e (.fld (.var 0) "_words" [(c, none)])) [some (.obj i), x1, x2] S = .ok (.seq (ws.map .str)) S := by
    simp -implicitDefEqProofs only [evI, ev, List.getElem?_cons_zero, Res.bind_ok, fldV, hi, List.lookup_cons, beq_self_eq_true, ofO_some, wkOf]
  obtain ⟨S', e1, e2⟩ := lcN_rule (w := .seq (ws.map .str)) (p := .nm 2) (tst := evTs C []) (turn := eltP C (.var 2) (.cst (.bl true)) S.length) (env := [some (.obj i), x1, none]) ws.length (fun j T => T = S ++ [.dic ((ws.take j).map fun w => (.str w, .bl true))])
    (fun j T hj hT => by
      subst hT
      refine ⟨.str ws[j], [some (.obj i), x1, some (.str ws[j])], by simp [Wk.at, hj], rfl, true, _, rfl, S ++ [.dic ((ws.take (j + 1)).map fun w => (.str w, .bl true))], ?_, rfl⟩
      have nm : ws[j] ∉ ws.take j := fun hm => by
        obtain ⟨q, hq, e⟩ := List.mem_iff_getElem.mp hm
        rw [List.length_take] at hq
        rw [List.getElem_take] at e
        exact List.pairwise_iff_getElem.mp nd q j (by omega) hj (by omega) e
      have l1 : (isK (.str ws[j]) && decide (((ws.take j).map fun w => (PV.str w, PV.bl true)).length < LINE)) = true := by
        rw [Bool.and_eq_true, decide_eq_true_eq]
        refine ⟨rfl, ?_⟩
        rw [List.length_map, List.length_take]
        unfold LINE; omega
      have pd : putD (.str ws[j]) (.bl true) ((ws.take j).map fun w => (PV.str w, PV.bl true)) = (ws.take (j + 1)).map fun w => (PV.str w, PV.bl true) := by
        rw [putD_new (hasD_strs nm), List.take_succ, List.getElem?_eq_getElem hj, List.map_append]
        rfl
      simp only [eltP, ev, List.getElem?_cons_succ, List.getElem?_cons_zero, Res.bind_ok, putT, getL]
      rw [if_pos l1, pd]
      simp)
    (fun T _ => by simp [Wk.at]) FU 0 (S ++ [.dic []]) (Nat.zero_le _) (by unfold FU; omega) rfl
  subst e2
  unfold evD1
  have hI : evI C (gKnown c).c.it [some (.obj i), x1, x2] S = .ok (.seq (ws.map .str)) S := hI
  rw [hI, Res.bind_ok]
  have e1 : lcN (.seq (ws.map .str)) (gKnown c).c.p (evTs C (gKnown c).c.ts) (eltP C (gKnown c).e (gKnown c).v S.length) FU 0 (wipeE [some (.obj i), x1, x2] (gKnown c).c.own) (S ++ [.dic []]) = .ok () _ := e1
  rw [e1, Res.bind_ok, List.take_length]
/-- Book(words) -/
theorem book_cf {n s g w2 c tt gw : Nat} (hf : fs[t]? = some (IR_book n s g w2 c)) (hn : fs[n]? = some IR_need) (hs : fs[s]? = some IR_is_sequence) (hw : fs[w2]? = some (IR_is_word tt gw)) (ht : fs[tt]? = some IR_is_text) (hg : gl g = .int 600) (hgw : gl gw = .str alpha)
    {v : PV} {S : Sto} {ws : List (List Nat)} (h : RowV v S (ws.map .str)) (hl : ws.length ≤ 600) (wd : ∀ x ∈ ws, Word x) :
    ∃ S', callN fs gl (k + 3) t [.obj S.length, v] (S ++ [.ins c []]) = .ok .non S' ∧ BookAt c (.obj S.length) S' (isort leN (nubS ws)) ∧ Kp [] S S' := by
  have h1 := h.kp (Kp.push (l := [.ins c []]))
  obtain ⟨wk, e1, e2⟩ := h1.wk
  have key : Ret (runF ⟨callN fs gl (k + 2), gl, gfOf (callN fs gl (k + 2)) gl [gBook w2, gKnown c]⟩ (IR_book n s g w2 c) [.obj S.length, v] (S ++ [.ins c []])) fun p S' => p = .non ∧ BookAt c (.obj S.length) S' (isort leN (nubS ws)) ∧ Kp [] S S' := by
    have sq := is_sequence_cf (gl := gl) (k := k + 1) hs h1
    have ga : gfOf (callN fs gl (k + 2)) gl [gBook w2, gKnown c] 0 [some (.obj S.length), some v, none] (S ++ [.ins c []]) = .ok (.bl true) (S ++ [.ins c []]) := by
      rw [gf_all (γ := gBook w2) rfl rfl]
      obtain ⟨S', e, env', rfl, _⟩ := all_rule (C := ⟨callN fs gl (k + 2), gl, gfN (callN fs gl (k + 2)) gl [gBook w2, gKnown c] 2⟩) (γ := gBook w2) (b := true) (env := [some (.obj S.length), some v, none]) (S := S ++ [.ins c []]) (S1 := S ++ [.ins c []]) (w := wk) (by
          simp -implicitDefEqProofs only [gBook, evI, ev, List.getElem?_cons_succ, List.getElem?_cons_zero, Res.bind_ok, e1, ofO_some]) ws.length (fun j env T => T = S ++ [.ins c []] ∧ ∃ x, env = [some (.obj S.length), some v, none, x]) (by omega) ⟨rfl, none, rfl⟩ (by
        rintro j env T hj ⟨rfl, x, rfl⟩
        refine ⟨.str ws[j], [some (.obj S.length), some v, none, some (.str ws[j])], _, by rw [e2 j _ .refl]; simp [hj], rfl, ?_, rfl, _, rfl⟩
        have w1 := is_word_cf (gl := gl) (k := k) hw ht hgw (S ++ [.ins c []]) (wd _ (List.getElem_mem hj))
        simp -implicitDefEqProofs only [gBook, ev, evs, List.getElem?_cons_succ, List.getElem?_cons_zero, Res.bind_ok, w1]) (by
        rintro env T ⟨rfl, x, rfl⟩
        rw [e2 _ _ .refl]; simp)
      exact e
    have nd := need_cf (gl := gl) (k := k + 1) hn (.int 1) (S ++ [.ins c []])
    have c1 : decide ((600 : Int) < ((ws.map PV.str).length : Int)) = false := by simp; omega
    have ss := h1.sset (by omega)
    have tp := tuple_obj (getL (S := S ++ [.ins c []]) (o := .lst ((isort leN (nubS ws)).map .str)))
    refine fnx4 rfl ?_
    simp -implicitDefEqProofs only [IR_book, List.map_cons, List.map_nil, List.replicate, List.cons_append, List.nil_append, evB, evS, ev, evs, Res.bind_ok, Res.out_ok, Out.seq_nx, List.getElem?_cons_succ, List.getElem?_cons_zero, sq, truth, ofO_some, if_true, biV, h1.len, Option.map_some, hg, cmp_le, c1, Bool.not_false, ga, nd, ss]
    have hA : (S ++ [PO.ins c []] ++ [PO.lst (List.map PV.str (isort leN (nubS ws)))])[List.length (S ++ [PO.ins c []])]? = some (.lst (List.map PV.str (isort leN (nubS ws)))) := getL
    have hB : (S ++ [PO.ins c []] ++ [PO.lst (List.map PV.str (isort leN (nubS ws)))])[S.length]? = some (.ins c []) := getP getL
    have cc : ([c].contains c && decide (([] : List (Str × PV)).length < 1000)) = true := by simp
    simp -implicitDefEqProofs only [hA, Res.out_ok, hB, cc, if_true, Out.seq_nx]
    have p1 : putF "_words" (PV.tup (List.map PV.str (isort leN (nubS ws)))) [] = ([("_words", PV.tup (List.map PV.str (isort leN (nubS ws))))] : List (Str × PV)) := rfl
    have k1 : Kp [S.length] S ((S ++ [PO.ins c []] ++ [PO.lst (List.map PV.str (isort leN (nubS ws)))]).set S.length (PO.ins c (putF "_words" (PV.tup (List.map PV.str (isort leN (nubS ws)))) []))) := (Kp.push.trans Kp.push).trans (Kp.set (by simp))
    have l1 : ((S ++ [PO.ins c []] ++ [PO.lst (List.map PV.str (isort leN (nubS ws)))]).set S.length (PO.ins c (putF "_words" (PV.tup (List.map PV.str (isort leN (nubS ws)))) []))).length = S.length + 2 := by simp
    have hC : ((S ++ [PO.ins c []] ++ [PO.lst (List.map PV.str (isort leN (nubS ws)))]).set S.length (PO.ins c (putF "_words" (PV.tup (List.map PV.str (isort leN (nubS ws)))) [])))[S.length]? = some (.ins c [("_words", .tup ((isort leN (nubS ws)).map .str))]) := by
      rw [List.getElem?_set_self (by simp), p1]
    generalize ((S ++ [PO.ins c []] ++ [PO.lst (List.map PV.str (isort leN (nubS ws)))]).set S.length (PO.ins c (putF "_words" (PV.tup (List.map PV.str (isort leN (nubS ws)))) []))) = T1 at k1 l1 hC ⊢
    have hlen : (isort leN (nubS ws)).length ≤ 4000 := by
      have : (isort leN (nubS ws)).length ≤ ws.length := by
        have e : isort leN (nubS ws) = ordU ws := asc_uniq (txo_asc ws) (ordU_asc ws) fun x => by rw [txo_mem, ordU_mem]
        rw [e]; exact ordU_len ws
      omega
    have kn := known_ok (C := ⟨callN fs gl (k + 2), gl, gfN (callN fs gl (k + 2)) gl [gBook w2, gKnown c] 2⟩) (x1 := some v) (x2 := none) (txo_asc ws).nodup hlen hC
    have gd : gfOf (callN fs gl (k + 2)) gl [gBook w2, gKnown c] 1 [some (.obj S.length), some v, none] T1 = .ok (.obj T1.length) (T1 ++ [.dic ((isort leN (nubS ws)).map fun w => (.str w, .bl true))]) := by
      rw [gf_dct (γ := gKnown c) rfl rfl rfl]
      exact kn
    have hD : (T1 ++ [PO.dic ((isort leN (nubS ws)).map fun w => (PV.str w, PV.bl true))])[S.length]? = some (.ins c [("_words", .tup ((isort leN (nubS ws)).map .str))]) := getP hC
    have cd : ([c].contains c && decide (([("_words", PV.tup ((isort leN (nubS ws)).map PV.str))] : List (Str × PV)).length < 1000)) = true := by simp
    simp -implicitDefEqProofs only [gd, Res.out_ok, List.getElem?_cons_zero, hD, cd, if_true, Out.seq_nx]
    have p2 : putF "_known" (PV.obj T1.length) [("_words", PV.tup ((isort leN (nubS ws)).map PV.str))] = ([("_words", PV.tup ((isort leN (nubS ws)).map PV.str)), ("_known", PV.obj T1.length)] : List (Str × PV)) := by
      unfold putF
      rw [if_neg (by decide)]
      rfl
    show _ ∧ _ ∧ _
    refine ⟨trivial, ⟨S.length, T1.length, rfl, ?_, ?_⟩, ?_⟩
    · rw [List.getElem?_set_self (by simp; omega)]
      exact congrArg some (congrArg (PO.ins c) p2)
    · rw [List.getElem?_set_ne (by omega)]
      exact getL
    · have kk := (k1.trans Kp.push).trans (Kp.set (S := T1 ++ [PO.dic ((isort leN (nubS ws)).map fun w => (PV.str w, PV.bl true))]) (j := S.length) (o := PO.ins c (putF "_known" (PV.obj T1.length) [("_words", PV.tup ((isort leN (nubS ws)).map PV.str))])) (List.mem_singleton.mpr rfl))
      exact ⟨kk.1, fun j o _ e => kk.2 j o (by have := (List.getElem?_eq_some_iff.mp e).1; simp; omega) e⟩
  rw [callN_eq hf]
  obtain ⟨p, S', e, rfl, r⟩ := key
  exact ⟨S', e, r⟩
end
end TM

/-! TM, part Ya: draws, the book's words. -/
namespace TM
open L2 PySem
theorem Wd.psh {a b : Nat} {xs : List Int} {S : Sto} {l : Sto} (h : Wd a b xs S) : Wd a b xs (S ++ l) := by
  obtain ⟨n, hn⟩ := h.spot
  exact ⟨(Kp.push (ex := [])).get h.row (by simp), n, (Kp.push (ex := [])).get hn (by simp)⟩
theorem Wd.kp2 {a b : Nat} {xs : List Int} {S S' : Sto} {ex : List Nat} (h : Wd a b xs S) (k : Kp ex S S') (h1 : a ∉ ex) (h2 : b ∉ ex) : Wd a b xs S' := by
  obtain ⟨n, hn⟩ := h.spot
  exact ⟨k.get h.row h1, n, k.get hn h2⟩
theorem Wd.alt {a b : Nat} {xs : List Int} {S : Sto} (h : Wd a b xs S) : a < S.length ∧ b < S.length := by
  obtain ⟨n, hn⟩ := h.spot
  exact ⟨(List.getElem?_eq_some_iff.mp h.row).1, (List.getElem?_eq_some_iff.mp hn).1⟩
section
variable {fs : List Fn} {gl : Nat → PV} {t k : Nat} {a b : Nat} {xs : List Int}
theorem takeOk {dr : Nat} (h1 : fs[t]? = some (IR_take dr)) (h2 : fs[dr]? = some IR_draw) (hab : a ≠ b) (hx : xs ≠ []) (k : Nat) : TakeOk a b xs (callN fs gl (k + 2) t) := by
  have e : callN fs gl (k + 2) t = runF ⟨callN fs gl (k + 1), gl, gfOf (callN fs gl (k + 1)) gl (IR_take dr).gens⟩ (IR_take dr) := by
    funext as S
    exact callN_eq h1 as S
  rw [e]
  refine take_of hab hx ⟨⟨callN fs gl k, gl, gfOf (callN fs gl k) gl IR_draw.gens⟩, ?_⟩
  funext as S
  show callN fs gl (k + 1) dr as S = _
  exact callN_eq h2 as S
theorem text_cf {tx tk dr : Nat} (h0 : fs[tx]? = some (IR_text tk)) (h1 : fs[tk]? = some (IR_take dr)) (h2 : fs[dr]? = some IR_draw) (hab : a ≠ b) (hx : xs ≠ []) (k : Nat) {S : Sto} {al : List Nat} {least most : Nat} (wd : Wd a b xs S) (ha : al ≠ []) (hal : al.length ≤ 1000) (hm : least ≤ most) (hm2 : most ≤ 1000) :
    ∃ (cs : List Nat) (S' : Sto), callN fs gl (k + 3) tx [.obj a, .obj b, .str al, .int least, .int most] S = .ok (.str cs) S' ∧ least ≤ cs.length ∧ cs.length ≤ most ∧ (∀ c ∈ cs, c ∈ al) ∧ Wd a b xs S' ∧ Kp [b] S S' ∧ S'.length = S.length := by
  obtain ⟨p, S', h1, cs, rfl, h2, h3, h4, h5, h6, h7⟩ := text_ok (C := ⟨callN fs gl (k + 2), gl, gfOf (callN fs gl (k + 2)) gl (IR_text tk).gens⟩) (t := tk) (takeOk (gl := gl) h1 h2 hab hx k) wd ha hal hm hm2
  refine ⟨cs, S', ?_, h2, h3, h4, h5, h6, h7⟩
  rw [callN_eq h0]
  exact h1
def gTexts (tk tx : Nat) : Gen := ⟨.lst, 0, [], ⟨[6], (.nm 6), (.rng1 (.call tk [(.var 0), (.var 1), (.bin .add (.var 3) (.cst (.int 1)))])), []⟩, [], (.call tx [(.var 0), (.var 1), (.var 2), (.var 4), (.var 5)]), .never⟩
def IR_texts (tk tx : Nat) : Fn := ⟨6, 7, [(.ret (.bi .tuple [(.gcall 0)]))], [gTexts tk tx]⟩
theorem rngB {n : Nat} (h : n ≤ 1000000) : (decide (-P62 ≤ (n : Int)) && decide ((n : Int) < P62)) = true := by
  rw [Bool.and_eq_true, decide_eq_true_eq, decide_eq_true_eq]; unfold P62; omega
/-- drawn texts -/
structure Txts (al : List Nat) (least most : Nat) (ws : List (List Nat)) : Prop where
  all : ∀ w ∈ ws, least ≤ w.length ∧ w.length ≤ most ∧ ∀ c ∈ w, c ∈ al
theorem setLast {S : Sto} {x y : PO} : (S ++ [x]).set S.length y = S ++ [y] := by simp
/-- a comprehension of drawn texts -/
theorem draws_ok {C : Ctx} {γ : Gen} {env : Env} {S S1 : Sto} {n : Nat} {i : Nat} {al : List Nat} {least most : Nat} (hn : n ≤ 1000000) (hp : γ.c.p = .nm i) (ht : γ.c.ts = []) (hi : evI C γ.c.it env S = .ok (.rng 0 n) S1) (wd : Wd a b xs S1) (hil : i < env.length)
    (he : ∀ (T : Sto) (z : PV), Wd a b xs T → ∃ (cs : List Nat) (T' : Sto), ev C γ.e ((wipeE env γ.c.own).set i (some z)) T = .ok (.str cs) T' ∧ (least ≤ cs.length ∧ cs.length ≤ most ∧ ∀ c ∈ cs, c ∈ al) ∧ Wd a b xs T' ∧ Kp [b] T T' ∧ T'.length = T.length) :
    ∃ (ws : List (List Nat)) (S' : Sto), evL1 C γ env S = .ok (.obj S1.length) S' ∧ S'[S1.length]? = some (.lst (ws.map .str)) ∧ ws.length = n ∧ Txts al least most ws ∧ Wd a b xs S' ∧ Kp [b] S1 S' := by
  have hb := wd.alt.2
  have ha := wd.alt.1
  obtain ⟨p, S', e, rfl, acc, e1, ws, rfl, e2, e3, e4, e5⟩ := lc1_rule (C := C) (γ := γ) (env := env) (S := S) (S1 := S1) (w := .rng 0 n) hi n (fun j acc T => ∃ ws : List (List Nat), acc = ws.map .str ∧ ws.length = j ∧ Txts al least most ws ∧ Wd a b xs T ∧ Kp [b] S1 T) hn ⟨[], rfl, rfl, ⟨fun _ h => absurd h (by simp)⟩, wd.psh, Kp.push⟩ (by
    rintro j acc T hj h1 h2 ⟨ws, rfl, h3, h4, h5, h6⟩
    obtain ⟨cs, T', g1, g2, g3, g4, g5⟩ := he T (.int (j : Nat)) h5
    have hl := (List.getElem?_eq_some_iff.mp h1).1
    refine ⟨.int (j : Nat), (wipeE env γ.c.own).set i (some (.int (j : Nat))), by rw [at_rng, if_pos hj, Int.zero_add], ?_, true, T, by rw [ht]; rfl, h1, ?_⟩
    · rw [hp, bindP_nm, if_pos]
      have : ∀ l : List Nat, (wipeE env l).length = env.length := fun l => by
        induction l with
        | nil => rfl
        | cons v l ih => simp [wipeE, ih]
      rw [this]; exact hil
    · have gb : S1.length ≠ b := by omega
      have h1' := g4.get h1 (by simp; omega)
      refine ⟨.str cs, T', g1, h1', ws ++ [cs], by simp, by simp [h3], ⟨fun w hw => ?_⟩, ?_, ?_⟩
      · rcases List.mem_append.mp hw with hw | hw
        · exact h4.all w hw
        · rw [List.mem_singleton.mp hw]; exact g2
      · exact g3.kp2 (Kp.set (ex := [S1.length]) (by simp)) (by simp; omega) (by simp; omega)
      · have kk := (h6.trans g4).mono (ex' := [b]) (fun _ h => h)
        exact ⟨by simpa using kk.1, fun q o hq eq => by
          have hlt := (List.getElem?_eq_some_iff.mp eq).1
          rw [List.getElem?_set_ne (by omega)]
          exact kk.2 q o hq eq⟩) (by
    rintro acc T h1 ⟨ws, rfl, h3, h4, h5, h6⟩
    rw [at_rng, if_neg (by omega)])
  exact ⟨ws, S', e, e1, e2, e3, e4, e5⟩
theorem texts_cf {ts tx tk dr : Nat} (hs : fs[ts]? = some (IR_texts tk tx)) (h0 : fs[tx]? = some (IR_text tk)) (h1 : fs[tk]? = some (IR_take dr)) (h2 : fs[dr]? = some IR_draw) (hab : a ≠ b) (hx : xs ≠ []) (k : Nat) {S : Sto} {al : List Nat} {many least most : Nat} (wd : Wd a b xs S) (ha : al ≠ []) (hal : al.length ≤ 1000) (hm : least ≤ most) (hm2 : most ≤ 1000) (hk : many ≤ 1000) :
    ∃ (ws : List (List Nat)) (S' : Sto), callN fs gl (k + 4) ts [.obj a, .obj b, .str al, .int many, .int least, .int most] S = .ok (.tup (ws.map .str)) S' ∧ ws.length ≤ many ∧ Txts al least most ws ∧ Wd a b xs S' ∧ Kp [b] S S' := by
  have key : Ret (runF ⟨callN fs gl (k + 3), gl, gfOf (callN fs gl (k + 3)) gl [gTexts tk tx]⟩ (IR_texts tk tx) [.obj a, .obj b, .str al, .int many, .int least, .int most] S) fun p S' => ∃ ws, p = .tup (ws.map .str) ∧ ws.length ≤ many ∧ Txts al least most ws ∧ Wd a b xs S' ∧ Kp [b] S S' := by
    refine fn4 rfl ?_
    obtain ⟨d, S1, c1, c2, c3, c4, c5⟩ := takeOk (gl := gl) h1 h2 hab hx (k + 1) S (many + 1) wd (by omega)
    have c1' : callN fs gl (k + 3) tk [.obj a, .obj b, .int ((many : Int) + 1)] S = .ok (.int d) S1 := c1
    obtain ⟨ws, S2, e1, e2, e3, e4, e5, e6⟩ := draws_ok (a := a) (b := b) (xs := xs) (C := ⟨callN fs gl (k + 3), gl, gfN (callN fs gl (k + 3)) gl [gTexts tk tx] 2⟩) (γ := gTexts tk tx) (env := [some (.obj a), some (.obj b), some (.str al), some (.int many), some (.int least), some (.int most), none]) (S := S) (S1 := S1) (n := d) (i := 6) (al := al) (least := least) (most := most) (by omega) rfl rfl (by
        simp -implicitDefEqProofs only [gTexts, evI, ev, evs, List.getElem?_cons_succ, List.getElem?_cons_zero, Res.bind_ok, bV_add, c1', rngB (show d ≤ 1000000 by omega), if_true, Int.toNat_natCast]) c3 (by simp) (by
        intro T z w
        obtain ⟨cs, T', f1, f2, f3, f4, f5, f6, f7⟩ := text_cf (gl := gl) h0 h1 h2 hab hx k w ha hal hm hm2
        refine ⟨cs, T', ?_, ⟨f2, f3, f4⟩, f5, f6, f7⟩
        simp -implicitDefEqProofs only [gTexts, wipeE, List.set, ev, evs, List.getElem?_cons_succ, List.getElem?_cons_zero, Res.bind_ok, f1])
    have g0 : gfOf (callN fs gl (k + 3)) gl [gTexts tk tx] 0 [some (.obj a), some (.obj b), some (.str al), some (.int many), some (.int least), some (.int most), none] S = .ok (.obj S1.length) S2 := by
      rw [gf_lst (γ := gTexts tk tx) rfl rfl rfl]
      exact e1
    simp -implicitDefEqProofs only [IR_texts, List.map_cons, List.map_nil, List.replicate, List.cons_append, List.nil_append, evB, evS, ev, evs, g0, Res.bind_ok, tuple_obj e2, Res.out_ok, Out.seq_ret, S4]
    exact ⟨ws, rfl, by omega, e4, e5, c4.trans e6⟩
  rw [callN_eq hs]
  obtain ⟨p, S', e, ws, rfl, r⟩ := key
  exact ⟨ws, S', e, r⟩
/-! ### the book's words -/
def IR_words (c : Nat) : Fn := ⟨1, 1, [(.ret (.fld (.var 0) "_words" [(c, none)]))], []⟩
theorem BookAt.words {c : Nat} {v : PV} {S : Sto} {ws : List (List Nat)} (h : BookAt c v S ws) (cf : Nat → List PV → Sto → Res PV) : fldV cf "_words" [(c, none)] v S = .ok (.tup (ws.map .str)) S := by
  obtain ⟨i, d, rfl, h2, h3⟩ := h
  simp -implicitDefEqProofs only [fldV, h2, BookO, List.lookup_cons, beq_self_eq_true, ofO_some]
theorem words_cf {c : Nat} (hf : fs[t]? = some (IR_words c)) {v : PV} {S : Sto} {ws : List (List Nat)} (h : BookAt c v S ws) : callN fs gl (k + 1) t [v] S = .ok (.tup (ws.map .str)) S := by
  refine cf_of hf (fn4 rfl ?_)
  simp -implicitDefEqProofs only [IR_words, List.map_cons, List.map_nil, Nat.sub_self, List.replicate, List.cons_append, List.nil_append, evB, evS, ev, Res.bind_ok, List.getElem?_cons_zero, h.words, Res.out_ok, Out.seq_ret, S4]
  exact ⟨trivial, trivial⟩
theorem fld_words {c : Nat} (hf : fs[t]? = some (IR_words c)) {v : PV} {S : Sto} {ws : List (List Nat)} (h : BookAt c v S ws) : fldV (callN fs gl (k + 1)) "words" [(c, some t)] v S = .ok (.tup (ws.map .str)) S := by
  have e := words_cf (gl := gl) (k := k) hf h
  obtain ⟨i, d, rfl, h2, h3⟩ := h
  simp -implicitDefEqProofs only [fldV, h2, BookO, List.lookup_cons, beq_self_eq_true, e, Res.nox]
theorem BookAt.isc {c : Nat} {v : PV} {S : Sto} {ws : List (List Nat)} (h : BookAt c v S ws) : iscV S v c = some true := by
  obtain ⟨i, d, rfl, h2, h3⟩ := h
  simp [iscV, h2, BookO]
def IR_need_book (n c : Nat) : Fn := ⟨2, 2, [(.expr (.call n [(.isc (.var 0) c), (.var 1)]))], []⟩
theorem need_book_cf {n c : Nat} (hf : fs[t]? = some (IR_need_book n c)) (hn : fs[n]? = some IR_need) {v : PV} {S : Sto} {ws : List (List Nat)} (h : BookAt c v S ws) (u : PV) : callN fs gl (k + 2) t [v, u] S = .ok .non S := by
  refine cf_of hf (fnx4 rfl ?_)
  have e := need_cf (gl := gl) (k := k) hn u S
  simp -implicitDefEqProofs only [IR_need_book, List.map_cons, List.map_nil, Nat.sub_self, List.replicate, List.cons_append, List.nil_append, evB, evS, ev, evs, Res.bind_ok, List.getElem?_cons_succ, List.getElem?_cons_zero, h.isc, Option.map_some, ofO_some, e, Res.out_ok, Out.seq_nx, S4]
  exact ⟨trivial, trivial⟩
end
end TM

/-! TM, part Yb: comprehensions and all(..) that keep what stands. -/
namespace TM
open L2
theorem Kp.setN {S T : Sto} (h : Kp [] S T) {j : Nat} {o : PO} (hj : S.length ≤ j) : Kp [] S (T.set j o) :=
  ⟨by simpa using h.1, fun q u hq e => by
    have := (List.getElem?_eq_some_iff.mp e).1
    rw [List.getElem?_set_ne (by omega)]
    exact h.2 q u hq e⟩
/-- a list comprehension that keeps what stands -/
theorem lc_kp {C : Ctx} {γ : Gen} {env : Env} {S S1 : Sto} {w : Wk} (hi : evI C γ.c.it env S = .ok w S1) (m : Nat) (b : Nat → Bool) (y : Nat → PV) (hm : m ≤ 1000000)
    (step : ∀ j T, j < m → Kp [] S1 T → ∃ x env1, w.at j T = some (some x) ∧ bindP γ.c.p x (wipeE env γ.c.own) = some env1 ∧ ∃ T1, evTs C γ.c.ts env1 T = .ok (b j) T1 ∧ Kp [] T T1 ∧ (b j = true → ∃ T2, ev C γ.e env1 T1 = .ok (y j) T2 ∧ Kp [] T1 T2))
    (fin : ∀ T, Kp [] S1 T → w.at m T = some none) :
    ∃ S', evL1 C γ env S = .ok (.obj S1.length) S' ∧ S'[S1.length]? = some (.lst (((List.range m).filter b).map y)) ∧ Kp [] S1 S' := by
  obtain ⟨p, S', e, rfl, acc, e1, rfl, e2⟩ := lc1_rule (C := C) (γ := γ) (env := env) (S := S) (S1 := S1) (w := w) hi m (fun j acc T => acc = ((List.range j).filter b).map y ∧ Kp [] S1 T) hm ⟨rfl, Kp.push⟩ (by
    rintro j acc T hj h1 h2 ⟨rfl, h3⟩
    obtain ⟨x, env1, a1, a2, T1, a3, a4, a5⟩ := step j T hj h3
    have h1' := a4.get h1 (by simp)
    refine ⟨x, env1, a1, a2, b j, T1, a3, h1', ?_⟩
    cases hb : b j with
    | false =>
      refine ⟨?_, h3.trans a4⟩
      rw [List.range_succ, List.filter_append]
      simp [hb]
    | true =>
      obtain ⟨T2, a6, a7⟩ := a5 hb
      refine ⟨y j, T2, a6, a7.get h1' (by simp), ?_, ((h3.trans a4).trans a7).setN (Nat.le_refl _)⟩
      rw [List.range_succ, List.filter_append]
      simp [hb]) (fun acc T h1 h2 => fin T h2.2)
  exact ⟨S', e, e1, e2⟩
/-- all(..) that keeps what stands -/
theorem all_kp {C : Ctx} {γ : Gen} {env : Env} {S S1 : Sto} {w : Wk} (hi : evI C γ.c.it env S = .ok w S1) (m : Nat) (f : Nat → Bool) (hm : m ≤ 1000000)
    (P : Env → Prop) (h0 : P (env ++ List.replicate γ.k none))
    (step : ∀ j env T, j < m → P env → Kp [] S1 T → ∃ x env1, w.at j T = some (some x) ∧ bindP γ.c.p x env = some env1 ∧ P env1 ∧ ∃ T1, ev C γ.e env1 T = .ok (.bl (f j)) T1 ∧ Kp [] T T1)
    (fin : ∀ T, Kp [] S1 T → w.at m T = some none) :
    ∃ S', evA C true γ env S = .ok (.bl ((List.range m).all f)) S' ∧ Kp [] S1 S' := by
  obtain ⟨S', e, j, env', _, _, h⟩ := all_dec hi m f (fun _ e T => P e ∧ Kp [] S1 T) hm ⟨h0, .refl⟩ (by
    rintro j env T hj ⟨hp, hk⟩
    obtain ⟨x, env1, a1, a2, a3, T1, a4, a5⟩ := step j env T hj hp hk
    exact ⟨x, env1, T1, a1, a2, a4, a3, hk.trans a5⟩) (fun env T h => fin T h.2)
  exact ⟨S', e, h⟩
theorem range_getD {α : Type} (l : List α) (d : α) : (List.range l.length).map (fun j => l.getD j d) = l := by
  refine List.ext_getElem (by simp) fun i h1 h2 => ?_
  simp [List.getD, h2]
theorem range_filter_map {α β : Type} (l : List α) (b : α → Bool) (y : α → β) (d : α) : ((List.range l.length).filter fun j => b (l.getD j d)).map (fun j => y (l.getD j d)) = (l.filter b).map y := by
  have e := range_getD l d
  conv => rhs; rw [← e, List.filter_map, List.map_map]
  rfl
theorem range_all {α : Type} (l : List α) (b : α → Bool) (d : α) : ((List.range l.length).all fun j => b (l.getD j d)) = l.all b := by
  rw [Bool.eq_iff_iff, List.all_eq_true, List.all_eq_true]
  constructor
  · intro h x hx
    obtain ⟨j, hj, rfl⟩ := List.mem_iff_getElem.mp hx
    have := h j (List.mem_range.mpr hj)
    simpa [List.getD, hj] using this
  · intro h j hj
    have hj := List.mem_range.mp hj
    have : l.getD j d = l[j] := by simp [List.getD, hj]
    rw [this]
    exact h _ (List.getElem_mem hj)
theorem fmod_nat (n : Nat) : ((n : Int).fmod 2 == 0) = (n % 2 == 0) := by
  rw [Int.fmod_eq_emod_of_nonneg _ (by omega), Bool.eq_iff_iff, beq_iff_eq, beq_iff_eq]
  omega
/-- _law_loose of a tuple whose items are told -/
theorem loose_gen {fs : List Fn} {gl : Nat → PV} {t k : Nat} (hf : fs[t]? = some (IR_loose t)) {xs : List PV} (y : PV → PV) (n : Nat) {S : Sto} (hl : xs.length ≤ 100000)
    (hx : ∀ x ∈ xs, ∀ T, Kp [] S T → ∃ T', callN fs gl (k + 1) t [x, .int ((n + 1 : Nat) : Int)] T = .ok (y x) T' ∧ Kp [] T T') :
    ∃ p S', callN fs gl (k + 2) t [.tup xs, .int n] S = .ok p S' ∧ Kp [] S S' ∧ if n % 2 = 0 then ∃ m, p = .obj m ∧ S'[m]? = some (.lst (xs.map y)) else p = .tup (xs.map y) := by
  have comp := lc_kp (C := ⟨callN fs gl (k + 1), gl, gfN (callN fs gl (k + 1)) gl (IR_loose t).gens 2⟩) (γ := ⟨.lst, 0, [], ⟨[3], (.nm 3), (.e (.var 0)), []⟩, [], (.call t [(.var 3), (.bin .add (.var 1) (.cst (.int 1)))]), .never⟩) (env := [some (.tup xs), some (.int n), none, none]) (S := S) (S1 := S) (w := .seq xs) rfl xs.length (fun _ => true) (fun j => y (xs.getD j .non)) (by omega) (by
    rintro j T hj hk
    have e : xs.getD j .non = xs[j] := by simp [List.getD, hj]
    obtain ⟨T', f1, f2⟩ := hx _ (List.getElem_mem hj) T hk
    refine ⟨xs[j], [some (.tup xs), some (.int n), none, some xs[j]], by simp [Wk.at, hj], rfl, T, rfl, .refl, fun _ => ⟨T', ?_, f2⟩⟩
    rw [e]
    simp -implicitDefEqProofs only [ev, evs, List.getElem?_cons_succ, List.getElem?_cons_zero, Res.bind_ok, bV_add]
    exact f1) (by
    intro T _
    simp [Wk.at])
  rw [range_filter_map xs (fun _ => true) y, List.filter_eq_self.mpr (by simp)] at comp
  obtain ⟨S', e, g1, g2⟩ := comp
  rw [← gf_lst (gs := (IR_loose t).gens) (g := 0) rfl rfl rfl] at e
  have isi1 : isiL S (.tup xs) [.tuple] = some true := rfl
  have tp := tuple_obj g1
  have key : Ret (runF ⟨callN fs gl (k + 1), gl, gfOf (callN fs gl (k + 1)) gl (IR_loose t).gens⟩ (IR_loose t) [.tup xs, .int n] S) fun p T' => T' = S' ∧ p = if n % 2 = 0 then .obj S.length else .tup (xs.map y) := by
    refine fn4 rfl ?_
    have b0 : binV .mod (.int (n : Int)) (.int 2) S' = .ok (.int ((n : Int).fmod 2)) S' := bV_mod _ _ _ rfl
    simp -implicitDefEqProofs only [IR_loose, List.map_cons, List.map_nil, List.replicate, List.cons_append, List.nil_append, evB, evS, evT, ev, evs, Res.bind_ok, Res.out_ok, Out.seq_nx, List.getElem?_cons_succ, List.getElem?_cons_zero, isi1, Option.map_some, ofO_some, truth, if_true] at e ⊢
    rw [e]
    have b1 : biV .int [.int (n : Int)] S' = .ok (.int n) S' := rfl
    simp -implicitDefEqProofs only [Res.out_ok, bindP_nm, List.length_cons, List.length_nil, Nat.reduceAdd, Nat.reduceLT, if_true, List.set, Out.seq_nx, b1, Res.bind_ok, List.getElem?_cons_succ, List.getElem?_cons_zero, b0, cmp_eq, fmod_nat, Option.map_some, ofO_some, truth]
    by_cases h : n % 2 = 0
    · simp -implicitDefEqProofs only [h, beq_self_eq_true, if_true, Res.out_ok, Out.seq_ret, S4]
      exact ⟨trivial, trivial⟩
    · have h' : (n % 2 == 0) = false := by simpa using h
      simp -implicitDefEqProofs only [h', h, Bool.false_eq_true, if_false, tp, Res.out_ok, Out.seq_ret, S4]
      exact ⟨trivial, trivial⟩
  rw [callN_eq hf]
  obtain ⟨p, T', e9, rfl, rfl⟩ := key
  refine ⟨_, T', e9, g2, ?_⟩
  split
  · exact ⟨_, rfl, g1⟩
  · rfl
theorem loose_odd {fs : List Fn} {gl : Nat → PV} {t k : Nat} (hf : fs[t]? = some (IR_loose t)) {xs : List PV} (hx : ∀ x ∈ xs, flat1 x = true) (hl : xs.length ≤ 100000) (n : Nat) (hn : n % 2 = 1) (S : Sto) :
    ∃ S', callN fs gl (k + 2) t [.tup xs, .int n] S = .ok (.tup xs) S' ∧ Kp [] S S' := by
  obtain ⟨p, S', e1, e2, e3⟩ := loose_gen (k := k) (gl := gl) hf id n (S := S) hl fun x h T _ => ⟨T, loose_at hf (hx x h) _ T, .refl⟩
  rw [if_neg (by omega), List.map_id] at e3
  subst e3
  exact ⟨S', e1, e2⟩
theorem dep_le {xs : List PV} {n : Nat} : (∀ x ∈ xs, dep x ≤ n) → depL xs ≤ n := by
  induction xs with
  | nil => intro _; simp [depL]
  | cons x xs ih =>
    intro h
    have h1 := ih fun y hy => h y (List.mem_cons_of_mem _ hy)
    have h2 := h x List.mem_cons_self
    simp only [depL]; omega
theorem shrt_all {xs : List PV} : (∀ x ∈ xs, shrt x = true) → shrtL xs = true := by
  induction xs with
  | nil => intro _; rfl
  | cons x xs ih =>
    intro h
    simp [shrtL, ih fun y hy => h y (List.mem_cons_of_mem _ hy), h x List.mem_cons_self]
theorem shrt_tup {xs : List PV} {n : Nat} (hl : xs.length ≤ 1000000) (h : ∀ x ∈ xs, shrt x = true ∧ dep x ≤ n) : shrt (.tup xs) = true ∧ dep (.tup xs) ≤ n + 1 := by
  constructor
  · simp [shrt, hl, shrt_all fun x hx => (h x hx).1]
  · have := dep_le fun x hx => (h x hx).2
    simp only [dep]; omega
theorem shrt_strs {l : List (List Nat)} (hl : l.length ≤ 1000000) : shrt (.tup (l.map .str)) = true ∧ dep (.tup (l.map .str)) ≤ 1 :=
  shrt_tup (n := 0) (by simpa using hl) fun x hx => by
    obtain ⟨c, _, rfl⟩ := List.mem_map.mp hx
    exact ⟨rfl, Nat.le_refl _⟩
end TM

/-! TM, part Yc: more of the book; _law_mixed, _law_words_of. -/
namespace TM
open L2
/-- right letters -/
def Lets (cs : List Nat) : Prop := ∀ c ∈ cs, c < 1114112
theorem Lets.of_alpha {cs : List Nat} (h : ∀ c ∈ cs, c ∈ alpha) : Lets cs := fun c hc => by
  have h1 : ∀ d ∈ alpha, d < 1114112 := by decide
  exact h1 c (h c hc)
theorem Word.lets {w : List Nat} (h : Word w) : Lets w := Lets.of_alpha h.2.2
theorem lay_str {w : List Nat} (h : Lets w) : lay (.str w) = true := by
  show (w.all fun c => decide (c < 1114112)) = true
  rw [List.all_eq_true]
  exact fun c hc => decide_eq_true (h c hc)
theorem layL_strs {ws : List (List Nat)} (h : ∀ w ∈ ws, Lets w) : layL (ws.map .str) = true := by
  induction ws with
  | nil => rfl
  | cons w ws ih =>
    simp only [List.map_cons, layL, Bool.and_eq_true]
    exact ⟨lay_str (h w List.mem_cons_self), ih fun v hv => h v (List.mem_cons_of_mem _ hv)⟩
theorem depL_strs (ws : List (List Nat)) : depL (ws.map .str) = 0 := by
  have := dep_le (xs := ws.map .str) (n := 0) fun x hx => by
    obtain ⟨c, _, rfl⟩ := List.mem_map.mp hx
    exact Nat.le_refl _
  omega
theorem flatX_str {w : List Nat} (h : Lets w) : flatX (.str w) = true := by
  unfold flatX
  rw [lay_str h]; rfl
theorem flatXL_strs {ws : List (List Nat)} (h : ∀ w ∈ ws, Lets w) : flatXL (ws.map .str) = true := by
  unfold flatXL
  rw [layL_strs h, depL_strs]; rfl
theorem flatX_strs {ws : List (List Nat)} (h : ∀ w ∈ ws, Lets w) : flatX (.tup (ws.map .str)) = true := by
  unfold flatX
  have e : lay (.tup (ws.map .str)) = layL (ws.map .str) := rfl
  have e2 : dep (.tup (ws.map .str)) = depL (ws.map .str) + 1 := rfl
  rw [e, e2, layL_strs h, depL_strs]; rfl
theorem eqXL_strs : ∀ a b : List (List Nat), eqXL (a.map .str) (b.map .str) = (a == b)
  | [], [] => rfl
  | [], _ :: _ => rfl
  | _ :: _, [] => rfl
  | x :: a, y :: b => by
    simp only [List.map_cons, eqXL, eqX, eqXL_strs a b]
    rw [Bool.eq_iff_iff]
    simp
theorem any_strs (w : List Nat) (ws : List (List Nat)) : ((ws.map PV.str).any fun x => eqX x (.str w)) = decide (w ∈ ws) := by
  rw [Bool.eq_iff_iff, List.any_eq_true, decide_eq_true_eq]
  constructor
  · rintro ⟨x, hx, e⟩
    obtain ⟨y, hy, rfl⟩ := List.mem_map.mp hx
    simp only [eqX, beq_iff_eq] at e
    rw [← e]; exact hy
  · exact fun h => ⟨.str w, List.mem_map.mpr ⟨w, h, rfl⟩, by simp [eqX]⟩
theorem in_strs {S : Sto} {w : List Nat} {ws : List (List Nat)} (h : ∀ w ∈ ws, Lets w) (hw : Lets w) : inV S (.str w) (.tup (ws.map .str)) = some (decide (w ∈ ws)) := by
  show (if flatX (.str w) && flatXL (ws.map .str) then some ((ws.map PV.str).any fun x => eqX x (.str w)) else none) = _
  rw [flatX_str hw, flatXL_strs h, any_strs]; rfl
theorem in_strsL {S : Sto} {m : Nat} {w : List Nat} {ws : List (List Nat)} (hm : S[m]? = some (.lst (ws.map .str))) (h : ∀ w ∈ ws, Lets w) (hw : Lets w) : inV S (.str w) (.obj m) = some (decide (w ∈ ws)) := by
  show (match seqOf S m with
    | some xs => if flatX (.str w) && flatXL xs then some (xs.any fun x => eqX x (.str w)) else none
    | none => none) = _
  rw [seq_obj hm]
  simp only
  rw [flatX_str hw, flatXL_strs h, any_strs]; rfl
theorem eq_strs {S : Sto} {a b : List (List Nat)} (ha : ∀ w ∈ a, Lets w) (hb : ∀ w ∈ b, Lets w) : cmpV .eq (.tup (a.map .str)) (.tup (b.map .str)) S = some (a == b) := by
  show (if flatX (.tup (a.map .str)) && flatX (.tup (b.map .str)) then some (eqX (.tup (a.map .str)) (.tup (b.map .str))) else none) = _
  rw [flatX_strs ha, flatX_strs hb]
  show some (eqXL (a.map .str) (b.map .str)) = _
  rw [eqXL_strs]
theorem cmp_inn (p q : PV) (S : Sto) : cmpV .inn p q S = inV S p q := rfl
theorem cmp_is (b c : Bool) (S : Sto) : cmpV .is (.bl b) (.bl c) S = some (b == c) := rfl
theorem cmp_isnot (b c : Bool) (S : Sto) : cmpV .isnot (.bl b) (.bl c) S = some (!(b == c)) := rfl
theorem cmp_ge (i j : Int) (S : Sto) : cmpV .ge (.int i) (.int j) S = some (!decide (i < j)) := by
  simp [cmpV, ordB, pur, alk, isNon, dep, ltP]
/-- a text in a text -/
def inTx (z w : List Nat) : Bool := match w with
  | [c] => z.any fun d => d == c
  | w => subS z w
theorem in_txt (z w : List Nat) (S : Sto) : inV S (.str w) (.str z) = some (inTx z w) := by
  unfold inTx
  split
  · rfl
  · rename_i h
    show (match PV.str w with
      | .str [c] => some (z.any fun d => d == c)
      | .str w => some (subS z w)
      | _ => none) = _
    split
    · rename_i c e
      cases e
      exact absurd rfl (h c)
    · rename_i _ e
      cases e; rfl
    · rename_i h2
      exact absurd rfl (h2 w)
theorem valD_known {w : List Nat} : ∀ ws : List (List Nat), (valD (.str w) (ws.map fun w => (.str w, .bl true))).isSome = decide (w ∈ ws)
  | [] => rfl
  | x :: ws => by
    by_cases e : x = w
    · subst e; simp [valD, keq]
    · have h := valD_known (w := w) ws
      simp [valD, keq, e, Ne.symm e] at h ⊢
      exact h
theorem Kp.setX {ex : List Nat} {S T : Sto} (h : Kp ex S T) {j : Nat} {o : PO} (hj : S.length ≤ j) : Kp ex S (T.set j o) :=
  ⟨by simpa using h.1, fun q u hq e => by
    have := (List.getElem?_eq_some_iff.mp e).1
    rw [List.getElem?_set_ne (by omega)]
    exact h.2 q u hq e⟩
section
variable {fs : List Fn} {gl : Nat → PV} {t k : Nat}
/-! ### the book -/
def IR_knows (c : Nat) : Fn := ⟨2, 2, [(.ret (.din false (.var 1) (.fld (.var 0) "_known" [(c, none)])))], []⟩
theorem knows_cf {c : Nat} (hf : fs[t]? = some (IR_knows c)) {v : PV} {S : Sto} {ws : List (List Nat)} (h : BookAt c v S ws) (w : List Nat) : callN fs gl (k + 1) t [v, .str w] S = .ok (.bl (decide (w ∈ ws))) S := by
  refine cf_of hf (fn4 rfl ?_)
  obtain ⟨i, d, rfl, h2, h3⟩ := h
  have e : dicV S (.obj d) = some (ws.map fun w => (.str w, .bl true)) := by simp [dicV, h3]
  have hk : (BookO c ws d) = .ins c [("_words", .tup (ws.map .str)), ("_known", .obj d)] := rfl
  rw [hk] at h2
  have lk : List.lookup ("_known" : PySem.Str) ([("_words", PV.tup (ws.map .str)), ("_known", PV.obj d)] : List (PySem.Str × PV)) = some (.obj d) := by
    rw [List.lookup_cons, show (("_known" : PySem.Str) == "_words") = false by decide +kernel]
    rfl
  simp -implicitDefEqProofs only [IR_knows, List.map_cons, List.map_nil, Nat.sub_self, List.replicate, List.cons_append, List.nil_append, evB, evS, ev, Res.bind_ok, List.getElem?_cons_succ, List.getElem?_cons_zero, fldV, h2]
  rw [show List.lookup c [(c, (none : Option Nat))] = some none by simp, lk]
  simp -implicitDefEqProofs only [ofO_some, Res.bind_ok, e, isK, if_true, valD_known, Bool.bne_false, Res.out_ok, Out.seq_ret, S4]
  exact ⟨trivial, trivial⟩
def IR_blen (c : Nat) : Fn := ⟨1, 1, [(.ret (.bi .len [(.fld (.var 0) "_words" [(c, none)])]))], []⟩
theorem blen_cf {c : Nat} (hf : fs[t]? = some (IR_blen c)) {v : PV} {S : Sto} {ws : List (List Nat)} (h : BookAt c v S ws) : callN fs gl (k + 1) t [v] S = .ok (.int ws.length) S := by
  refine cf_of hf (fn4 rfl ?_)
  have l : lenV S (.tup (ws.map .str)) = some (ws.length : Int) := by
    show some (((ws.map PV.str).length : Nat) : Int) = _
    rw [List.length_map]
  simp -implicitDefEqProofs only [IR_blen, List.map_cons, List.map_nil, Nat.sub_self, List.replicate, List.cons_append, List.nil_append, evB, evS, ev, evs, Res.bind_ok, List.getElem?_cons_zero, h.words, biV, l, Option.map_some, ofO_some, Res.out_ok, Out.seq_ret, S4]
  exact ⟨trivial, trivial⟩
def IR_beq (c : Nat) : Fn := ⟨2, 2, [(.ret (.andv (.isc (.var 1) c) (.cmp .eq (.fld (.var 0) "_words" [(c, none)]) (.fld (.var 1) "_words" [(c, none)]))))], []⟩
theorem beq_cf {c : Nat} (hf : fs[t]? = some (IR_beq c)) {v u : PV} {S : Sto} {ws vs : List (List Nat)} (h : BookAt c v S ws) (h2 : BookAt c u S vs) (hw : ∀ w ∈ ws, Lets w) (hv : ∀ w ∈ vs, Lets w) : callN fs gl (k + 1) t [v, u] S = .ok (.bl (ws == vs)) S := by
  refine cf_of hf (fn4 rfl ?_)
  simp -implicitDefEqProofs only [IR_beq, List.map_cons, List.map_nil, Nat.sub_self, List.replicate, List.cons_append, List.nil_append, evB, evS, ev, Res.bind_ok, List.getElem?_cons_succ, List.getElem?_cons_zero, h2.isc, h.words, h2.words, Option.map_some, ofO_some, truth, if_true, eq_strs hw hv, Res.out_ok, Out.seq_ret, S4]
  exact ⟨trivial, trivial⟩
theorem beq_no {c : Nat} (hf : fs[t]? = some (IR_beq c)) {v u : PV} {S : Sto} (h : iscV S u c = some false) : callN fs gl (k + 1) t [v, u] S = .ok (.bl false) S := by
  refine cf_of hf (fn4 rfl ?_)
  simp -implicitDefEqProofs only [IR_beq, List.map_cons, List.map_nil, Nat.sub_self, List.replicate, List.cons_append, List.nil_append, evB, evS, ev, Res.bind_ok, List.getElem?_cons_succ, List.getElem?_cons_zero, h, Option.map_some, ofO_some, truth, Bool.false_eq_true, if_false, Res.out_ok, Out.seq_ret, S4]
  exact ⟨trivial, trivial⟩
/-- the words of a book that a test takes -/
def IR_bookf (nb n c p : Nat) (need : E) (test : T) : Fn := ⟨2, 3, [(.expr (.call nb [(.var 0), (.cst (.int 1))])), (.expr (.call n [need, (.cst (.int 2))])), (.ret (.bi .tuple [(.gcall 0)]))], [⟨.lst, 0, [], ⟨[2], (.nm 2), (.e (.fld (.var 0) "words" [(c, some p)])), [test]⟩, [], (.var 2), .never⟩]⟩
theorem bookf_cf {nb n c p : Nat} {need : E} {test : T} (hf : fs[t]? = some (IR_bookf nb n c p need test)) (hnb : fs[nb]? = some (IR_need_book n c)) (hn : fs[n]? = some IR_need) (hp : fs[p]? = some (IR_words c)) {b x : PV} {S : Sto} {ws : List (List Nat)} (hb : BookAt c b S ws) (hl : ws.length ≤ 4000) (f : List Nat → Bool)
    (hneed : ev ⟨callN fs gl (k + 2), gl, gfOf (callN fs gl (k + 2)) gl (IR_bookf nb n c p need test).gens⟩ need [some b, some x, none] S = .ok (.bl true) S)
    (htest : ∀ w ∈ ws, ∀ T, Kp [] S T → ∃ T', evT ⟨callN fs gl (k + 2), gl, gfN (callN fs gl (k + 2)) gl (IR_bookf nb n c p need test).gens 2⟩ test [some b, some x, some (.str w)] T = .ok (f w) T' ∧ Kp [] T T') :
    ∃ S', callN fs gl (k + 3) t [b, x] S = .ok (.tup ((ws.filter f).map .str)) S' ∧ Kp [] S S' := by
  have nbk : callN fs gl (k + 2) nb [b, .int 1] S = .ok .non S := need_book_cf hnb hn hb (.int 1)
  have nd : callN fs gl (k + 2) n [.bl true, .int 2] S = .ok .non S := need_cf (k := k + 1) hn (.int 2) S
  have gc : ∃ S', gfOf (callN fs gl (k + 2)) gl (IR_bookf nb n c p need test).gens 0 [some b, some x, none] S = .ok (.obj S.length) S' ∧ S'[S.length]? = some (.lst ((ws.filter f).map .str)) ∧ Kp [] S S' := by
    rw [gf_lst (γ := ⟨.lst, 0, [], ⟨[2], (.nm 2), (.e (.fld (.var 0) "words" [(c, some p)])), [test]⟩, [], (.var 2), .never⟩) rfl rfl rfl]
    have := lc_kp (C := ⟨callN fs gl (k + 2), gl, gfN (callN fs gl (k + 2)) gl (IR_bookf nb n c p need test).gens 2⟩) (γ := ⟨.lst, 0, [], ⟨[2], (.nm 2), (.e (.fld (.var 0) "words" [(c, some p)])), [test]⟩, [], (.var 2), .never⟩) (env := [some b, some x, none]) (S := S) (S1 := S) (w := .seq (ws.map .str)) (by
        simp -implicitDefEqProofs only [evI, ev, List.getElem?_cons_succ, List.getElem?_cons_zero, Res.bind_ok, fld_words (k := k + 1) hp hb, wkOf, ofO_some]) ws.length (fun j => f (ws.getD j [])) (fun j => .str (ws.getD j [])) (by omega) (by
        rintro j T hj hk
        have e : ws.getD j [] = ws[j] := by simp [List.getD, hj]
        obtain ⟨T1, f1, f2⟩ := htest _ (List.getElem_mem hj) T hk
        refine ⟨.str ws[j], [some b, some x, some (.str ws[j])], by simp [Wk.at, hj], rfl, T1, ?_, f2, fun _ => ⟨T1, ?_, .refl⟩⟩
        · rw [e]
          simp -implicitDefEqProofs only [evTs, Res.bind_ok, f1]
          cases f ws[j] <;> rfl
        · rw [e]
          simp -implicitDefEqProofs only [ev, List.getElem?_cons_succ, List.getElem?_cons_zero]) (by
        intro T hk
        simp [Wk.at])
    rw [range_filter_map ws f PV.str] at this
    exact this
  obtain ⟨S', g1, g2, g3⟩ := gc
  have tp := tuple_obj g2
  have key : Ret (runF ⟨callN fs gl (k + 2), gl, gfOf (callN fs gl (k + 2)) gl (IR_bookf nb n c p need test).gens⟩ (IR_bookf nb n c p need test) [b, x] S) fun q T' => q = .tup ((ws.filter f).map .str) ∧ T' = S' := by
    refine fn4 rfl ?_
    rw [show (IR_bookf nb n c p need test).body = [(.expr (.call nb [(.var 0), (.cst (.int 1))])), (.expr (.call n [need, (.cst (.int 2))])), (.ret (.bi .tuple [(.gcall 0)]))] from rfl]
    simp -implicitDefEqProofs only [List.map_cons, List.map_nil, show (IR_bookf nb n c p need test).nn - (IR_bookf nb n c p need test).np = 1 from rfl, List.replicate, List.cons_append, List.nil_append, evB, evS, ev, evs, List.getElem?_cons_succ, List.getElem?_cons_zero, Res.bind_ok, Res.out_ok, Out.seq_nx, nbk, hneed, nd, g1, tp, Out.seq_ret, S4]
    exact ⟨trivial, trivial⟩
  rw [callN_eq hf]
  obtain ⟨q, T', e9, rfl, rfl⟩ := key
  exact ⟨T', e9, g3⟩
end
end TM

/-! TM, part Yd: _law_mixed, _law_words_of. -/
namespace TM
open L2
section
variable {fs : List Fn} {gl : Nat → PV} {t k : Nat} {a b : Nat} {xs : List Int}
def mixB (tk : Nat) : List TM.S := [(.set (.nm 6) (.call tk [(.var 0), (.var 1), (.bi .len [(.var 3)])])), (.expr (.me .append (.var 4) [(.idx (.var 3) (.var 6))])), (.set (.nm 3) (.bin .add (.slc (.var 3) none (some (.var 6))) (.slc (.var 3) (some (.bin .add (.var 6) (.cst (.int 1)))) none)))]
def IR_mixed (tk : Nat) : Fn := ⟨3, 7, [(.set (.nm 3) (.bi .list [(.var 2)])), (.set (.nm 4) (.lst [])), (.for (.nm 5) (.rng1 (.bi .len [(.var 2)])) (mixB tk)), (.ret (.var 4))], []⟩
theorem mixed_cf {tk dr : Nat} (hf : fs[t]? = some (IR_mixed tk)) (h1 : fs[tk]? = some (IR_take dr)) (h2 : fs[dr]? = some IR_draw) (hab : a ≠ b) (hx : xs ≠ []) (k : Nat) {S : Sto} {v : PV} {vs : List PV} (wd : Wd a b xs S)
    (hl : ev ⟨callN fs gl (k + 2), gl, gfOf (callN fs gl (k + 2)) gl (IR_mixed tk).gens⟩ (.bi .list [(.var 2)]) [some (.obj a), some (.obj b), some v, none, none, none, none] S = .ok (.obj S.length) (S ++ [.lst vs])) (hn : ∀ T, Kp [] S T → lenV T v = some (vs.length : Int)) (hz : vs.length ≤ 1000) :
    ∃ (ys : List PV) (m : Nat) (S' : Sto), callN fs gl (k + 3) t [.obj a, .obj b, v] S = .ok (.obj m) S' ∧ S'[m]? = some (.lst ys) ∧ ys.Perm vs ∧ Wd a b xs S' ∧ Kp [b] S S' ∧ S.length ≤ m := by
  have lt := wd.alt
  have key : Ret (runF ⟨callN fs gl (k + 2), gl, gfOf (callN fs gl (k + 2)) gl (IR_mixed tk).gens⟩ (IR_mixed tk) [.obj a, .obj b, v] S) fun p S' => p = .obj (S.length + 1) ∧ ∃ ys, S'[S.length + 1]? = some (.lst ys) ∧ ys.Perm vs ∧ Wd a b xs S' ∧ Kp [b] S S' := by
    refine fn4 rfl ?_
    rw [show (IR_mixed tk).body = [(.set (.nm 3) (.bi .list [(.var 2)])), (.set (.nm 4) (.lst [])), (.for (.nm 5) (.rng1 (.bi .len [(.var 2)])) (mixB tk)), (.ret (.var 4))] from rfl]
    have l0 : (0 ≤ LINE) = True := eq_true (by decide)
    have hn2 := hn (S ++ [.lst vs] ++ [.lst []]) (Kp.push.trans Kp.push)
    rw [show ([.obj a, .obj b, v] : List PV).map some ++ List.replicate ((IR_mixed tk).nn - (IR_mixed tk).np) none = [some (.obj a), some (.obj b), some v, none, none, none, none] from rfl]
    rw [evB, evS, hl]
    simp -implicitDefEqProofs only [evB, evS, ev, evs, evI, Res.bind_ok, Res.out_ok, Out.seq_nx, List.getElem?_cons_succ, List.getElem?_cons_zero, bindP_nm, List.length_cons, List.length_nil, Nat.reduceAdd, Nat.reduceLT, if_true, List.set, l0, biV, hn2, Option.map_some, ofO_some, rngB (show vs.length ≤ 1000000 by omega), Int.toNat_natCast]
    refine seq4 ?_
    have l1 : (S ++ [PO.lst vs]).length = S.length + 1 := by simp
    rw [l1]
    refine for4 vs.length (fun j e T => ∃ x5 x6 l left made, e = [some (.obj a), some (.obj b), some v, some (.obj l), some (.obj (S.length + 1)), x5, x6] ∧ T[l]? = some (.lst left) ∧ T[S.length + 1]? = some (.lst made) ∧ S.length ≤ l ∧ l ≠ S.length + 1 ∧ made.length = j ∧ left.length = vs.length - j ∧ (made ++ left).Perm vs ∧ Wd a b xs T ∧ Kp [b] S T) (by unfold FU; omega)
      ⟨none, none, S.length, vs, [], rfl, getP getL, by rw [← l1]; exact getL, Nat.le_refl _, by omega, rfl, by simp, by simp, wd.psh.psh, Kp.push.trans Kp.push⟩ ?_ ?_
    · rintro j env T hj ⟨x5, x6, l, left, made, rfl, g1, g2, g3, g4, g5, g6, g7, g8, g9⟩
      refine ⟨.int (j : Nat), [some (.obj a), some (.obj b), some v, some (.obj l), some (.obj (S.length + 1)), some (.int (j : Nat)), x6], by rw [at_rng, if_pos hj, Int.zero_add], rfl, ?_⟩
      obtain ⟨d, T1, c1, c2, c3, c4, c5⟩ := takeOk (gl := gl) h1 h2 hab hx k T left.length g8 (by omega)
      have g1' := c4.get g1 (by simp; omega)
      have g2' := c4.get g2 (by simp; omega)
      have av : atV (.obj l) (.int (d : Nat)) T1 = some left[d] := atV_nat (seq_obj g1') (by simp [c2])
      have mt : TM.mty T1 (.obj (S.length + 1)) = some .lst := by simp only [TM.mty, g2']
      have ap : meV .append .lst (.obj (S.length + 1)) [left[d]] T1 = .ok .non (T1.set (S.length + 1) (.lst (made ++ [left[d]]))) := by
        show meAppend (.obj (S.length + 1)) [left[d]] T1 = _
        rw [app1 g2' (by unfold LINE; omega)]
      have g1'' : (T1.set (S.length + 1) (.lst (made ++ [left[d]])))[l]? = some (.lst left) := by
        rw [List.getElem?_set_ne (Ne.symm g4)]; exact g1'
      have g2'' : (T1.set (S.length + 1) (.lst (made ++ [left[d]])))[S.length + 1]? = some (.lst (made ++ [left[d]])) := List.getElem?_set_self (List.getElem?_eq_some_iff.mp g2').1
      have w2 : Wd a b xs (T1.set (S.length + 1) (.lst (made ++ [left[d]]))) := c3.kp2 (Kp.set (ex := [S.length + 1]) (by simp)) (by simp; omega) (by simp; omega)
      have k2 : Kp [b] S (T1.set (S.length + 1) (.lst (made ++ [left[d]]))) := (g9.trans c4).setX (by omega)
      have lT : S.length + 1 < (T1.set (S.length + 1) (.lst (made ++ [left[d]]))).length := (List.getElem?_eq_some_iff.mp g2'').1
      simp -implicitDefEqProofs only [mixB, evB, evS, ev, evs, Res.bind_ok, Res.out_ok, Out.seq_nx, List.getElem?_cons_succ, List.getElem?_cons_zero, biV, lenV_obj g1, Option.map_some, ofO_some, c1, bindP_nm, List.length_cons, List.length_nil, Nat.reduceAdd, Nat.reduceLT, if_true, List.set, mt, meOk, av, ap]
      generalize hT2 : (T1.set (S.length + 1) (.lst (made ++ [left[d]]))) = T2 at g1'' g2'' w2 k2 lT
      have e1 := cutP_obj (lo := none) (hi := some (d : Int)) g1''
      rw [cut_to _ (by omega)] at e1
      have e2 : cutP (.obj l) (some ((d : Int) + 1)) none (T2 ++ [.lst (left.take d)]) = .ok (.obj (T2 ++ [PO.lst (left.take d)]).length) (T2 ++ [.lst (left.take d)] ++ [.lst (left.drop (d + 1))]) := by
        have := cutP_obj (lo := some ((d + 1 : Nat) : Int)) (hi := none) (getP (o := .lst (left.take d)) g1'')
        rw [cut_from _ (by omega)] at this
        exact this
      have e3 := bV_cat (S := T2 ++ [.lst (left.take d)] ++ [.lst (left.drop (d + 1))]) (getP getL) getL (by simp; omega)
      simp -implicitDefEqProofs only [hT2, List.getElem?_cons_succ, List.getElem?_cons_zero, evO, ev, Res.bind_ok, bV_add, e1, e2, e3, Res.out_ok, bindP_nm, List.length_cons, List.length_nil, Nat.reduceAdd, Nat.reduceLT, if_true, List.set, Out.seq_nx]
      refine nx4 ⟨_, _, _, left.take d ++ left.drop (d + 1), made ++ [left[d]], rfl, getL, getP (getP (getP g2'')), by simp; omega, by simp; omega, by simp [g5], by simp; omega, ?_, w2.psh.psh.psh, (k2.trans Kp.push).trans (Kp.push.trans Kp.push)⟩
      refine List.Perm.trans ?_ g7
      rw [List.append_assoc]
      refine List.Perm.append_left made ?_
      have : left = left.take d ++ left[d] :: left.drop (d + 1) := by rw [List.getElem_cons_drop, List.take_append_drop]
      conv => rhs; rw [this]
      show (left[d] :: (left.take d ++ left.drop (d + 1))).Perm _
      exact List.perm_middle.symm
    · rintro env T ⟨x5, x6, l, left, made, rfl, g1, g2, g3, g4, g5, g6, g7, g8, g9⟩
      refine ⟨by rw [at_rng, if_neg (by omega)], ?_⟩
      have : left = [] := List.length_eq_zero_iff.mp (by omega)
      subst this
      rw [List.append_nil] at g7
      simp -implicitDefEqProofs only [evB, evS, ev, List.getElem?_cons_succ, List.getElem?_cons_zero, Res.out_ok, Out.seq_ret, S4]
      exact ⟨trivial, made, g2, g7, g8, g9⟩
  rw [callN_eq hf]
  obtain ⟨p, S', e, rfl, ys, r1, r2, r3, r4⟩ := key
  exact ⟨ys, _, S', e, r1, r2, r3, r4, by omega⟩
/-! ### drawn words -/
def alphs : List (List Nat) := [[97, 98], [97, 98, 99], [97, 98, 99, 100], [97, 101, 105, 111, 115, 116]]
def IR_alphabet (tk : Nat) : Fn := ⟨2, 2, [(.ret (.idx (.lst [(.cst (.str [97, 98])), (.cst (.str [97, 98, 99])), (.cst (.str [97, 98, 99, 100])), (.cst (.str [97, 101, 105, 111, 115, 116]))]) (.call tk [(.var 0), (.var 1), (.cst (.int 4))])))], []⟩
theorem alphs_ok {al : List Nat} (h : al ∈ alphs) : al ≠ [] ∧ al.length ≤ 6 ∧ ∀ c ∈ al, c ∈ alpha := by
  have : ∀ al ∈ alphs, al ≠ [] ∧ al.length ≤ 6 ∧ ∀ c ∈ al, c ∈ alpha := by decide
  exact this al h
theorem alphabet_cf {tk dr : Nat} (hf : fs[t]? = some (IR_alphabet tk)) (h1 : fs[tk]? = some (IR_take dr)) (h2 : fs[dr]? = some IR_draw) (hab : a ≠ b) (hx : xs ≠ []) (k : Nat) {S : Sto} (wd : Wd a b xs S) :
    ∃ (al : List Nat) (S' : Sto), callN fs gl (k + 3) t [.obj a, .obj b] S = .ok (.str al) S' ∧ al ∈ alphs ∧ Wd a b xs S' ∧ Kp [b] S S' := by
  have lt := wd.alt
  obtain ⟨d, T1, c1, c2, c3, c4, c5⟩ := takeOk (gl := gl) h1 h2 hab hx k (S ++ [.lst (alphs.map .str)]) 4 wd.psh (by omega)
  have g := c4.get (getL (S := S) (o := .lst (alphs.map .str))) (by simp; omega)
  have hd : d < alphs.length := c2
  have av : atV (.obj S.length) (.int (d : Nat)) T1 = some (.str alphs[d]) := atV_nat (seq_obj g) (by simp [hd])
  have key : Ret (runF ⟨callN fs gl (k + 2), gl, gfOf (callN fs gl (k + 2)) gl (IR_alphabet tk).gens⟩ (IR_alphabet tk) [.obj a, .obj b] S) fun p T => p = .str alphs[d] ∧ T = T1 := by
    refine fn4 rfl ?_
    have l4 : (0 + 1 + 1 + 1 + 1 ≤ LINE) = True := eq_true (by decide)
    have c1' : callN fs gl (k + 2) tk [.obj a, .obj b, .int 4] (S ++ [.lst [.str [97, 98], .str [97, 98, 99], .str [97, 98, 99, 100], .str [97, 101, 105, 111, 115, 116]]]) = .ok (.int d) T1 := c1
    simp -implicitDefEqProofs only [IR_alphabet, List.map_cons, List.map_nil, Nat.sub_self, List.replicate, List.cons_append, List.nil_append, evB, evS, ev, evs, Res.bind_ok, Res.out_ok, List.getElem?_cons_succ, List.getElem?_cons_zero, List.length_cons, List.length_nil, l4, if_true, c1', av, ofO_some, Out.seq_ret, S4]
    exact ⟨trivial, trivial⟩
  rw [callN_eq hf]
  obtain ⟨p, T, e, rfl, rfl⟩ := key
  exact ⟨_, T, e, List.getElem_mem hd, c3, Kp.push.trans c4⟩
def IR_words_of (ts al : Nat) : Fn := ⟨5, 5, [(.ret (.call ts [(.var 0), (.var 1), (.call al [(.var 0), (.var 1)]), (.var 2), (.var 3), (.var 4)]))], []⟩
theorem words_of_cf {ts tx tk dr ta : Nat} (hf : fs[t]? = some (IR_words_of ts ta)) (ha : fs[ta]? = some (IR_alphabet tk)) (hs : fs[ts]? = some (IR_texts tk tx)) (h0 : fs[tx]? = some (IR_text tk)) (h1 : fs[tk]? = some (IR_take dr)) (h2 : fs[dr]? = some IR_draw) (hab : a ≠ b) (hx : xs ≠ []) (k : Nat) {S : Sto} {many least most : Nat} (wd : Wd a b xs S) (hm : least ≤ most) (hm2 : most ≤ 1000) (hk : many ≤ 1000) :
    ∃ (ws : List (List Nat)) (S' : Sto), callN fs gl (k + 5) t [.obj a, .obj b, .int many, .int least, .int most] S = .ok (.tup (ws.map .str)) S' ∧ ws.length ≤ many ∧ Txts alpha least most ws ∧ Wd a b xs S' ∧ Kp [b] S S' := by
  obtain ⟨al, S1, a1, a2, a3, a4⟩ := alphabet_cf (gl := gl) (k := k + 1) ha h1 h2 hab hx wd
  obtain ⟨e1, e2, e3⟩ := alphs_ok a2
  obtain ⟨ws, S2, b1, b2, b3, b4, b5⟩ := texts_cf (gl := gl) hs h0 h1 h2 hab hx k (many := many) a3 e1 (by omega) hm hm2 hk
  have key : Ret (runF ⟨callN fs gl (k + 4), gl, gfOf (callN fs gl (k + 4)) gl (IR_words_of ts ta).gens⟩ (IR_words_of ts ta) [.obj a, .obj b, .int many, .int least, .int most] S) fun p T => p = .tup (ws.map .str) ∧ T = S2 := by
    refine fn4 rfl ?_
    simp -implicitDefEqProofs only [IR_words_of, List.map_cons, List.map_nil, Nat.sub_self, List.replicate, List.cons_append, List.nil_append, evB, evS, ev, evs, Res.bind_ok, Res.out_ok, List.getElem?_cons_succ, List.getElem?_cons_zero, a1, b1, Out.seq_ret, S4]
    exact ⟨trivial, trivial⟩
  rw [callN_eq hf]
  obtain ⟨p, T, e, rfl, rfl⟩ := key
  exact ⟨ws, T, e, b2, ⟨fun w hw => ⟨(b3.all w hw).1, (b3.all w hw).2.1, fun c hc => e3 c ((b3.all w hw).2.2 c hc)⟩⟩, b4, a4.trans b5⟩
end
end TM

/-! PM, part J: how a run is told. -/
namespace PM
open TM
section
variable {h h' : QH} {xs ys : List Q}
theorem look_non : look h .non = some .non := rfl
theorem look_bl {b} : look h (.bl b) = some (.bl b) := rfl
theorem look_int {i} : look h (.int i) = some (.int i) := rfl
theorem look_str {s} : look h (.str s) = some (.str s) := rfl
theorem look_tup {s} : look h (.tup s) = some (.tup s) := rfl
theorem look_lst {s} : look h (.lst s) = some (.lst s) := rfl
theorem look_dic {s} : look h (.dic s) = some (.dic s) := rfl
theorem look_ins {c s} : look h (.ins c s) = some (.ins c s) := rfl
theorem look_ref {r} : look h (.ref r) = h[r]? := rfl
theorem truthH_bl {b} : truthH h (.bl b) = some b := rfl
theorem truthH_non : truthH h .non = some false := rfl
theorem truthH_int {i} : truthH h (.int i) = some (i != 0) := rfl
theorem truthH_lst : truthH h (.lst xs) = some (!xs.isEmpty) := rfl
theorem truthH_tup : truthH h (.tup xs) = some (!xs.isEmpty) := rfl
theorem truthH_str {s : List Nat} (l : s.length ≤ LINE) : truthH h (.str s) = some (!s.isEmpty) := if_pos l
theorem c_lt {i j} : cmpH .lt (.int i) (.int j) h = some (decide (i < j)) := cmp_lt i j []
theorem c_le {i j} : cmpH .le (.int i) (.int j) h = some (decide (i ≤ j)) := by
  show cmpV .le (.int i) (.int j) [] = _
  rw [cmp_le]
  by_cases z : i ≤ j <;> simp [z] <;> omega
theorem c_gt {i j} : cmpH .gt (.int i) (.int j) h = some (decide (j < i)) := cmp_gt i j []
theorem c_ge {i j} : cmpH .ge (.int i) (.int j) h = some (decide (j ≤ i)) := by
  show cmpV .ge (.int i) (.int j) [] = _
  simp [cmpV, ordB, pur, alk, isNon, dep, ltP]
  by_cases z : j ≤ i <;> simp [z] <;> omega
theorem c_eq {i j : Int} : cmpH .eq (.int i) (.int j) h = some (i == j) := rfl
theorem c_ne {i j : Int} : cmpH .ne (.int i) (.int j) h = some (!(i == j)) := rfl
theorem c_eqs {s t : List Nat} : cmpH .eq (.str s) (.str t) h = some (s == t) := rfl
theorem c_nes {s t : List Nat} : cmpH .ne (.str s) (.str t) h = some (!(s == t)) := rfl
theorem c_lts {s t : List Nat} : cmpH .lt (.str s) (.str t) h = some (ltN s t) := lt_txt s t []
theorem c_eqb {s t : Bool} : cmpH .eq (.bl s) (.bl t) h = some (s == t) := rfl
theorem c_neb {s t : Bool} : cmpH .ne (.bl s) (.bl t) h = some (!(s == t)) := rfl
theorem c_isb {s t : Bool} : cmpH .is (.bl s) (.bl t) h = some (s == t) := rfl
theorem c_isnb {s t : Bool} : cmpH .isnot (.bl s) (.bl t) h = some (!(s == t)) := rfl
theorem c_isn {q c : Q} (e : look h q = some c) : cmpH .is q .non h = some (isNonQ c) := by simp only [cmpH, e, look_non]; rfl
theorem c_isnn {q c : Q} (e : look h q = some c) : cmpH .isnot q .non h = some (!isNonQ c) := by simp only [cmpH, e, look_non]; rfl
theorem c_is_non  : cmpH .is .non .non h = some true := rfl
theorem c_isnt_non  : cmpH .isnot .non .non h = some false := rfl
theorem c_is_bl {b} : cmpH .is (.bl b) .non h = some false := rfl
theorem c_isnt_bl {b} : cmpH .isnot (.bl b) .non h = some true := rfl
theorem c_is_int {b} : cmpH .is (.int b) .non h = some false := rfl
theorem c_isnt_int {b} : cmpH .isnot (.int b) .non h = some true := rfl
theorem c_is_str {b} : cmpH .is (.str b) .non h = some false := rfl
theorem c_isnt_str {b} : cmpH .isnot (.str b) .non h = some true := rfl
theorem c_is_tup {b} : cmpH .is (.tup b) .non h = some false := rfl
theorem c_isnt_tup {b} : cmpH .isnot (.tup b) .non h = some true := rfl
theorem c_is_lst {b} : cmpH .is (.lst b) .non h = some false := rfl
theorem c_isnt_lst {b} : cmpH .isnot (.lst b) .non h = some true := rfl
theorem c_is_dic {b} : cmpH .is (.dic b) .non h = some false := rfl
theorem c_isnt_dic {b} : cmpH .isnot (.dic b) .non h = some true := rfl
theorem c_is_ins {c b} : cmpH .is (.ins c b) .non h = some false := rfl
theorem c_isnt_ins {c b} : cmpH .isnot (.ins c b) .non h = some true := rfl
theorem c_in1 {c : Nat} {z : List Nat} : cmpH .inn (.str [c]) (.str z) h = some (z.any fun d => d == c) := rfl
theorem c_nin1 {c : Nat} {z : List Nat} : cmpH .notin (.str [c]) (.str z) h = some (!z.any fun d => d == c) := rfl
theorem b_add {i j} : binH .add (.int i) (.int j) h = .ok (.int (i + j)) h := rfl
theorem b_sub {i j} : binH .sub (.int i) (.int j) h = .ok (.int (i - j)) h := rfl
theorem b_mul {i j} (l : mulOk i j = true) : binH .mul (.int i) (.int j) h = .ok (.int (i * j)) h := by simp [binH, look, binQ, binI, l]
theorem b_mod {i j : Int} (l : (j == 0) = false) : binH .mod (.int i) (.int j) h = .ok (.int (i.fmod j)) h := by simp [binH, look, binQ, binI, bne, l]
theorem b_div {i j : Int} (l : (j == 0) = false) (l2 : j.natAbs < 1073741824) : binH .fdiv (.int i) (.int j) h = .ok (.int (i.fdiv j)) h := by simp [binH, look, binQ, binI, bne, l, l2]
theorem b_str {s t : List Nat} (l : s.length + t.length ≤ LINE) : binH .add (.str s) (.str t) h = .ok (.str (s ++ t)) h := by simp [binH, look, binQ, l]
theorem b_tup (l : xs.length + ys.length ≤ LINE) : binH .add (.tup xs) (.tup ys) h = .ok (.tup (xs ++ ys)) h := by simp [binH, look, binQ, l]
theorem b_lst (l : xs.length + ys.length ≤ LINE) : binH .add (.lst xs) (.lst ys) h = .ok (.lst (xs ++ ys)) h := by simp [binH, look, binQ, l]
theorem atH_lst {k} : atH (.lst xs) (.int k) h = L2.atI xs k := rfl
theorem atH_tup {k} : atH (.tup xs) (.int k) h = L2.atI xs k := rfl
theorem atH_str {s : List Nat} {k} (l : s.length ≤ LINE) : atH (.str s) (.int k) h = (L2.atI s k).map fun c => Q.str [c] := by
  show (if s.length ≤ LINE then _ else _) = _
  rw [if_pos l]
theorem atI_cast {a : Type} {xs : List a} {k : Nat} : L2.atI xs (k : Int) = xs[k]? := by
  unfold L2.atI L2.ixN
  rw [if_pos (by omega)]
  by_cases c : k < xs.length
  · rw [if_pos (by omega)]; rfl
  · rw [if_neg (by omega)]
    rw [List.getElem?_eq_none (by omega)]; rfl
theorem atI_0 {a : Type} {xs : List a} : L2.atI xs 0 = xs[0]? := atI_cast (k := 0)
theorem atI_1 {a : Type} {xs : List a} : L2.atI xs 1 = xs[1]? := atI_cast (k := 1)
theorem atI_2 {a : Type} {xs : List a} : L2.atI xs 2 = xs[2]? := atI_cast (k := 2)
theorem atI_3 {a : Type} {xs : List a} : L2.atI xs 3 = xs[3]? := atI_cast (k := 3)
theorem cut_lst {lo hi} : cutH (.lst xs) lo hi h = some (.lst (cutL xs lo hi)) := rfl
theorem cut_tup {lo hi} : cutH (.tup xs) lo hi h = some (.tup (cutL xs lo hi)) := rfl
theorem cut_str {s : List Nat} {lo hi} (l : s.length ≤ LINE) : cutH (.str s) lo hi h = some (.str (cutL s lo hi)) := by
  show (if s.length ≤ LINE then _ else _) = _
  rw [if_pos l]
theorem len_lst : biH .len [.lst xs] h = .ok (.int xs.length) h := rfl
theorem len_tup : biH .len [.tup xs] h = .ok (.int xs.length) h := rfl
theorem len_str {s : List Nat} (l : s.length ≤ LINE) : biH .len [.str s] h = .ok (.int s.length) h := by
  simp only [biH, look_str, bi1, lenQ]
  rw [if_pos l]; rfl
theorem bi_tup : biH .tuple [.lst xs] h = .ok (.tup xs) h := rfl
theorem bi_tup2 : biH .tuple [.tup xs] h = .ok (.tup xs) h := rfl
theorem bi_list : biH .list [.lst xs] h = .ok (.lst xs) h := rfl
theorem bi_list2 : biH .list [.tup xs] h = .ok (.lst xs) h := rfl
theorem bi_listS {s : List Nat} (l : s.length ≤ 16000) : biH .list [.str s] h = .ok (.lst (s.map fun c => .str [c])) h := by
  simp only [biH, look_str, bi1]; rw [if_pos l]; rfl
theorem bi_int {i} : biH .int [.int i] h = .ok (.int i) h := rfl
theorem bi_min {i j} : biH .min2 [.int i, .int j] h = .ok (.int (if j < i then j else i)) h := rfl
theorem bi_max {i j} : biH .max2 [.int i, .int j] h = .ok (.int (if j > i then j else i)) h := rfl
theorem isi_cons {q c : Q} {ts} (e : look h q = some c) {b} (i : isiQ c ts = some b) : (match look h q with | some q => ofQ ((isiQ q ts).map Q.bl) h | none => .bad) = .ok (.bl b) h := by rw [e]; simp only [i]; rfl
theorem meM_app {x : Q} (l : xs.length < LINE) : meM .append xs [x] = some (.non, xs ++ [x]) := if_pos l
theorem short_ok' (l : xs.length ≤ LINE) : shortQ xs h = .ok xs h := if_pos l
theorem items_lst : itemsQ (.lst xs) = some xs := rfl
theorem items_tup : itemsQ (.tup xs) = some xs := rfl
theorem items_str {s : List Nat} : itemsQ (.str s) = some (s.map fun c => .str [c]) := rfl
theorem rng_ok {j : Nat} (l : j ≤ 1000000) : (if (decide (-P62 ≤ (j : Int)) && decide ((j : Int) ≤ LINE)) = true then PR.ok (rngQ 0 (j : Int).toNat) h else .bad) = .ok ((List.range j).map fun (k : Nat) => Q.int (k : Nat)) h := by
  rw [if_pos (by rw [Bool.and_eq_true, decide_eq_true_eq, decide_eq_true_eq]; unfold P62 LINE; omega), Int.toNat_natCast]
  exact congrArg (fun z => PR.ok z h) (List.map_congr_left fun k _ => by simp)
theorem rng_ok2 {i j : Nat} (l : j ≤ 1000000) (l2 : i ≤ 1000000) : (if (decide (-P62 ≤ (i : Int)) && decide ((i : Int) < P62) && decide (-P62 ≤ (j : Int)) && decide ((j : Int) < P62) && decide (((j : Int) - i).toNat ≤ LINE)) = true then PR.ok (rngQ i ((j : Int) - i).toNat) h else .bad) = .ok ((List.range (j - i)).map fun (k : Nat) => Q.int ((i + k : Nat) : Int)) h := by
  rw [if_pos (by simp only [Bool.and_eq_true, decide_eq_true_eq]; unfold P62 LINE; omega)]
  rw [show ((j : Int) - i).toNat = j - i from by omega]
  exact congrArg (fun z => PR.ok z h) (List.map_congr_left fun k _ => by simp)
theorem rng_get {n j : Nat} {x : Q} (e : ((List.range n).map fun (k : Nat) => Q.int (k : Nat))[j]? = some x) : j < n ∧ x = .int (j : Nat) := by
  rw [List.getElem?_map, Option.map_eq_some_iff] at e
  obtain ⟨k, e, rfl⟩ := e
  have := lt_of_get e
  rw [List.length_range] at this
  rw [List.getElem?_range this] at e
  cases e
  exact ⟨this, rfl⟩
theorem rng_len {n : Nat} : ((List.range n).map fun (k : Nat) => Q.int (k : Nat)).length = n := by simp
theorem rngQ_len {i n} : (rngQ i n).length = n := by simp [rngQ]
theorem rngQ_get {i : Int} {n k : Nat} (l : k < n) : (rngQ i n)[k]? = some (.int (i + k)) := by simp [rngQ, List.getElem?_map, List.getElem?_range l]
theorem rngQ_0 {n : Nat} : rngQ 0 n = (List.range n).map fun (k : Nat) => Q.int (k : Nat) := by
  unfold rngQ
  apply List.map_congr_left
  intro k _
  simp
end
/-! ### runs -/
def PS (r : PM.PO) (N B C : QE → QH → Prop) (R : Q → QH → Prop) : Prop := match r with
  | .nx e S => N e S
  | .brk e S => B e S
  | .cnt e S => C e S
  | .ret p S => R p S
  | .bad => False
def No : QE → QH → Prop := fun _ _ => False
section
variable {r : PM.PO} {N B C N' B' C' : QE → QH → Prop} {R R' : Q → QH → Prop} {e : QE} {h : QH}
theorem PS.seq {f : QE → QH → PM.PO} (h : PS r (fun e S => PS (f e S) N B C R) B C R) : PS (r.seq f) N B C R := by
  cases r <;> first | exact h | exact h.elim
theorem PS.nx (x : N e h) : PS (.nx e h) N B C R := x
theorem PS.ret {p : Q} (x : R p h) : PS (.ret p h) N B C R := x
theorem PS.cnt (x : C e h) : PS (.cnt e h) N B C R := x
theorem PS.brk (x : B e h) : PS (.brk e h) N B C R := x
theorem PS.imp (x : PS r N B C R) (hn : ∀ e S, N e S → N' e S) (hb : ∀ e S, B e S → B' e S) (hc : ∀ e S, C e S → C' e S) (hr : ∀ p S, R p S → R' p S) : PS r N' B' C' R' := by
  cases r <;> first | exact hn _ _ x | exact hb _ _ x | exact hc _ _ x | exact hr _ _ x | exact x
/-- a for by what holds ahead of each turn -/
theorem pfor_rule {p : Pat} {body : QE → QH → PM.PO} (I : Nat → QE → QH → Prop) {F B C : QE → QH → Prop} {R : Q → QH → Prop} : ∀ (xs : List Q) (k : Nat) (env : QE) (h : QH), I k env h →
    (∀ j x env h, xs[j]? = some x → I (k + j) env h → ∃ env1, bindQ p x env = some env1 ∧ PS (body env1 h) (I (k + j + 1)) F (I (k + j + 1)) R) → (∀ env h, I (k + xs.length) env h → F env h) → PS (pfor p body xs env h) F B C R
  | [], k, env, h, i, _, fin => fin env h i
  | x :: xs, k, env, h, i, turn, fin => by
    obtain ⟨env1, e1, e2⟩ := turn 0 x env h rfl i
    rw [pfor, e1]
    simp only
    have go : ∀ env2 h2, I (k + 1) env2 h2 → PS (pfor p body xs env2 h2) F B C R := fun env2 h2 i2 => pfor_rule I xs (k + 1) env2 h2 i2 (fun j x env h g i => by
      have := turn (j + 1) x env h (by simpa using g) (by rw [show k + (j + 1) = k + 1 + j from by omega]; exact i)
      rw [show k + (j + 1) = k + 1 + j from by omega] at this
      exact this) fun env h i => fin env h (by rw [List.length_cons, show k + (xs.length + 1) = k + 1 + xs.length from by omega]; exact i)
    cases hb : body env1 h with
    | nx e2' h2 => rw [hb] at e2; exact go _ _ e2
    | cnt e2' h2 => rw [hb] at e2; exact go _ _ e2
    | brk e2' h2 => rw [hb] at e2; exact e2
    | ret q h2 => rw [hb] at e2; exact e2
    | bad => rw [hb] at e2; exact e2.elim
/-- a for over xs, from its start -/
theorem pfor0 {p : Pat} {body : QE → QH → PM.PO} {xs : List Q} {env : QE} {h : QH} (I : Nat → QE → QH → Prop) {F B C : QE → QH → Prop} {R : Q → QH → Prop} (i : I 0 env h)
    (turn : ∀ j x env h, xs[j]? = some x → I j env h → ∃ env1, bindQ p x env = some env1 ∧ PS (body env1 h) (I (j + 1)) F (I (j + 1)) R) (fin : ∀ env h, I xs.length env h → F env h) : PS (pfor p body xs env h) F B C R :=
  pfor_rule I xs 0 env h i (fun j x env h g i => by
    have := turn j x env h g (by simpa using i)
    simpa using this) fun env h i => fin env h (by simpa using i)
/-- a while by what shrinks -/
theorem pwhl_rule {t : QE → QH → PR Bool} {body : QE → QH → PM.PO} (I : Nat → QE → QH → Prop) {F B C : QE → QH → Prop} {R : Q → QH → Prop}
    (turn : ∀ k env h, I k env h → ∃ b h1, t env h = .ok b h1 ∧ if b then PS (body env h1) (fun e S => ∃ j, j < k ∧ I j e S) F (fun e S => ∃ j, j < k ∧ I j e S) R else F env h1) :
    ∀ n k env h, k < n → I k env h → PS (pwhl t body n env h) F B C R
  | 0, k, env, h, l, _ => by omega
  | n + 1, k, env, h, l, i => by
    obtain ⟨b, h1, e1, e2⟩ := turn k env h i
    rw [pwhl, e1]
    simp only [PR.out_ok]
    cases b with
    | false => exact e2
    | true =>
      simp only [if_true] at e2 ⊢
      cases hb : body env h1 with
      | nx e h2 => rw [hb] at e2; obtain ⟨j, lj, e2⟩ := e2; exact pwhl_rule I turn n j _ _ (by omega) e2
      | cnt e h2 => rw [hb] at e2; obtain ⟨j, lj, e2⟩ := e2; exact pwhl_rule I turn n j _ _ (by omega) e2
      | brk e h2 => rw [hb] at e2; exact e2
      | ret q h2 => rw [hb] at e2; exact e2
      | bad => rw [hb] at e2; exact e2.elim
end
/-! ### what is not opened by computing -/
def forB (C : PC) (p : Pat) (b : List TM.S) (xs : List Q) (env : QE) (h : QH) : PM.PO := pfor p (pb C b) xs env h
def whlB (C : PC) (t : T) (b : List TM.S) (env : QE) (h : QH) : PM.PO := pwhl (peT C t) (pb C b) FU env h
def lcB (C : PC) (p : Pat) (env : QE) (ts : List T) (e : E) (xs acc : List Q) (h : QH) : PR (List Q) := lcQ p env (peTs C ts) (eltQ C e) xs acc h
def lc2B (C : PC) (p : Pat) (env : QE) (ts : List T) (c2 : Cl) (e : E) (xs acc : List Q) (h : QH) : PR (List Q) := lcQ p env (peTs C ts) (lc2Q C c2 e) xs acc h
def lcD (C : PC) (p : Pat) (env : QE) (ts : List T) (e v : E) (xs : List Q) (acc : List (PV × Q)) (h : QH) : PR (List (PV × Q)) := lcQ p env (peTs C ts) (eltK C e v) xs acc h
def gnB (C : PC) (p : Pat) (b : Bool) (e : E) (xs : List Q) (env : QE) (h : QH) : PR Q := genQ p b (pe C e) xs env h
section
variable {C : PC} {env : QE} {h : QH}
theorem ps_never : ps C .never env h = .bad := rfl
theorem ps_pass : ps C .pass env h = .nx env h := rfl
theorem ps_brk : ps C .brk env h = .brk env h := rfl
theorem ps_cnt : ps C .cnt env h = .cnt env h := rfl
theorem ps_set {p e} : ps C (.set p e) env h = pexpr C e env h fun x env h => match bindQ p x env with
    | some env => .nx env h
    | none => .bad := rfl
theorem ps_seti {o i e} : ps C (.seti o i e) env h = pseti C o i e env h := rfl
theorem ps_setf {o x cs e} : ps C (.setf o x cs e) env h = psetf C o x cs e env h := rfl
theorem ps_dset {d k e} : ps C (.dset d k e) env h = pdset C d k e env h := rfl
theorem ps_aug {i o e} : ps C (.aug i o e) env h = match env[i]? with
    | some (some p) => (pe C e env h).out fun q h => match augQ o p q with
      | some z => .nx (env.set i (some z)) h
      | none => .bad
    | _ => .bad := rfl
theorem ps_expr {e} : ps C (.expr e) env h = pexpr C e env h fun _ env h => .nx env h := rfl
theorem ps_ret {e} : ps C (.ret e) env h = (pe C e env h).out fun p h => .ret p h := rfl
theorem ps_retn : ps C .retn env h = .ret .non h := rfl
theorem ps_ite {t a b} : ps C (.ite t a b) env h = (peT C t env h).out fun k h => if k then pb C a env h else pb C b env h := rfl
theorem ps_whl {t b} : ps C (.whl t b) env h = whlB C t b env h := rfl
theorem ps_for {p it b} : ps C (.for p it b) env h = (peI C it env h).out fun xs h => forB C p b xs env h := rfl
theorem peL1_b {γ : Gen} : peL1 C γ env h = (peI C γ.c.it env h).bind fun xs h => (lcB C γ.c.p (wipeQ env γ.c.own) γ.c.ts γ.e xs [] h).bind fun acc h => .ok (.lst acc) h := rfl
theorem peL2_b {γ : Gen} {c2 : Cl} : peL2 C γ c2 env h = (peI C γ.c.it env h).bind fun xs h => (lc2B C γ.c.p (wipeQ env γ.c.own) γ.c.ts c2 γ.e xs [] h).bind fun acc h => .ok (.lst acc) h := rfl
theorem peD1_b {γ : Gen} : peD1 C γ env h = (peI C γ.c.it env h).bind fun xs h => (lcD C γ.c.p (wipeQ env γ.c.own) γ.c.ts γ.e γ.v xs [] h).bind fun acc h => .ok (.dic acc) h := rfl
theorem peA_b {γ : Gen} {b : Bool} : peA C b γ env h = (peI C γ.c.it env h).bind fun xs h => gnB C γ.c.p b γ.e xs (env ++ List.replicate γ.k none) h := rfl
theorem lc2_b {c2 : Cl} {e : E} {acc : List Q} : lc2Q C c2 e acc env h = (peI C c2.it env h).bind fun xs h => lcB C c2.p (wipeQ env c2.own) c2.ts e xs acc h := rfl
end
section
variable {fs : List Fn} {gl : Nat → PV} {k f : Nat} {fn : Fn} {as : List Q} {h h' : QH} {p : Q}
/-- what stands about a def called at level k + 1 -/
def CC (fs : List Fn) (gl : Nat → PV) (k np : Nat) (gens : List Gen) : PC := ⟨callQ fs gl k, initQ fs gl k, gl, gfQ (callQ fs gl k) (initQ fs gl k) gl gens 3, fun i => decide (np ≤ i)⟩
def CI (fs : List Fn) (gl : Nat → PV) (k np : Nat) (gens : List Gen) : PC := ⟨callQ fs gl k, initQ fs gl k, gl, gfQ (callQ fs gl k) (initQ fs gl k) gl gens 3, fun i => i == 0 || decide (np ≤ i)⟩
/-- within comprehensions -/
def GC (fs : List Fn) (gl : Nat → PV) (k : Nat) (gens : List Gen) (n : Nat) : PC := ⟨callQ fs gl k, initQ fs gl k, gl, gfQ (callQ fs gl k) (initQ fs gl k) gl gens n, fun _ => false⟩
theorem CC_cf {np gens} : (CC fs gl k np gens).cf = callQ fs gl k := rfl
theorem CC_ci {np gens} : (CC fs gl k np gens).ci = initQ fs gl k := rfl
theorem CC_gl {np gens} : (CC fs gl k np gens).gl = gl := rfl
theorem CC_own {np gens i} : (CC fs gl k np gens).own i = decide (np ≤ i) := rfl
theorem CC_gf {np gens g env} : (CC fs gl k np gens).gf g env h = match gens[g]? with
    | some γ => peG (GC fs gl k gens 2) γ env h
    | none => .bad := rfl
theorem CI_cf {np gens} : (CI fs gl k np gens).cf = callQ fs gl k := rfl
theorem CI_ci {np gens} : (CI fs gl k np gens).ci = initQ fs gl k := rfl
theorem CI_gl {np gens} : (CI fs gl k np gens).gl = gl := rfl
theorem CI_own {np gens i} : (CI fs gl k np gens).own i = (i == 0 || decide (np ≤ i)) := rfl
theorem CI_gf {np gens g env} : (CI fs gl k np gens).gf g env h = match gens[g]? with
    | some γ => peG (GC fs gl k gens 2) γ env h
    | none => .bad := rfl
theorem GC_cf {n gens} : (GC fs gl k gens n).cf = callQ fs gl k := rfl
theorem GC_ci {n gens} : (GC fs gl k gens n).ci = initQ fs gl k := rfl
theorem GC_gl {n gens} : (GC fs gl k gens n).gl = gl := rfl
theorem GC_gf {n gens g env} : (GC fs gl k gens (n + 1)).gf g env h = match gens[g]? with
    | some γ => peG (GC fs gl k gens n) γ env h
    | none => .bad := rfl
theorem call_ex {R : Q → QH → Prop} (hf : fs[f]? = some fn) (hl : as.length = fn.np) (s : PS (pb (CC fs gl k fn.np fn.gens) fn.body (envQ fn as) h) (fun _ h => R .non h) No No R) : ∃ p h', callQ fs gl (k + 1) f as h = .ok p h' ∧ R p h' := by
  rw [callQ, hf]
  show ∃ p h', runQ (CC fs gl k fn.np fn.gens) fn as h = .ok p h' ∧ R p h'
  unfold runQ
  rw [if_pos hl]
  cases e : pb (CC fs gl k fn.np fn.gens) fn.body (envQ fn as) h with
  | nx _ h1 => rw [e] at s; exact ⟨.non, h1, rfl, s⟩
  | ret p h1 => rw [e] at s; exact ⟨p, h1, rfl, s⟩
  | brk _ _ => rw [e] at s; exact s.elim
  | cnt _ _ => rw [e] at s; exact s.elim
  | bad => rw [e] at s; exact s.elim
theorem call_eq (hf : fs[f]? = some fn) (hl : as.length = fn.np) (s : PS (pb (CC fs gl k fn.np fn.gens) fn.body (envQ fn as) h) (fun _ h1 => p = .non ∧ h1 = h') No No (fun q h1 => q = p ∧ h1 = h')) : callQ fs gl (k + 1) f as h = .ok p h' := by
  obtain ⟨q, h1, e, r⟩ := call_ex (R := fun q h1 => q = p ∧ h1 = h') hf hl (s.imp (fun _ _ x => ⟨x.1.symm, x.2⟩) (fun _ _ x => x) (fun _ _ x => x) fun _ _ x => x)
  rw [e, r.1, r.2]
theorem call_ret (hf : fs[f]? = some fn) (hl : as.length = fn.np) (s : pb (CC fs gl k fn.np fn.gens) fn.body (envQ fn as) h = .ret p h') : callQ fs gl (k + 1) f as h = .ok p h' := by
  rw [callQ, hf]
  show runQ (CC fs gl k fn.np fn.gens) fn as h = _
  unfold runQ
  rw [if_pos hl, s]
theorem call_nx {env : QE} (hf : fs[f]? = some fn) (hl : as.length = fn.np) (s : pb (CC fs gl k fn.np fn.gens) fn.body (envQ fn as) h = .nx env h') : callQ fs gl (k + 1) f as h = .ok .non h' := by
  rw [callQ, hf]
  show runQ (CC fs gl k fn.np fn.gens) fn as h = _
  unfold runQ
  rw [if_pos hl, s]
theorem init_nx {c : Nat} {q : Q} {t : QE} (hf : fs[f]? = some fn) (hc : chI fn = true) (hl : as.length + 1 = fn.np) (s : pb (CI fs gl k fn.np fn.gens) fn.body (envQ fn (.ins c [] :: as)) h = .nx (some q :: t) h') : initQ fs gl (k + 1) c f as h = .ok q h' := by
  rw [initQ, hf]
  show runI (CI fs gl k fn.np fn.gens) fn c as h = _
  unfold runI
  rw [if_pos (by rw [hc, hl]; simp), s]
end
/-! ### comprehensions -/
section
variable {C : PC} {env : QE} {h : QH}
/-- the turns of a list comprehension over told items, told element by element -/
theorem lc_map {a : Type} {g : a → Q} {p : Pat} {ts : QE → QH → PR Bool} {e : E} (f : a → Bool) (r : a → Q) : ∀ (xs : List a) (acc : List Q), acc.length + xs.length ≤ LINE →
    (∀ x ∈ xs, ∃ env1, bindQ p (g x) env = some env1 ∧ ts env1 h = .ok (f x) h ∧ (f x = true → pe C e env1 h = .ok (r x) h)) → lcQ p env ts (eltQ C e) (xs.map g) acc h = .ok (acc ++ (xs.filter f).map r) h
  | [], acc, l, _ => by simp [lcQ]
  | x :: xs, acc, l, t => by
    obtain ⟨env1, e1, e2, e3⟩ := t x (by simp)
    rw [List.map_cons, lcQ, e1]
    simp only [e2, PR.bind_ok]
    rw [List.length_cons] at l
    cases hf : f x with
    | false =>
      rw [List.filter_cons_of_neg (by simp [hf])]
      simp only [Bool.false_eq_true, if_false]
      exact lc_map f r xs acc (by omega) fun y m => t y (by simp [m])
    | true =>
      simp only [if_true, eltQ, e3 hf, PR.bind_ok]
      rw [if_pos (by omega)]
      simp only [PR.bind_ok]
      rw [lc_map f r xs (acc ++ [r x]) (by simp; omega) fun y m => t y (by simp [m])]
      simp [List.filter_cons_of_pos hf]
/-- with two clauses -/
theorem lc_flat {a : Type} {g : a → Q} {p : Pat} {ts : QE → QH → PR Bool} {turn : List Q → QE → QH → PR (List Q)} (f : a → Bool) (r : a → List Q) : ∀ (xs : List a) (acc : List Q),
    (∀ x ∈ xs, ∃ env1, bindQ p (g x) env = some env1 ∧ ts env1 h = .ok (f x) h ∧ (f x = true → ∀ acc, turn acc env1 h = .ok (acc ++ r x) h)) → lcQ p env ts turn (xs.map g) acc h = .ok (acc ++ (xs.filter f).flatMap r) h
  | [], acc, _ => by simp [lcQ]
  | x :: xs, acc, t => by
    obtain ⟨env1, e1, e2, e3⟩ := t x (by simp)
    rw [List.map_cons, lcQ, e1]
    simp only [e2, PR.bind_ok]
    cases hf : f x with
    | false =>
      rw [List.filter_cons_of_neg (by simp [hf])]
      simp only [Bool.false_eq_true, if_false]
      exact lc_flat f r xs acc fun y m => t y (by simp [m])
    | true =>
      simp only [if_true, e3 hf, PR.bind_ok]
      rw [lc_flat f r xs (acc ++ r x) fun y m => t y (by simp [m])]
      simp [List.filter_cons_of_pos hf]
/-- elements that change the heap -/
theorem lc_ex {a : Type} {g : a → Q} {p : Pat} {e : E} {ts : QE → QH → PR Bool} (hts : ∀ env h, ts env h = .ok true h) (Hp : QH → Prop) (R : a → Q → Prop) : ∀ (xs : List a) (acc : List Q) (h : QH), acc.length + xs.length ≤ LINE → Hp h →
    (∀ x ∈ xs, ∀ h, Hp h → ∃ env1, bindQ p (g x) env = some env1 ∧ ∃ y h1, pe C e env1 h = .ok y h1 ∧ R x y ∧ Hp h1) → ∃ ys h1, lcQ p env ts (eltQ C e) (xs.map g) acc h = .ok (acc ++ ys) h1 ∧ R2 R xs ys ∧ Hp h1
  | [], acc, h, l, i, _ => ⟨[], h, by simp [lcQ], .nil, i⟩
  | x :: xs, acc, h, l, i, t => by
    obtain ⟨env1, e1, y, h1, e2, e3, e4⟩ := t x (by simp) h i
    rw [List.length_cons] at l
    obtain ⟨ys, h2, g1, g2, g3⟩ := lc_ex hts Hp R xs (acc ++ [y]) h1 (by simp; omega) e4 fun z m => t z (by simp [m])
    refine ⟨y :: ys, h2, ?_, .cons e3 g2, g3⟩
    rw [List.map_cons, lcQ, e1]
    simp only [hts, PR.bind_ok, if_true, eltQ, e2]
    rw [if_pos (by omega)]
    simp only [PR.bind_ok, g1, List.append_assoc, List.singleton_append]
/-- all(..), any(..) -/
theorem gen_all {a : Type} {g : a → Q} {p : Pat} {elt : QE → QH → PR Q} (P : QE → Prop) (f : a → Bool) : ∀ (xs : List a) (env : QE), P env →
    (∀ x ∈ xs, ∀ env, P env → ∃ env1, bindQ p (g x) env = some env1 ∧ P env1 ∧ elt env1 h = .ok (.bl (f x)) h) → genQ p true elt (xs.map g) env h = .ok (.bl (xs.all f)) h
  | [], env, i, _ => rfl
  | x :: xs, env, i, t => by
    obtain ⟨env1, e1, e2, e3⟩ := t x (by simp) env i
    rw [List.map_cons, genQ, e1]
    simp only [e3]
    cases hf : f x with
    | true => rw [if_pos rfl, gen_all P f xs env1 e2 fun y m => t y (by simp [m])]; simp [hf]
    | false => rw [if_neg (by simp)]; simp [hf]
theorem gen_any {a : Type} {g : a → Q} {p : Pat} {elt : QE → QH → PR Q} (P : QE → Prop) (f : a → Bool) : ∀ (xs : List a) (env : QE), P env →
    (∀ x ∈ xs, ∀ env, P env → ∃ env1, bindQ p (g x) env = some env1 ∧ P env1 ∧ elt env1 h = .ok (.bl (f x)) h) → genQ p false elt (xs.map g) env h = .ok (.bl (xs.any f)) h
  | [], env, i, _ => rfl
  | x :: xs, env, i, t => by
    obtain ⟨env1, e1, e2, e3⟩ := t x (by simp) env i
    rw [List.map_cons, genQ, e1]
    simp only [e3]
    cases hf : f x with
    | false => rw [if_pos rfl, gen_any P f xs env1 e2 fun y m => t y (by simp [m])]; simp [hf]
    | true => rw [if_neg (by simp)]; simp [hf]
/-- a dict comprehension over unlike keys -/
theorem lc_dic {a : Type} {g : a → Q} {p : Pat} {e v : E} {ts : QE → QH → PR Bool} (hts : ∀ env h, ts env h = .ok true h) (kf : a → PV) (rk rv : a → Q) : ∀ (xs : List a) (acc : List (PV × Q)), acc.length + xs.length ≤ LINE →
    (∀ x ∈ xs, keyQ (rk x) = some (kf x)) → (∀ x ∈ xs, hasQ (kf x) acc = false) → xs.Pairwise (fun x y => keq (kf x) (kf y) = false) →
    (∀ x ∈ xs, ∃ env1, bindQ p (g x) env = some env1 ∧ pe C e env1 h = .ok (rk x) h ∧ pe C v env1 h = .ok (rv x) h) → lcQ p env ts (eltK C e v) (xs.map g) acc h = .ok (acc ++ xs.map fun x => (kf x, rv x)) h
  | [], acc, _, _, _, _, _ => by simp [lcQ]
  | x :: xs, acc, l, hk, hn, hp, t => by
    obtain ⟨env1, e1, e2, e3⟩ := t x (by simp)
    rw [List.length_cons] at l
    rw [List.map_cons, lcQ, e1]
    simp only [hts, PR.bind_ok, if_true, eltK, e2, e3, hk x (by simp)]
    rw [if_pos (by omega)]
    simp only [PR.bind_ok]
    have pn : putQ (kf x) (rv x) acc = acc ++ [(kf x, rv x)] := by
      unfold putQ
      rw [hn x (by simp)]
      rfl
    have := List.pairwise_cons.mp hp
    rw [pn, lc_dic hts kf rk rv xs (acc ++ [(kf x, rv x)]) (by simp; omega) (fun y m => hk y (by simp [m])) (fun y m => ?_) this.2 fun y m => t y (by simp [m])]
    · simp
    · have h1 := hn y (by simp [m])
      unfold hasQ at h1 ⊢
      rw [List.any_append, h1]
      simpa using this.1 y m
end
section
variable {C : PC} {env : QE} {h : QH}
theorem lcb_map {a : Type} {g : a → Q} {p : Pat} {ts : List T} {e : E} (f : a → Bool) (r : a → Q) (xs : List a) (l : xs.length ≤ 1000000)
    (t : ∀ x ∈ xs, ∃ env1, bindQ p (g x) env = some env1 ∧ peTs C ts env1 h = .ok (f x) h ∧ (f x = true → pe C e env1 h = .ok (r x) h)) : lcB C p env ts e (xs.map g) [] h = .ok ((xs.filter f).map r) h := by
  have := lc_map (C := C) (env := env) (h := h) (g := g) (p := p) (ts := peTs C ts) (e := e) f r xs [] (by simp; unfold LINE; omega) t
  rwa [List.nil_append] at this
/-- with no tests -/
theorem lcb_all {a : Type} {g : a → Q} {p : Pat} {e : E} (r : a → Q) (xs : List a) (l : xs.length ≤ 1000000)
    (t : ∀ x ∈ xs, ∃ env1, bindQ p (g x) env = some env1 ∧ pe C e env1 h = .ok (r x) h) : lcB C p env [] e (xs.map g) [] h = .ok (xs.map r) h := by
  have := lcb_map (C := C) (env := env) (h := h) (g := g) (p := p) (ts := []) (e := e) (fun _ => true) r xs l fun x m => let ⟨env1, a, b⟩ := t x m; ⟨env1, a, rfl, fun _ => b⟩
  rwa [List.filter_eq_self.mpr (by simp)] at this
theorem lcb_flat {a : Type} {g : a → Q} {p : Pat} {ts : List T} {c2 : Cl} {e : E} (f : a → Bool) (r : a → List Q) (xs : List a)
    (t : ∀ x ∈ xs, ∃ env1, bindQ p (g x) env = some env1 ∧ peTs C ts env1 h = .ok (f x) h ∧ (f x = true → ∀ acc, lc2Q C c2 e acc env1 h = .ok (acc ++ r x) h)) : lc2B C p env ts c2 e (xs.map g) [] h = .ok ((xs.filter f).flatMap r) h := by
  have := lc_flat (env := env) (h := h) (g := g) (p := p) (ts := peTs C ts) (turn := lc2Q C c2 e) f r xs [] t
  rwa [List.nil_append] at this
theorem lcb_ex {a : Type} {g : a → Q} {p : Pat} {e : E} (Hp : QH → Prop) (R : a → Q → Prop) (xs : List a) (l : xs.length ≤ 1000000) (i : Hp h)
    (t : ∀ x ∈ xs, ∀ h, Hp h → ∃ env1, bindQ p (g x) env = some env1 ∧ ∃ y h1, pe C e env1 h = .ok y h1 ∧ R x y ∧ Hp h1) : ∃ ys h1, lcB C p env [] e (xs.map g) [] h = .ok ys h1 ∧ R2 R xs ys ∧ Hp h1 := by
  have := lc_ex (C := C) (env := env) (g := g) (p := p) (e := e) (ts := peTs C []) (fun _ _ => rfl) Hp R xs [] h (by simp; unfold LINE; omega) i t
  unfold lcB
  simpa using this
theorem lcd_new {a : Type} {g : a → Q} {p : Pat} {e v : E} (kf : a → PV) (rk rv : a → Q) (xs : List a) (l : xs.length ≤ 1000000)
    (hk : ∀ x ∈ xs, keyQ (rk x) = some (kf x)) (hp : xs.Pairwise (fun x y => keq (kf x) (kf y) = false))
    (t : ∀ x ∈ xs, ∃ env1, bindQ p (g x) env = some env1 ∧ pe C e env1 h = .ok (rk x) h ∧ pe C v env1 h = .ok (rv x) h) : lcD C p env [] e v (xs.map g) [] h = .ok (xs.map fun x => (kf x, rv x)) h := by
  have := lc_dic (C := C) (env := env) (h := h) (g := g) (p := p) (e := e) (v := v) (ts := peTs C []) (fun _ _ => rfl) kf rk rv xs [] (by simp; unfold LINE; omega) hk (fun _ _ => rfl) hp t
  rwa [List.nil_append] at this
theorem gnb_all {a : Type} {g : a → Q} {p : Pat} {e : E} (P : QE → Prop) (f : a → Bool) (xs : List a) (i : P env)
    (t : ∀ x ∈ xs, ∀ env, P env → ∃ env1, bindQ p (g x) env = some env1 ∧ P env1 ∧ pe C e env1 h = .ok (.bl (f x)) h) : gnB C p true e (xs.map g) env h = .ok (.bl (xs.all f)) h := gen_all P f xs env i t
theorem gnb_any {a : Type} {g : a → Q} {p : Pat} {e : E} (P : QE → Prop) (f : a → Bool) (xs : List a) (i : P env)
    (t : ∀ x ∈ xs, ∀ env, P env → ∃ env1, bindQ p (g x) env = some env1 ∧ P env1 ∧ pe C e env1 h = .ok (.bl (f x)) h) : gnB C p false e (xs.map g) env h = .ok (.bl (xs.any f)) h := gen_any P f xs env i t
theorem for0 {p : Pat} {b : List TM.S} {xs : List Q} (I : Nat → QE → QH → Prop) {F B D : QE → QH → Prop} {R : Q → QH → Prop} (i : I 0 env h)
    (turn : ∀ j x env h, xs[j]? = some x → I j env h → ∃ env1, bindQ p x env = some env1 ∧ PS (pb C b env1 h) (I (j + 1)) F (I (j + 1)) R) (fin : ∀ env h, I xs.length env h → F env h) : PS (forB C p b xs env h) F B D R := pfor0 I i turn fin
theorem whl0 {t : T} {b : List TM.S} (I : Nat → QE → QH → Prop) {F B D : QE → QH → Prop} {R : Q → QH → Prop} (k : Nat) (hk : k ≤ 1000000) (i : I k env h)
    (turn : ∀ k env h, I k env h → ∃ b1 h1, peT C t env h = .ok b1 h1 ∧ if b1 then PS (pb C b env h1) (fun e S => ∃ j, j < k ∧ I j e S) F (fun e S => ∃ j, j < k ∧ I j e S) R else F env h1) : PS (whlB C t b env h) F B D R := pwhl_rule I turn FU k env h (by unfold FU; omega) i
end
end PM

/-! PM, part K: the givers and the small defs of every law. -/
namespace PM
open TM
local macro_rules | `(tactic| simp_arith [$ls:simpLemma,*]) => `(tactic| simp -implicitDefEqProofs only [envQ, CC_cf, CC_ci, CC_gl, CC_own, CC_gf, CI_cf, CI_ci, CI_gl, CI_own, CI_gf, GC_cf, GC_ci, GC_gl, GC_gf, pb, ps_never, ps_pass, ps_brk, ps_cnt, ps_set, ps_seti, ps_setf, ps_dset, ps_aug, ps_expr, ps_ret, ps_retn, ps_ite, ps_whl, ps_for, peG, peL1_b, peL2_b, peD1_b, peA_b, lc2_b, wipeQ, pe, pes, peO, peT, peI, peTs, pexpr, mutE, pmut, pseti, pdset, psetf, isM, isRefQ, Bool.false_eq_true, if_true, if_false, ite_true, ite_false, PR.bind_ok, PR.bind_bad, PR.out_ok, PO.seq_nx, PO.seq_ret, PO.seq_brk, PO.seq_cnt, ofQ_some, ofQ_none, Option.map_some, Option.map_none, List.map_cons, List.map_nil, List.replicate, List.cons_append, List.nil_append, List.length_cons, List.length_nil, List.set, Nat.reduceAdd, Nat.reduceSub, Nat.reduceLT, Nat.reduceLeDiff, Nat.sub_self, decide_true, decide_false, List.getElem?_cons_succ, List.getElem?_cons_zero, bindQ, bindQs, toC, isNonQ, look_non, look_bl, look_int, look_str, look_tup, look_lst, look_dic, look_ins, truthH_bl, truthH_non, truthH_int, truthH_lst, truthH_tup, c_lt, c_le, c_gt, c_ge, c_eq, c_ne, c_eqs, c_nes, c_lts, c_eqb, c_neb, c_isb, c_isnb, c_in1, c_nin1, c_is_non, c_isnt_non, c_is_bl, c_isnt_bl, c_is_int, c_isnt_int, c_is_str, c_isnt_str, c_is_tup, c_isnt_tup, c_is_lst, c_isnt_lst, c_is_dic, c_isnt_dic, c_is_ins, c_isnt_ins, b_add, b_sub, atH_lst, atH_tup, atI_cast, atI_0, atI_1, atI_2, atI_3, cut_lst, cut_tup, len_lst, len_tup, bi_tup, bi_tup2, bi_list, bi_list2, bi_int, bi_min, bi_max, items_lst, items_tup, items_str, isiQ, isi1, Bool.or_true, Bool.true_or, Bool.or_false, Bool.false_or, Bool.not_true, Bool.not_false, Bool.true_and, Bool.and_true, Bool.false_and, Bool.and_false, Nat.zero_le,List.length_map, beq_self_eq_true, $ls,*])
theorem lev {K : Nat} {n : Nat} (h : n + 1 ≤ K) : ∃ k, K = k + 1 ∧ n ≤ k := ⟨K - 1, by omega, by omega⟩
def sp (n : Nat) : QH := [.lst [.int (n : Nat)]]
def rq (row : List Int) : Q := .lst (row.map .int)
abbrev sq (ws : List (List Nat)) : List Q := ws.map Q.str
theorem sq_len {ws} : (sq ws).length = ws.length := List.length_map _
section
variable {fs : List Fn} {gl : Nat → PV} {K t : Nat}
theorem need_q (hf : fs[t]? = some IR_need) (hK : 1 ≤ K) (v : Q) (h : QH) : callQ fs gl K t [.bl true, v] h = .ok .non h := by
  obtain ⟨k, rfl, hk⟩ := lev hK
  refine call_eq hf rfl ?_
  simp_arith [IR_need]
  (first | exact ⟨rfl, rfl⟩ | exact ⟨trivial, rfl⟩ | exact ⟨rfl, trivial⟩ | exact ⟨trivial, trivial⟩ | exact rfl)
theorem fmod_rng (a : Int) {b : Nat} (h : 0 < b) : ∃ d : Nat, d < b ∧ a.fmod (b : Int) = (d : Int) := by
  have h1 := Int.fmod_nonneg_of_pos a (show (0 : Int) < b by omega)
  have h2 := Int.fmod_lt_of_pos a (show (0 : Int) < b by omega)
  exact ⟨(a.fmod b).toNat, by omega, by omega⟩
theorem nz {b : Nat} (h : 0 < b) : (((b : Nat) : Int) == 0) = false := by rw [beq_eq_false_iff_ne]; omega
theorem draw_q (hf : fs[t]? = some IR_draw) (hK : 1 ≤ K) {row : List Int} (hx : row ≠ []) {lim : Nat} (hl : 0 < lim) (n : Nat) (h : QH) : ∃ d : Nat, d < lim ∧ callQ fs gl K t [rq row, .int n, .int lim] h = .ok (.int d) h := by
  obtain ⟨k, rfl, hk⟩ := lev hK
  have hp : 0 < row.length := List.length_pos_iff.mpr hx
  by_cases c : n < row.length
  · obtain ⟨d, d1, d2⟩ := fmod_rng row[n] hl
    refine ⟨d, d1, call_eq hf rfl ?_⟩
    have e : decide ((n : Int) < (row.length : Int)) = true := by simp [c]
    have a : (List.map Q.int row)[n]? = some (.int row[n]) := by simp [c]
    simp_arith [IR_draw, rq, e, a, b_mod (nz hl), d2]
    (first | exact ⟨rfl, rfl⟩ | exact ⟨trivial, rfl⟩ | exact ⟨rfl, trivial⟩ | exact ⟨trivial, trivial⟩ | exact rfl)
  · obtain ⟨m, m1, m2⟩ := fmod_rng n hp
    have e : decide ((n : Int) < (row.length : Int)) = false := by simp; omega
    have a : (List.map Q.int row)[m]? = some (.int row[m]) := by simp [m1]
    have m2' : (n : Int).fmod (row.length : Int) = m := m2
    obtain ⟨d, d1, d2⟩ := fmod_rng ((((row[m] * 40692 + (n : Int) * 7919 + 3).fmod 2147483399 * 48271 + (n : Int)).fmod 2147483647)) hl
    refine ⟨d, d1, call_eq hf rfl ?_⟩
    have ml : 0 < row.length := hp
    simp_arith [IR_draw, rq, e, a, b_mod (nz hl), b_mod (nz ml), m2', b_mul (mul_lit _ 40692 rfl), b_mul (mul_lit _ 7919 rfl), b_mul (mul_lit _ 48271 rfl), b_mod (show ((2147483399 : Int) == 0) = false from rfl), b_mod (show ((2147483647 : Int) == 0) = false from rfl), d2]
    (first | exact ⟨rfl, rfl⟩ | exact ⟨trivial, rfl⟩ | exact ⟨rfl, trivial⟩ | exact ⟨trivial, trivial⟩ | exact rfl)
/-- what _law_take does at a level -/
def TakeQ (fs : List Fn) (gl : Nat → PV) (K tk : Nat) (row : List Int) : Prop := ∀ n lim : Nat, 0 < lim → ∃ d : Nat, d < lim ∧ callQ fs gl K tk [rq row, .ref 0, .int lim] (sp n) = .ok (.int d) (sp (n + 1))
theorem take_q {dr : Nat} (hf : fs[t]? = some (IR_take dr)) (h2 : fs[dr]? = some IR_draw) (hK : 2 ≤ K) {row : List Int} (hx : row ≠ []) : TakeQ fs gl K t row := by
  intro n lim hl
  obtain ⟨k, rfl, hk⟩ := lev hK
  obtain ⟨d, d1, d2⟩ := draw_q (gl := gl) h2 hk hx hl n (sp (n + 1))
  refine ⟨d, d1, call_eq hf rfl ?_⟩
  have i1 : L2.ixN 1 0 = some 0 := rfl
  have i2 : ((n : Int) + 1 - 1) = n := by omega
  simp_arith [IR_take, sp, look_ref, atH, atQ, i1]
  have e : [Q.lst [Q.int ((n : Nat) + 1)]] = sp (n + 1) := rfl
  rw [e, i2, d2]
  simp_arith []
  (first | exact ⟨rfl, rfl⟩ | exact ⟨trivial, rfl⟩ | exact ⟨rfl, trivial⟩ | exact ⟨trivial, trivial⟩ | exact rfl)
/-! ### _law_text -/
theorem text_q {tk : Nat} (hf : fs[t]? = some (IR_text tk)) {k : Nat} (hK : K = k + 1) {row : List Int} (T : TakeQ fs gl k tk row) {al : List Nat} {least most : Nat} (ha : al ≠ []) (hal : al.length ≤ 1000) (hm : least ≤ most) (hm2 : most ≤ 1000) (n : Nat) :
    ∃ (cs : List Nat) (n' : Nat), callQ fs gl K t [rq row, .ref 0, .str al, .int least, .int most] (sp n) = .ok (.str cs) (sp n') ∧ least ≤ cs.length ∧ cs.length ≤ most ∧ ∀ c ∈ cs, c ∈ al := by
  subst hK
  obtain ⟨d, d1, d2⟩ := T n (most - least + 1) (by omega)
  have key : ∃ p h', callQ fs gl (k + 1) t [rq row, .ref 0, .str al, .int least, .int most] (sp n) = .ok p h' ∧ ∃ (cs : List Nat) (n' : Nat), p = .str cs ∧ h' = sp n' ∧ least ≤ cs.length ∧ cs.length ≤ most ∧ ∀ c ∈ cs, c ∈ al := by
    refine call_ex hf rfl ?_
    have e1 : ((most : Int) - (least : Int) + 1) = ((most - least + 1 : Nat) : Int) := by omega
    have e2 : ((least : Int) + (d : Int)) = ((least + d : Nat) : Int) := by omega
    simp_arith [IR_text, e1, d2, e2, rng_ok (show least + d ≤ 1000000 by omega)]
    refine PS.seq (for0 (fun j e h => ∃ x6 cs n', e = [some (rq row), some (.ref 0), some (.str al), some (.int least), some (.int most), some (.str cs), x6] ∧ h = sp n' ∧ cs.length = j ∧ ∀ c ∈ cs, c ∈ al) ⟨none, [], n + 1, rfl, rfl, rfl, by simp⟩ ?_ ?_)
    · rintro j x env h g ⟨x6, cs, n', rfl, rfl, h1, h2⟩
      obtain ⟨lj, rfl⟩ := rng_get g
      refine ⟨_, rfl, ?_⟩
      obtain ⟨d', a1, a2⟩ := T n' al.length (List.length_pos_iff.mpr ha)
      have g2 : L2.atI al (d' : Int) = some al[d'] := by rw [atI_cast]; simp [a1]
      simp_arith [len_str (show al.length ≤ LINE by unfold LINE; omega), a2, atH_str (show al.length ≤ LINE by unfold LINE; omega), g2, b_str (show cs.length + [al[d']].length ≤ LINE by unfold LINE; simp; omega)]
      exact ⟨_, _, _, rfl, rfl, by simp [h1], fun c hc => by
        rcases List.mem_append.mp hc with hc | hc
        · exact h2 c hc
        · rw [List.mem_singleton.mp hc]; exact List.getElem_mem _⟩
    · rintro env h ⟨x6, cs, n', rfl, rfl, h1, h2⟩
      rw [rng_len] at h1
      simp_arith []
      exact ⟨cs, n', rfl, rfl, by omega, by omega, h2⟩
  obtain ⟨p, h', e, cs, n', rfl, rfl, r⟩ := key
  exact ⟨cs, n', e, r⟩
/-- several drawn texts by a comprehension -/
theorem texts_q {tk tx : Nat} (hf : fs[t]? = some (IR_texts tk tx)) (h0 : fs[tx]? = some (IR_text tk)) {k : Nat} (hK : K = k + 2) {row : List Int} (T : TakeQ fs gl k tk row) (T1 : TakeQ fs gl (k + 1) tk row) {al : List Nat} {many least most : Nat} (ha : al ≠ []) (hal : al.length ≤ 1000) (hm : least ≤ most) (hm2 : most ≤ 1000) (hk : many ≤ 1000) (n : Nat) :
    ∃ (ws : List (List Nat)) (n' : Nat), callQ fs gl K t [rq row, .ref 0, .str al, .int many, .int least, .int most] (sp n) = .ok (.tup (sq ws)) (sp n') ∧ ws.length ≤ many ∧ Txts al least most ws := by
  subst hK
  obtain ⟨d, d1, d2⟩ := T1 n (many + 1) (by omega)
  have e1 : ((many : Int) + 1) = ((many + 1 : Nat) : Int) := by omega
  obtain ⟨ys, h1, g1, g2, n', rfl⟩ := lcb_ex (C := GC fs gl (k + 1) [gTexts tk tx] 2) (g := fun (x : Nat) => Q.int (x : Nat)) (p := .nm 6) (env := [some (rq row), some (.ref 0), some (.str al), some (.int many), some (.int least), some (.int most), none]) (e := .call tx [(.var 0), (.var 1), (.var 2), (.var 4), (.var 5)]) (fun h => ∃ n, h = sp n) (fun _ y => ∃ cs, y = .str cs ∧ least ≤ cs.length ∧ cs.length ≤ most ∧ ∀ c ∈ cs, c ∈ al) (List.range d) (h := sp (n + 1)) (by simp; omega) ⟨_, rfl⟩ (by
      rintro x hx h ⟨n, rfl⟩
      obtain ⟨cs, n', e, r⟩ := text_q (gl := gl) (t := tx) h0 rfl T ha hal hm hm2 n
      refine ⟨_, rfl, .str cs, _, ?_, ⟨cs, rfl, r⟩, n', rfl⟩
      simp_arith [e])
  have hy : ∃ ws : List (List Nat), ys = sq ws ∧ ws.length = d ∧ Txts al least most ws := by
    have l : d = ys.length := by have := g2.len; simpa using this
    clear g1
    have : ∀ (xs : List Nat) (ys : List Q), R2 (fun _ y => ∃ cs, y = .str cs ∧ least ≤ cs.length ∧ cs.length ≤ most ∧ ∀ c ∈ cs, c ∈ al) xs ys → ∃ ws : List (List Nat), ys = sq ws ∧ Txts al least most ws := by
      intro xs ys r
      induction r with
      | nil => exact ⟨[], rfl, ⟨by simp⟩⟩
      | cons a _ ih =>
        obtain ⟨cs, rfl, r⟩ := a
        obtain ⟨ws, rfl, w⟩ := ih
        exact ⟨cs :: ws, rfl, ⟨fun x hx => by
          rcases List.mem_cons.mp hx with rfl | hx
          · exact r
          · exact w.all x hx⟩⟩
    obtain ⟨ws, rfl, w⟩ := this _ _ g2
    exact ⟨ws, rfl, by rw [l, sq_len], w⟩
  obtain ⟨ws, rfl, w1, w2⟩ := hy
  refine ⟨ws, n', call_eq hf rfl ?_, by omega, w2⟩
  have g1' := g1
  unfold gTexts at g1'
  simp_arith [IR_texts, gTexts, e1, d2, rng_ok (show d ≤ 1000000 by omega), g1']
  (first | exact ⟨rfl, rfl⟩ | exact ⟨trivial, rfl⟩ | exact ⟨rfl, trivial⟩ | exact ⟨trivial, trivial⟩ | exact rfl)
theorem alphabet_q {tk : Nat} (hf : fs[t]? = some (IR_alphabet tk)) {k : Nat} (hK : K = k + 1) {row : List Int} (T : TakeQ fs gl k tk row) (n : Nat) :
    ∃ (al : List Nat) (n' : Nat), callQ fs gl K t [rq row, .ref 0] (sp n) = .ok (.str al) (sp n') ∧ al ∈ alphs := by
  subst hK
  obtain ⟨d, d1, d2⟩ := T n 4 (by omega)
  have hd : d < alphs.length := d1
  have d2' : callQ fs gl k tk [rq row, .ref 0, .int 4] (sp n) = .ok (.int d) (sp (n + 1)) := d2
  have a : ([Q.str [97, 98], .str [97, 98, 99], .str [97, 98, 99, 100], .str [97, 101, 105, 111, 115, 116]] : List Q)[d]? = some (.str alphs[d]) := by
    show (alphs.map Q.str)[d]? = _
    simp [hd]
  refine ⟨alphs[d], n + 1, call_eq hf rfl ?_, List.getElem_mem hd⟩
  simp_arith [IR_alphabet, show (4 ≤ LINE) = True from eq_true (by decide), d2', a]
  (first | exact ⟨rfl, rfl⟩ | exact ⟨trivial, rfl⟩ | exact ⟨rfl, trivial⟩ | exact ⟨trivial, trivial⟩ | exact rfl)
theorem words_of_q {ts tx tk ta : Nat} (hf : fs[t]? = some (IR_words_of ts ta)) (ha : fs[ta]? = some (IR_alphabet tk)) (hs : fs[ts]? = some (IR_texts tk tx)) (h0 : fs[tx]? = some (IR_text tk)) {k : Nat} (hK : K = k + 3) {row : List Int} (T : TakeQ fs gl k tk row) (T1 : TakeQ fs gl (k + 1) tk row) {many least most : Nat} (hm : least ≤ most) (hm2 : most ≤ 1000) (hk : many ≤ 1000) (n : Nat) :
    ∃ (ws : List (List Nat)) (n' : Nat), callQ fs gl K t [rq row, .ref 0, .int many, .int least, .int most] (sp n) = .ok (.tup (sq ws)) (sp n') ∧ ws.length ≤ many ∧ Txts alpha least most ws := by
  subst hK
  obtain ⟨al, n1, a1, a2⟩ := alphabet_q (gl := gl) (K := k + 2) ha rfl T1 n
  obtain ⟨e1, e2, e3⟩ := alphs_ok a2
  obtain ⟨ws, n2, b1, b2, b3⟩ := texts_q (gl := gl) (K := k + 2) hs h0 rfl T T1 (many := many) e1 (by omega) hm hm2 hk n1
  refine ⟨ws, n2, call_eq hf rfl ?_, b2, ⟨fun w hw => ⟨(b3.all w hw).1, (b3.all w hw).2.1, fun c hc => e3 c ((b3.all w hw).2.2 c hc)⟩⟩⟩
  simp_arith [IR_words_of, a1, b1]
  (first | exact ⟨rfl, rfl⟩ | exact ⟨trivial, rfl⟩ | exact ⟨rfl, trivial⟩ | exact ⟨trivial, trivial⟩ | exact rfl)
/-! ### _law_so -/
mutual
/-- plain values, short -/
def plQ : Q → Bool
  | .tup xs => decide (xs.length ≤ 1000000) && plQs xs
  | .lst _ => false
  | .dic _ => false
  | .ins _ _ => false
  | .ref _ => false
  | _ => true
def plQs : List Q → Bool
  | [] => true
  | x :: xs => plQ x && plQs xs
end
mutual
def dpQ : Q → Nat
  | .tup xs => dpQs xs + 1
  | _ => 0
def dpQs : List Q → Nat
  | [] => 0
  | x :: xs => max (dpQ x) (dpQs xs)
end
theorem plQs_get : ∀ {xs : List Q} {i : Nat} {p : Q}, plQs xs = true → xs[i]? = some p → plQ p = true
  | [], i, p, _, h => by simp at h
  | x :: xs, 0, p, h, e => by simp [plQs] at h e; rw [← e]; exact h.1
  | x :: xs, i + 1, p, h, e => by simp [plQs] at h; exact plQs_get h.2 (by simpa using e)
theorem dpQs_get : ∀ {xs : List Q} {i : Nat} {p : Q}, xs[i]? = some p → dpQ p ≤ dpQs xs
  | [], i, p, h => by simp at h
  | x :: xs, 0, p, e => by simp at e; rw [e]; simp [dpQs]; omega
  | x :: xs, i + 1, p, e => by have := dpQs_get (xs := xs) (i := i) (p := p) (by simpa using e); simp [dpQs]; omega
theorem plQs_all {xs : List Q} : (∀ x ∈ xs, plQ x = true) → plQs xs = true := by
  induction xs with
  | nil => intro _; rfl
  | cons x xs ih => intro h; simp [plQs, h x (by simp), ih fun y m => h y (by simp [m])]
theorem dpQs_le {xs : List Q} {n : Nat} : (∀ x ∈ xs, dpQ x ≤ n) → dpQs xs ≤ n := by
  induction xs with
  | nil => intro _; exact Nat.zero_le _
  | cons x xs ih =>
    intro h
    have h1 := h x (by simp)
    have h2 := ih fun y m => h y (by simp [m])
    simp only [dpQs]
    omega
theorem pl_tup {xs : List Q} {n : Nat} (hl : xs.length ≤ 1000000) (h : ∀ x ∈ xs, plQ x = true ∧ dpQ x ≤ n) : plQ (.tup xs) = true ∧ dpQ (.tup xs) ≤ n + 1 := by
  refine ⟨?_, ?_⟩
  · simp only [plQ, Bool.and_eq_true, decide_eq_true_eq]
    exact ⟨hl, plQs_all fun x m => (h x m).1⟩
  · simp only [dpQ]
    have := dpQs_le fun x m => (h x m).2
    omega
theorem pl_strs {ws : List (List Nat)} (hl : ws.length ≤ 1000000) : plQ (.tup (sq ws)) = true ∧ dpQ (.tup (sq ws)) ≤ 1 :=
  pl_tup (n := 0) (by rw [sq_len]; exact hl) fun x m => by
    obtain ⟨w, _, rfl⟩ := List.mem_map.mp m
    exact ⟨rfl, Nat.le_refl _⟩
theorem so_q (hf : fs[t]? = some (IR_so t)) : ∀ (K : Nat) (p : Q) (h : QH), dpQ p < K → plQ p = true → callQ fs gl K t [p, p] h = .ok (.bl true) h := by
  intro K
  induction K with
  | zero => intro p h hd; omega
  | succ k ih =>
    intro p h hd hs
    refine call_eq hf rfl ?_
    cases p with
    | tup xs =>
      simp only [plQ, Bool.and_eq_true, decide_eq_true_eq] at hs
      have hne : ((xs.length : Int) == (xs.length : Int)) = true := by simp
      simp_arith [IR_so, hne, rng_ok hs.1, show (Ty.tuple == Ty.tuple) = true from rfl]
      refine PS.seq (PS.seq ?_)
      refine for0 (fun k e h' => h' = h ∧ ∃ x2, e = [some (.tup xs), some (.tup xs), x2]) ⟨rfl, _, rfl⟩ ?_ ?_
      · rintro j x env h' g ⟨rfl, x2, rfl⟩
        obtain ⟨lj, rfl⟩ := rng_get g
        refine ⟨_, rfl, ?_⟩
        have a1 : xs[j]? = some xs[j] := by simp [lj]
        have c1 := ih xs[j] h' (by have := dpQs_get (xs := xs) (i := j) (p := xs[j]) (by simp [lj]); simp [dpQ] at hd; omega) (plQs_get hs.2 (i := j) (by simp [lj]))
        simp_arith [a1, c1]
        exact ⟨rfl, _, rfl⟩
      · rintro env h' ⟨rfl, x2, rfl⟩
        skip
        (first | exact ⟨rfl, rfl⟩ | exact ⟨trivial, rfl⟩ | exact ⟨rfl, trivial⟩ | exact ⟨trivial, trivial⟩ | exact rfl)
    | lst _ => simp [plQ] at hs
    | dic _ => simp [plQ] at hs
    | ins _ _ => simp [plQ] at hs
    | ref _ => simp [plQ] at hs
    | non =>
      simp_arith [IR_so]
      (first | exact ⟨rfl, rfl⟩ | exact ⟨trivial, rfl⟩ | exact ⟨rfl, trivial⟩ | exact ⟨trivial, trivial⟩ | exact rfl)
    | bl b =>
      simp_arith [IR_so, show (Ty.tuple == Ty.int) = false from rfl, show (Ty.tuple == Ty.bool) = false from rfl, show (Ty.bool == Ty.int) = false from rfl, show (Ty.bool == Ty.bool) = true from rfl, beq_self_eq_true]
      (first | exact ⟨rfl, rfl⟩ | exact ⟨trivial, rfl⟩ | exact ⟨rfl, trivial⟩ | exact ⟨trivial, trivial⟩ | exact rfl)
    | int i =>
      simp_arith [IR_so, show (Ty.tuple == Ty.int) = false from rfl, show (Ty.int == Ty.int) = true from rfl, show (Ty.bool == Ty.int) = false from rfl, beq_self_eq_true]
      (first | exact ⟨rfl, rfl⟩ | exact ⟨trivial, rfl⟩ | exact ⟨rfl, trivial⟩ | exact ⟨trivial, trivial⟩ | exact rfl)
    | str cs =>
      simp_arith [IR_so, show (Ty.tuple == Ty.str) = false from rfl, show (Ty.int == Ty.str) = false from rfl, show (Ty.bool == Ty.str) = false from rfl, show (Ty.str == Ty.str) = true from rfl, beq_self_eq_true]
      (first | exact ⟨rfl, rfl⟩ | exact ⟨trivial, rfl⟩ | exact ⟨rfl, trivial⟩ | exact ⟨trivial, trivial⟩ | exact rfl)
/-! ### _law_loose -/
mutual
def looseV : Q → Nat → Q
  | .tup xs, n => if n % 2 = 0 then .lst (looseL xs (n + 1)) else .tup (looseL xs (n + 1))
  | q, _ => q
def looseL : List Q → Nat → List Q
  | [], _ => []
  | x :: xs, n => looseV x n :: looseL xs n
end
theorem looseL_map : ∀ (xs : List Q) (n : Nat), looseL xs n = xs.map fun x => looseV x n
  | [], _ => rfl
  | x :: xs, n => by rw [looseL, looseL_map xs n]; rfl
theorem loose_q (hf : fs[t]? = some (IR_loose t)) : ∀ (K : Nat) (p : Q) (n : Nat) (h : QH), dpQ p < K → plQ p = true → callQ fs gl K t [p, .int n] h = .ok (looseV p n) h := by
  intro K
  induction K with
  | zero => intro p n h hd; omega
  | succ k ih =>
    intro p n h hd hs
    refine call_eq hf rfl ?_
    cases p with
    | tup xs =>
      simp only [plQ, Bool.and_eq_true, decide_eq_true_eq] at hs
      have lc := lcb_all (C := GC fs gl k (IR_loose t).gens 2) (h := h) (g := id) (p := .nm 3) (env := [some (.tup xs), some (.int n), none, none]) (e := .call t [(.var 3), (.bin .add (.var 1) (.cst (.int 1)))]) (fun x => looseV x (n + 1)) xs hs.1 (by
          intro x hx
          refine ⟨_, rfl, ?_⟩
          obtain ⟨j, lj, rfl⟩ := List.mem_iff_getElem.mp hx
          have c1 := ih xs[j] (n + 1) h (by have := dpQs_get (xs := xs) (i := j) (p := xs[j]) (by simp [lj]); simp [dpQ] at hd; omega) (plQs_get hs.2 (i := j) (by simp [lj]))
          have c1 : callQ fs gl k t [xs[j], .int ((n : Int) + 1)] h = .ok (looseV xs[j] (n + 1)) h := c1
          simp_arith [id, c1])
      rw [List.map_id] at lc
      have fm := fmod_nat n
      simp only [IR_loose] at lc
      simp_arith [IR_loose, show (Ty.tuple == Ty.tuple) = true from rfl, short_ok' (show xs.length ≤ LINE by unfold LINE; omega), lc, b_mod (show ((2 : Int) == 0) = false from rfl), fm]
      rw [looseV]
      by_cases z : n % 2 = 0
      · rw [if_pos z]
        simp only [z, beq_self_eq_true, if_true]
        simp_arith []
        rw [looseL_map]
        (first | exact ⟨rfl, rfl⟩ | exact ⟨trivial, rfl⟩ | exact ⟨rfl, trivial⟩ | exact ⟨trivial, trivial⟩ | exact rfl)
      · rw [if_neg z]
        have z2 : (n % 2 == 0) = false := by simpa using z
        simp only [z2, Bool.false_eq_true, if_false]
        simp_arith []
        rw [looseL_map]
        (first | exact ⟨rfl, rfl⟩ | exact ⟨trivial, rfl⟩ | exact ⟨rfl, trivial⟩ | exact ⟨trivial, trivial⟩ | exact rfl)
    | lst _ => simp [plQ] at hs
    | dic _ => simp [plQ] at hs
    | ins _ _ => simp [plQ] at hs
    | ref _ => simp [plQ] at hs
    | non =>
      simp_arith [IR_loose]
      (first | exact ⟨rfl, rfl⟩ | exact ⟨trivial, rfl⟩ | exact ⟨rfl, trivial⟩ | exact ⟨trivial, trivial⟩ | exact rfl)
    | bl b =>
      simp_arith [IR_loose, show (Ty.tuple == Ty.int) = false from rfl, show (Ty.tuple == Ty.bool) = false from rfl]
      (first | exact ⟨rfl, rfl⟩ | exact ⟨trivial, rfl⟩ | exact ⟨rfl, trivial⟩ | exact ⟨trivial, trivial⟩ | exact rfl)
    | int i =>
      simp_arith [IR_loose, show (Ty.tuple == Ty.int) = false from rfl]
      (first | exact ⟨rfl, rfl⟩ | exact ⟨trivial, rfl⟩ | exact ⟨rfl, trivial⟩ | exact ⟨trivial, trivial⟩ | exact rfl)
    | str cs =>
      simp_arith [IR_loose, show (Ty.tuple == Ty.str) = false from rfl]
      (first | exact ⟨rfl, rfl⟩ | exact ⟨trivial, rfl⟩ | exact ⟨rfl, trivial⟩ | exact ⟨trivial, trivial⟩ | exact rfl)
end
end PM

/-! PM, part L: rows put in order, mixed; checks of values; the book. -/
namespace PM
open TM
local macro_rules | `(tactic| simp_arith [$ls:simpLemma,*]) => `(tactic| simp -implicitDefEqProofs only [envQ, CC_cf, CC_ci, CC_gl, CC_own, CC_gf, CI_cf, CI_ci, CI_gl, CI_own, CI_gf, GC_cf, GC_ci, GC_gl, GC_gf, pb, ps_never, ps_pass, ps_brk, ps_cnt, ps_set, ps_seti, ps_setf, ps_dset, ps_aug, ps_expr, ps_ret, ps_retn, ps_ite, ps_whl, ps_for, peG, peL1_b, peL2_b, peD1_b, peA_b, lc2_b, wipeQ, pe, pes, peO, peT, peI, peTs, pexpr, mutE, pmut, pseti, pdset, psetf, isM, isRefQ, Bool.false_eq_true, if_true, if_false, ite_true, ite_false, PR.bind_ok, PR.bind_bad, PR.out_ok, PO.seq_nx, PO.seq_ret, PO.seq_brk, PO.seq_cnt, ofQ_some, ofQ_none, Option.map_some, Option.map_none, List.map_cons, List.map_nil, List.replicate, List.cons_append, List.nil_append, List.length_cons, List.length_nil, List.set, Nat.reduceAdd, Nat.reduceSub, Nat.reduceLT, Nat.reduceLeDiff, Nat.sub_self, decide_true, decide_false, List.getElem?_cons_succ, List.getElem?_cons_zero, bindQ, bindQs, toC, isNonQ, look_non, look_bl, look_int, look_str, look_tup, look_lst, look_dic, look_ins, truthH_bl, truthH_non, truthH_int, truthH_lst, truthH_tup, c_lt, c_le, c_gt, c_ge, c_eq, c_ne, c_eqs, c_nes, c_lts, c_eqb, c_neb, c_isb, c_isnb, c_in1, c_nin1, c_is_non, c_isnt_non, c_is_bl, c_isnt_bl, c_is_int, c_isnt_int, c_is_str, c_isnt_str, c_is_tup, c_isnt_tup, c_is_lst, c_isnt_lst, c_is_dic, c_isnt_dic, c_is_ins, c_isnt_ins, b_add, b_sub, atH_lst, atH_tup, atI_cast, atI_0, atI_1, atI_2, atI_3, cut_lst, cut_tup, len_lst, len_tup, bi_tup, bi_tup2, bi_list, bi_list2, bi_int, bi_min, bi_max, items_lst, items_tup, items_str, isiQ, isi1, Bool.or_true, Bool.true_or, Bool.or_false, Bool.false_or, Bool.not_true, Bool.not_false, Bool.true_and, Bool.and_true, Bool.false_and, Bool.and_false, Nat.zero_le,List.length_map, beq_self_eq_true, $ls,*])
/-! ### _law_ordered -/
def posG {a : Type} (lt : a → a → Bool) (x : a) : List a → Nat
  | [] => 0
  | y :: l => if lt y x then posG lt x l + 1 else 0
def insG {a : Type} [DecidableEq a] (lt : a → a → Bool) (x : a) (l : List a) : List a := if l[posG lt x l]? = some x then l else l.take (posG lt x l) ++ [x] ++ l.drop (posG lt x l)
def ordG {a : Type} [DecidableEq a] (lt : a → a → Bool) (ys : List a) : List a := ys.foldl (fun acc x => insG lt x acc) []
theorem posG_le {a : Type} {lt : a → a → Bool} (x : a) : ∀ l : List a, posG lt x l ≤ l.length
  | [] => Nat.le_refl _
  | y :: l => by
    have ih := posG_le (lt := lt) x l
    simp only [posG]
    split <;> simp <;> omega
theorem posG_lt {a : Type} {lt : a → a → Bool} (x : a) : ∀ (l : List a) (j : Nat) (y : a), j < posG lt x l → l[j]? = some y → lt y x = true
  | [], j, y, h, _ => by simp [posG] at h
  | z :: l, 0, y, h, e => by
    simp only [posG] at h
    simp at e
    subst e
    split at h
    · assumption
    · omega
  | z :: l, j + 1, y, h, e => by
    simp only [posG] at h
    split at h
    · exact posG_lt x l j y (by omega) (by simpa using e)
    · omega
theorem posG_at {a : Type} {lt : a → a → Bool} (x : a) : ∀ (l : List a) (y : a), l[posG lt x l]? = some y → lt y x = false
  | [], y, e => by simp [posG] at e
  | z :: l, y, e => by
    simp only [posG] at e
    split at e
    · exact posG_at x l y (by simpa using e)
    · rename_i h
      simp at e
      subst e
      simpa using h
theorem insG_len {a : Type} [DecidableEq a] {lt : a → a → Bool} (x : a) (l : List a) : (insG lt x l).length ≤ l.length + 1 := by
  have := posG_le (lt := lt) x l
  unfold insG
  split
  · omega
  · simp; omega
theorem ordG_len {a : Type} [DecidableEq a] {lt : a → a → Bool} (ys : List a) : (ordG lt ys).length ≤ ys.length := by
  have go : ∀ (ys acc : List a), (ys.foldl (fun acc x => insG lt x acc) acc).length ≤ acc.length + ys.length := by
    intro ys
    induction ys with
    | nil => intro acc; simp
    | cons y ys ih =>
      intro acc
      have h1 := ih (insG lt y acc)
      have h2 := insG_len (lt := lt) y acc
      simp only [List.foldl_cons, List.length_cons]
      omega
  have := go ys []
  unfold ordG
  simpa using this
theorem insG_mem {a : Type} [DecidableEq a] {lt : a → a → Bool} {x z : a} {l : List a} : z ∈ insG lt x l ↔ z = x ∨ z ∈ l := by
  unfold insG
  split
  · rename_i h
    have hx := List.mem_of_getElem? h
    constructor
    · exact .inr
    · rintro (rfl | m)
      · exact hx
      · exact m
  · have : z ∈ l ↔ z ∈ l.take (posG lt x l) ∨ z ∈ l.drop (posG lt x l) := by
      rw [← List.mem_append, List.take_append_drop]
    rw [this]
    simp only [List.mem_append, List.mem_singleton]
    constructor
    · rintro ((m | m) | m)
      · exact .inr (.inl m)
      · exact .inl m
      · exact .inr (.inr m)
    · rintro (m | m | m)
      · exact .inl (.inr m)
      · exact .inl (.inl m)
      · exact .inr m
theorem ordG_mem {a : Type} [DecidableEq a] {lt : a → a → Bool} {z : a} {ys : List a} : z ∈ ordG lt ys ↔ z ∈ ys := by
  have go : ∀ (ys acc : List a), z ∈ ys.foldl (fun acc x => insG lt x acc) acc ↔ z ∈ acc ∨ z ∈ ys := by
    intro ys
    induction ys with
    | nil => intro acc; simp
    | cons y ys ih =>
      intro acc
      rw [List.foldl_cons, ih, insG_mem, List.mem_cons]
      constructor
      · rintro ((m | m) | m)
        · exact .inr (.inl m)
        · exact .inl m
        · exact .inr (.inr m)
      · rintro (m | m | m)
        · exact .inl (.inr m)
        · exact .inl (.inl m)
        · exact .inr m
  have := go ys []
  unfold ordG
  simpa using this
theorem ordG_nil {a : Type} [DecidableEq a] {lt : a → a → Bool} : ordG lt ([] : List a) = [] := rfl
theorem insU_G (x : List Nat) (l : List (List Nat)) : insG ltN x l = insU x l := by
  have p : ∀ l : List (List Nat), posG ltN x l = posU x l := by
    intro l
    induction l with
    | nil => rfl
    | cons y l ih => simp only [posG, posU, ih]
  rw [insU_pos]
  unfold insG
  rw [p]
theorem ordU_G (ys : List (List Nat)) : ordG ltN ys = ordU ys := by
  unfold ordG ordU
  congr 1
  funext acc x
  exact insU_G x acc
section
variable {fs : List Fn} {gl : Nat → PV} {K t : Nat}
/-- a row of values -/
def Row (v : Q) (xs : List Q) : Prop := v = .lst xs ∨ v = .tup xs
theorem Row.items {v : Q} {xs : List Q} (r : Row v xs) : itemsQ v = some xs := by rcases r with rfl | rfl <;> rfl
theorem Row.isi {v : Q} {xs : List Q} (r : Row v xs) : ∃ c, (∀ h, look h v = some c) ∧ isiQ c [.list, .tuple] = some true ∧ lenQ c = some (xs.length : Int) := by
  rcases r with rfl | rfl
  · exact ⟨_, fun _ => rfl, rfl, rfl⟩
  · exact ⟨_, fun _ => rfl, rfl, rfl⟩
theorem Row.len {v : Q} {xs : List Q} {h : QH} (r : Row v xs) : biH .len [v] h = .ok (.int xs.length) h := by rcases r with rfl | rfl <;> rfl
theorem Row.islt {v : Q} {xs : List Q} {h : QH} (r : Row v xs) : (match look h v with | some q => ofQ ((isiQ q [.list, .tuple]).map Q.bl) h | none => .bad) = .ok (.bl true) h := by rcases r with rfl | rfl <;> rfl
theorem Row.at {v : Q} {xs : List Q} {h : QH} {k : Int} (r : Row v xs) : atH v (.int k) h = L2.atI xs k := by rcases r with rfl | rfl <;> rfl
theorem ordered_q {a : Type} [DecidableEq a] (hf : fs[t]? = some IR_ordered) (hK : 1 ≤ K) {g : a → Q} {lt : a → a → Bool} {ys : List a} {v : Q} (h : QH) (r : Row v (ys.map g)) (hl : ys.length ≤ 100000)
    (h1 : ∀ x ∈ ys, ∀ y ∈ ys, cmpH .lt (g x) (g y) h = some (lt x y)) (h2_ne : ∀ x ∈ ys, ∀ y ∈ ys, cmpH .ne (g x) (g y) h = some (!decide (x = y))) : callQ fs gl K t [v] h = .ok (.tup ((ordG lt ys).map g)) h := by
  obtain ⟨k, rfl, hk⟩ := lev hK
  refine call_eq hf rfl ?_
  simp_arith [IR_ordered, r.items, short_ok' (show (ys.map g).length ≤ LINE by simp; unfold LINE; omega)]
  refine PS.seq (for0 (fun j e h' => h' = h ∧ ∃ x2 x3, e = [some v, some (.lst ((ordG lt (ys.take j)).map g)), x2, x3]) ⟨rfl, _, _, rfl⟩ ?_ ?_)
  · rintro j x env h' gj ⟨rfl, x2, x3, rfl⟩
    rw [List.getElem?_map, Option.map_eq_some_iff] at gj
    obtain ⟨x, gj, rfl⟩ := gj
    have hx : x ∈ ys := List.mem_of_getElem? gj
    have nx : ordG lt (ys.take (j + 1)) = insG lt x (ordG lt (ys.take j)) := by
      unfold ordG
      rw [List.take_succ, gj, List.foldl_append]
      rfl
    have sub : ∀ z ∈ ordG lt (ys.take j), z ∈ ys := fun z m => List.mem_of_mem_take (ordG_mem.mp m)
    have la : (ordG lt (ys.take j)).length ≤ 100000 := Nat.le_trans (ordG_len _) (by rw [List.length_take]; omega)
    generalize ordG lt (ys.take j) = acc at nx sub la ⊢
    have lp := posG_le (lt := lt) x acc
    refine ⟨_, rfl, ?_⟩
    simp_arith []
    refine PS.seq (whl0 (fun n e h2 => h2 = h' ∧ ∃ i : Nat, e = [some v, some (.lst (acc.map g)), some (g x), some (.int (i : Nat))] ∧ i ≤ posG lt x acc ∧ n = posG lt x acc - i) (posG lt x acc) (by omega) ⟨rfl, 0, rfl, by omega, by omega⟩ ?_)
    rintro n env h2 ⟨rfl, i, rfl, hi, rfl⟩
    by_cases hip : i < posG lt x acc
    · have hia : i < acc.length := by omega
      have c1 := posG_lt x acc i acc[i] hip (by simp [hia])
      have c2 := h1 acc[i] (sub _ (List.getElem_mem _)) x hx
      rw [c1] at c2
      refine ⟨true, h2, ?_, ?_⟩
      · have e1 : decide ((i : Int) < (acc.length : Int)) = true := by simp [hia]
        have e2 : (acc.map g)[i]? = some (g acc[i]) := by simp [hia]
        simp_arith [e1, e2, c2]
      · simp_arith []
        exact ⟨posG lt x acc - (i + 1), by omega, rfl, i + 1, by simp, by omega, rfl⟩
    · have hie : i = posG lt x acc := by omega
      refine ⟨false, h2, ?_, ?_⟩
      · by_cases hia : i < acc.length
        · have c1 := posG_at x acc acc[i] (by rw [← hie]; simp [hia])
          have c2 := h1 acc[i] (sub _ (List.getElem_mem _)) x hx
          rw [c1] at c2
          have e1 : decide ((i : Int) < (acc.length : Int)) = true := by simp [hia]
          have e2 : (acc.map g)[i]? = some (g acc[i]) := by simp [hia]
          simp_arith [e1, e2, c2]
        · have e1 : decide ((i : Int) < (acc.length : Int)) = false := by simp; omega
          simp_arith [e1]
      · have ct : cutL (acc.map g) none (some (i : Int)) = (acc.take i).map g := by rw [cut_to _ (by simp; omega), List.map_take]
        have cd : cutL (acc.map g) (some (i : Int)) none = (acc.drop i).map g := by rw [cut_from _ (by simp; omega), List.map_drop]
        have grow : insG lt x acc = acc.take i ++ [x] ++ acc.drop i → [some v, some (Q.lst (((acc.take i).map g ++ [g x]) ++ (acc.drop i).map g)), some (g x), some (.int (i : Nat))] = [some v, some (.lst ((ordG lt (ys.take (j + 1))).map g)), some (g x), some (.int (i : Nat))] := by
          intro e
          rw [nx, e]
          simp
        have l1 : ((acc.take i).map g).length + [g x].length ≤ LINE := by simp; unfold LINE; omega
        have l2 : ((acc.take i).map g ++ [g x]).length + ((acc.drop i).map g).length ≤ LINE := by simp; unfold LINE; omega
        by_cases hia : i < acc.length
        · have e1 : ((i : Int) == (acc.length : Int)) = false := by rw [beq_eq_false_iff_ne]; simp; omega
          have e2 : (acc.map g)[i]? = some (g acc[i]) := by simp [hia]
          have c3 := h2_ne acc[i] (sub _ (List.getElem_mem _)) x hx
          by_cases hs : acc[i] = x
          · have ei : insG lt x acc = acc := by
              unfold insG
              rw [if_pos (by rw [← hie, List.getElem?_eq_getElem hia, hs])]
            rw [hs] at c3 e2
            simp_arith [e1, e2, c3]
            refine PS.nx ⟨rfl, some (g x), some (.int (i : Nat)), ?_⟩
            rw [nx, ei]
          · have ei : insG lt x acc = acc.take i ++ [x] ++ acc.drop i := by
              unfold insG
              rw [if_neg (by rw [← hie, List.getElem?_eq_getElem hia]; intro z; exact hs (Option.some.inj z)), ← hie]
            rw [decide_eq_false hs] at c3
            simp_arith [e1, e2, c3, show (1 ≤ LINE) = True from eq_true (by decide), ct, cd, b_lst l1, b_lst l2]
            exact PS.nx ⟨rfl, _, _, grow ei⟩
        · have e1 : ((i : Int) == (acc.length : Int)) = true := by simp; omega
          have ei : insG lt x acc = acc.take i ++ [x] ++ acc.drop i := by
            unfold insG
            rw [if_neg (by rw [← hie, List.getElem?_eq_none (by omega)]; simp), ← hie]
          simp_arith [e1, show (1 ≤ LINE) = True from eq_true (by decide), ct, cd, b_lst l1, b_lst l2]
          exact PS.nx ⟨rfl, _, _, grow ei⟩
  · rintro env h' ⟨rfl, x2, x3, rfl⟩
    rw [List.length_map, List.take_length]
    simp_arith []
    (first | exact ⟨rfl, rfl⟩ | exact ⟨trivial, rfl⟩ | exact ⟨rfl, trivial⟩ | exact ⟨trivial, trivial⟩ | exact rfl)
theorem ordered_s (hf : fs[t]? = some IR_ordered) (hK : 1 ≤ K) {ys : List (List Nat)} {v : Q} (h : QH) (r : Row v (sq ys)) (hl : ys.length ≤ 100000) : callQ fs gl K t [v] h = .ok (.tup (sq (ordU ys))) h := by
  rw [← ordU_G]
  refine ordered_q hf hK (g := .str) h r hl (fun x _ y _ => c_lts) fun x _ y _ => ?_
  rw [c_nes]
  congr 2
  exact Bool.beq_eq_decide_eq x y
/-! ### _law_mixed -/
theorem mixed_q {tk : Nat} (hf : fs[t]? = some (IR_mixed tk)) {k : Nat} (hK : K = k + 1) {row : List Int} (T : TakeQ fs gl k tk row) {v : Q} {vs : List Q} (r : Row v vs) (hz : vs.length ≤ 1000) (n : Nat) :
    ∃ (ys : List Q) (n' : Nat), callQ fs gl K t [rq row, .ref 0, v] (sp n) = .ok (.lst ys) (sp n') ∧ ys.Perm vs := by
  subst hK
  have key : ∃ p h', callQ fs gl (k + 1) t [rq row, .ref 0, v] (sp n) = .ok p h' ∧ ∃ ys n', p = .lst ys ∧ h' = sp n' ∧ ys.Perm vs := by
    refine call_ex hf rfl ?_
    have bl : biH .list [v] (sp n) = .ok (.lst vs) (sp n) := by rcases r with rfl | rfl <;> rfl
    simp_arith [IR_mixed, mixB, bl, r.len, rng_ok (show vs.length ≤ 1000000 by omega)]
    refine PS.seq (for0 (fun j e h => ∃ x5 x6 left made n', e = [some (rq row), some (.ref 0), some v, some (.lst left), some (.lst made), x5, x6] ∧ h = sp n' ∧ made.length = j ∧ left.length = vs.length - j ∧ (made ++ left).Perm vs) ⟨_, _, vs, [], n, rfl, rfl, rfl, by simp, by simp⟩ ?_ ?_)
    · rintro j x env h g ⟨x5, x6, left, made, n', rfl, rfl, g5, g6, g7⟩
      obtain ⟨lj, rfl⟩ := rng_get g
      refine ⟨_, rfl, ?_⟩
      obtain ⟨d, c1, c2⟩ := T n' left.length (by omega)
      have a1 : left[d]? = some left[d] := by simp [c1]
      have e1 : cutL left none (some (d : Int)) = left.take d := cut_to _ (by omega)
      have e2 : cutL left (some ((d : Int) + 1)) none = left.drop (d + 1) := cut_from (j := d + 1) _ (by omega)
      have l1 : (left.take d).length + (left.drop (d + 1)).length ≤ LINE := by simp; unfold LINE; omega
      simp_arith [c2, a1, meM_app (x := left[d]) (show made.length < LINE by unfold LINE; omega), e1, e2, b_lst l1]
      refine PS.nx ⟨_, _, _, made ++ [left[d]], _, rfl, rfl, by simp [g5], by simp; omega, ?_⟩
      refine List.Perm.trans ?_ g7
      rw [List.append_assoc]
      refine List.Perm.append_left made ?_
      have : left = left.take d ++ left[d] :: left.drop (d + 1) := by rw [List.getElem_cons_drop, List.take_append_drop]
      conv => rhs; rw [this]
      show (left[d] :: (left.take d ++ left.drop (d + 1))).Perm _
      exact List.perm_middle.symm
    · rintro env h ⟨x5, x6, left, made, n', rfl, rfl, g5, g6, g7⟩
      rw [rng_len] at g5 g6
      have : left = [] := List.length_eq_zero_iff.mp (by omega)
      subst this
      rw [List.append_nil] at g7
      simp_arith []
      exact ⟨made, n', rfl, rfl, g7⟩
  obtain ⟨p, h', e, ys, n', rfl, rfl, r⟩ := key
  exact ⟨ys, n', e, r⟩
/-! ### checks -/
theorem is_sequence_q (hf : fs[t]? = some IR_is_sequence) (hK : 1 ≤ K) {v : Q} {xs : List Q} (r : Row v xs) (h : QH) : callQ fs gl K t [v] h = .ok (.bl true) h := by
  obtain ⟨k, rfl, hk⟩ := lev hK
  rcases r with rfl | rfl <;> refine call_eq hf rfl ?_ <;> simp_arith [IR_is_sequence, show (Ty.list == Ty.list) = true from rfl, show (Ty.list == Ty.tuple) = false from rfl, show (Ty.tuple == Ty.tuple) = true from rfl, show (Ty.tuple == Ty.list) = false from rfl] <;> (first | exact ⟨rfl, rfl⟩ | exact ⟨trivial, rfl⟩ | exact ⟨rfl, trivial⟩ | exact ⟨trivial, trivial⟩ | exact rfl)
theorem is_tuple_of_q (hf : fs[t]? = some IR_is_tuple_of) (hK : 1 ≤ K) {v : Q} {xs : List Q} (r : Row v xs) (n : Int) (h : QH) : callQ fs gl K t [v, .int n] h = .ok (.bl ((xs.length : Int) == n)) h := by
  obtain ⟨k, rfl, hk⟩ := lev hK
  rcases r with rfl | rfl <;> refine call_eq hf rfl ?_ <;> simp_arith [IR_is_tuple_of, show (Ty.list == Ty.list) = true from rfl, show (Ty.list == Ty.tuple) = false from rfl, show (Ty.tuple == Ty.tuple) = true from rfl, show (Ty.tuple == Ty.list) = false from rfl] <;> (first | exact ⟨rfl, rfl⟩ | exact ⟨trivial, rfl⟩ | exact ⟨rfl, trivial⟩ | exact ⟨trivial, trivial⟩ | exact rfl)
def textOk (cs sg : List Nat) (lo hi : Int) : Bool := decide (lo ≤ (cs.length : Int)) && decide ((cs.length : Int) ≤ hi) && cs.all fun c => sg.any fun d => d == c
theorem is_text_q (hf : fs[t]? = some IR_is_text) (hK : 1 ≤ K) {cs sg : List Nat} (lo hi : Int) (l : cs.length ≤ LINE) (h : QH) : callQ fs gl K t [.str cs, .str sg, .int lo, .int hi] h = .ok (.bl (textOk cs sg lo hi)) h := by
  obtain ⟨k, rfl, hk⟩ := lev hK
  refine call_eq hf rfl ?_
  have ga := gnb_all (C := GC fs gl k [gText] 2) (h := h) (env := [some (.str cs), some (.str sg), some (.int lo), some (.int hi), none]) (g := fun c => Q.str [c]) (p := .nm 4) (e := .cmp .inn (.var 4) (.var 1)) (fun e => ∃ x, e = [some (.str cs), some (.str sg), some (.int lo), some (.int hi), x]) (fun c => sg.any fun d => d == c) cs ⟨_, rfl⟩ (by
    rintro c hc env ⟨x, rfl⟩
    refine ⟨_, rfl, ⟨_, rfl⟩, ?_⟩
    simp_arith [])
  unfold gText at ga
  simp_arith [IR_is_text, gText, show (Ty.str == Ty.str) = true from rfl, len_str l]
  unfold textOk
  by_cases h1 : lo ≤ (cs.length : Int)
  · rw [decide_eq_true h1]
    by_cases h2 : (cs.length : Int) ≤ hi
    · rw [decide_eq_true h2]
      simp_arith [short_ok' (show (cs.map fun c => Q.str [c]).length ≤ LINE by simpa using l), ga]
      (first | exact ⟨rfl, rfl⟩ | exact ⟨trivial, rfl⟩ | exact ⟨rfl, trivial⟩ | exact ⟨trivial, trivial⟩ | exact rfl)
    · rw [decide_eq_false h2]
      simp_arith []
      (first | exact ⟨rfl, rfl⟩ | exact ⟨trivial, rfl⟩ | exact ⟨rfl, trivial⟩ | exact ⟨trivial, trivial⟩ | exact rfl)
  · rw [decide_eq_false h1]
    simp_arith []
    (first | exact ⟨rfl, rfl⟩ | exact ⟨trivial, rfl⟩ | exact ⟨rfl, trivial⟩ | exact ⟨trivial, trivial⟩ | exact rfl)
theorem textOk_of {cs sg : List Nat} {lo hi : Int} (h1 : lo ≤ (cs.length : Int)) (h2 : (cs.length : Int) ≤ hi) (h3 : ∀ c ∈ cs, c ∈ sg) : textOk cs sg lo hi = true := by
  unfold textOk
  rw [decide_eq_true h1, decide_eq_true h2, Bool.true_and, Bool.true_and, List.all_eq_true]
  intro c hc
  rw [List.any_eq_true]
  exact ⟨c, h3 c hc, by simp⟩
theorem is_word_q {t2 g : Nat} (hf : fs[t]? = some (IR_is_word t2 g)) (h2 : fs[t2]? = some IR_is_text) (hg : gl g = .str alpha) (hK : 2 ≤ K) {cs : List Nat} (l : cs.length ≤ LINE) (h : QH) : callQ fs gl K t [.str cs] h = .ok (.bl (textOk cs alpha 1 15)) h := by
  obtain ⟨k, rfl, hk⟩ := lev hK
  refine call_eq hf rfl ?_
  simp_arith [IR_is_word, hg, is_text_q (gl := gl) h2 hk 1 15 l h]
  (first | exact ⟨rfl, rfl⟩ | exact ⟨trivial, rfl⟩ | exact ⟨rfl, trivial⟩ | exact ⟨trivial, trivial⟩ | exact rfl)
theorem word_ok {cs : List Nat} (w : Word cs) : textOk cs alpha 1 15 = true := textOk_of (by have := w.1; omega) (by have := w.2.1; omega) w.2.2
theorem word_len {cs : List Nat} (w : Word cs) : cs.length ≤ LINE := by have := w.2.1; unfold LINE; omega
/-! ### the book -/
/-- a book's words in order -/
def txo (ws : List (List Nat)) : List (List Nat) := isort leN (nubS ws)
def BookQ (c : Nat) (ws : List (List Nat)) : Q := .ins c [("_words", .tup (sq ws)), ("_known", .dic (ws.map fun w => (.str w, .bl true)))]
theorem strs_sq : ∀ ys : List (List Nat), strsQ (sq ys) = some ys
  | [] => rfl
  | y :: ys => by
    show strsQ (.str y :: sq ys) = _
    rw [strsQ, strs_sq ys]
theorem Row.txts {v : Q} {ws : List (List Nat)} (r : Row v (sq ws)) (h : QH) : txtsQ h v = some ws := by
  rcases r with rfl | rfl
  · show strsQ (sq ws) = _; exact strs_sq ws
  · show strsQ (sq ws) = _; exact strs_sq ws
theorem txo_len (ws : List (List Nat)) : (txo ws).length ≤ ws.length := by
  have e : txo ws = ordU ws := asc_uniq (txo_asc ws) (ordU_asc ws) fun x => by
    show x ∈ isort leN (nubS ws) ↔ _
    rw [txo_mem, ordU_mem]
  rw [e]; exact ordU_len ws
theorem txo_ordU (ws : List (List Nat)) : txo ws = ordU ws := asc_uniq (txo_asc ws) (ordU_asc ws) fun x => by
  show x ∈ isort leN (nubS ws) ↔ _
  rw [txo_mem, ordU_mem]
/-- Book(words) -/
theorem book_q {n s g w2 c tt gw : Nat} (hf : fs[t]? = some (IR_book n s g w2 c)) (hn : fs[n]? = some IR_need) (hs : fs[s]? = some IR_is_sequence) (hw : fs[w2]? = some (IR_is_word tt gw)) (ht : fs[tt]? = some IR_is_text) (hg : gl g = .int 600) (hgw : gl gw = .str alpha) (hK : 3 ≤ K)
    {v : Q} {ws : List (List Nat)} (r : Row v (sq ws)) (hl : ws.length ≤ 600) (wd : ∀ x ∈ ws, Word x) (h : QH) : initQ fs gl K c t [v] h = .ok (BookQ c (txo ws)) h := by
  obtain ⟨k, rfl, hk⟩ := lev hK
  have ga := gnb_all (C := GC fs gl k [gBook w2, gKnown c] 2) (h := h) (env := [some (.ins c []), some v, none, none]) (g := Q.str) (p := .nm 3) (e := .call w2 [(.var 3)]) (fun e => ∃ x, e = [some (.ins c []), some v, none, x]) (fun _ => true) ws ⟨_, rfl⟩ (by
    rintro x hx env ⟨y, rfl⟩
    refine ⟨_, rfl, ⟨_, rfl⟩, ?_⟩
    have := is_word_q (gl := gl) hw ht hgw hk (word_len (wd x hx)) h
    rw [word_ok (wd x hx)] at this
    simp_arith [this])
  have hal : ws.all (fun _ => true) = true := by simp
  rw [hal] at ga
  have gd := lcd_new (C := GC fs gl k [gBook w2, gKnown c] 2) (h := h) (env := [some (.ins c [("_words", .tup (sq (txo ws)))]), some v, none]) (g := Q.str) (p := .nm 2) (e := .var 2) (v := .cst (.bl true)) (fun w => PV.str w) (fun w => .str w) (fun _ => .bl true) (txo ws) (by have := txo_len ws; omega) (fun _ _ => rfl) (List.Pairwise.imp (fun {x y} ne => by show (x == y) = false; exact beq_false_of_ne ne) (txo_asc ws).nodup) (by
    intro x hx
    refine ⟨_, rfl, ?_, ?_⟩
    · simp_arith []
    · simp_arith [])
  have sq1 := is_sequence_q (gl := gl) hs (show 1 ≤ k by omega) r h
  have nd := need_q (gl := gl) hn (show 1 ≤ k by omega) (.int 1) h
  have c1 : decide ((ws.length : Int) ≤ (600 : Int)) = true := by simp; omega
  have l1 : (ws.map Q.str).length ≤ LINE := by simp; unfold LINE; omega
  have l2 : (sq (txo ws)).length ≤ LINE := by rw [sq_len]; have := txo_len ws; unfold LINE; omega
  unfold gBook gKnown at ga gd
  have it : itemsQ v = some (ws.map Q.str) := r.items
  have ci : chI (IR_book n s g w2 c) = true := rfl
  have e0 : insQ h (.ins c [("_words", Q.tup (sq (txo ws)))]) = some (c, ([("_words", Q.tup (sq (txo ws)))] : List (PySem.Str × Q))) := rfl
  have e1 : List.lookup ("_words" : PySem.Str) ([("_words", Q.tup (sq (txo ws)))] : List (PySem.Str × Q)) = some (.tup (sq (txo ws))) := by simp
  have cc : [c].contains c = true := by simp
  have ll : ([(c, none)] : List (Nat × Option Nat)).lookup c = some none := by simp
  have p1 : putI "_words" (Q.tup (sq (txo ws))) [] = ([("_words", Q.tup (sq (txo ws)))] : List (PySem.Str × Q)) := rfl
  have p2 : putI "_known" (Q.dic ((txo ws).map fun w => (PV.str w, Q.bl true))) [("_words", Q.tup (sq (txo ws)))] = ([("_words", Q.tup (sq (txo ws))), ("_known", .dic ((txo ws).map fun w => (.str w, .bl true)))] : List (PySem.Str × Q)) := by
    unfold putI
    rw [if_neg (by decide)]
    rfl
  have tx : isort leN (nubS ws) = txo ws := rfl
  refine init_nx (t := [some v, none]) hf ci rfl ?_
  simp_arith [IR_book, gBook, gKnown, sq1, r.len, hg, c1, it, short_ok' l1, ga, nd, r.txts, if_pos (show ws.length ≤ SETS by unfold SETS; omega), tx, cc, p1, e0, ll, e1, short_ok' l2, gd, p2, show (0 == 0) = true from rfl]
  rfl
end
end PM

/-! PM, part M: a book's methods; filters of its words. -/
namespace PM
open TM
local macro_rules | `(tactic| simp_arith [$ls:simpLemma,*]) => `(tactic| simp -implicitDefEqProofs only [envQ, CC_cf, CC_ci, CC_gl, CC_own, CC_gf, CI_cf, CI_ci, CI_gl, CI_own, CI_gf, GC_cf, GC_ci, GC_gl, GC_gf, pb, ps_never, ps_pass, ps_brk, ps_cnt, ps_set, ps_seti, ps_setf, ps_dset, ps_aug, ps_expr, ps_ret, ps_retn, ps_ite, ps_whl, ps_for, peG, peL1_b, peL2_b, peD1_b, peA_b, lc2_b, wipeQ, pe, pes, peO, peT, peI, peTs, pexpr, mutE, pmut, pseti, pdset, psetf, isM, isRefQ, Bool.false_eq_true, if_true, if_false, ite_true, ite_false, PR.bind_ok, PR.bind_bad, PR.out_ok, PO.seq_nx, PO.seq_ret, PO.seq_brk, PO.seq_cnt, ofQ_some, ofQ_none, Option.map_some, Option.map_none, List.map_cons, List.map_nil, List.replicate, List.cons_append, List.nil_append, List.length_cons, List.length_nil, List.set, Nat.reduceAdd, Nat.reduceSub, Nat.reduceLT, Nat.reduceLeDiff, Nat.sub_self, decide_true, decide_false, List.getElem?_cons_succ, List.getElem?_cons_zero, bindQ, bindQs, toC, isNonQ, look_non, look_bl, look_int, look_str, look_tup, look_lst, look_dic, look_ins, truthH_bl, truthH_non, truthH_int, truthH_lst, truthH_tup, c_lt, c_le, c_gt, c_ge, c_eq, c_ne, c_eqs, c_nes, c_lts, c_eqb, c_neb, c_isb, c_isnb, c_in1, c_nin1, c_is_non, c_isnt_non, c_is_bl, c_isnt_bl, c_is_int, c_isnt_int, c_is_str, c_isnt_str, c_is_tup, c_isnt_tup, c_is_lst, c_isnt_lst, c_is_dic, c_isnt_dic, c_is_ins, c_isnt_ins, b_add, b_sub, atH_lst, atH_tup, atI_cast, atI_0, atI_1, atI_2, atI_3, cut_lst, cut_tup, len_lst, len_tup, bi_tup, bi_tup2, bi_list, bi_list2, bi_int, bi_min, bi_max, items_lst, items_tup, items_str, isiQ, isi1, Bool.or_true, Bool.true_or, Bool.or_false, Bool.false_or, Bool.not_true, Bool.not_false, Bool.true_and, Bool.and_true, Bool.false_and, Bool.and_false, Nat.zero_le,List.length_map, beq_self_eq_true, $ls,*])
def bookF (ws : List (List Nat)) : List (PySem.Str × Q) := [("_words", .tup (sq ws)), ("_known", .dic (ws.map fun w => (.str w, .bl true)))]
theorem ins_book {c : Nat} {ws : List (List Nat)} {h : QH} : insQ h (BookQ c ws) = some (c, bookF ws) := rfl
theorem look_book {c : Nat} {ws : List (List Nat)} {h : QH} : look h (BookQ c ws) = some (BookQ c ws) := rfl
theorem bk_words {ws : List (List Nat)} : List.lookup ("_words" : PySem.Str) (bookF ws) = some (.tup (sq ws)) := by simp [bookF]
theorem bk_known {ws : List (List Nat)} : List.lookup ("_known" : PySem.Str) (bookF ws) = some (.dic (ws.map fun w => (.str w, .bl true))) := by
  unfold bookF
  rw [List.lookup_cons, show (("_known" : PySem.Str) == "_words") = false from by decide]
  simp
theorem bk_no {ws : List (List Nat)} {x : PySem.Str} (h1 : (x == "_words") = false) (h2 : (x == "_known") = false) : List.lookup x (bookF ws) = none := by
  unfold bookF
  rw [List.lookup_cons, h1]
  simp only
  rw [List.lookup_cons, h2]
  rfl
theorem lookup1 {a b : Type} [BEq a] [ReflBEq a] {c : a} {x : b} : List.lookup c [(c, x)] = some x := by simp
theorem isc_book {c : Nat} {ws : List (List Nat)} {h : QH} : iscQ h (BookQ c ws) c = some true := if_pos rfl
theorem val_known {w : List Nat} : ∀ ws : List (List Nat), (valQ (.str w) (ws.map fun w => (PV.str w, Q.bl true))).isSome = decide (w ∈ ws)
  | [] => by simp [valQ]
  | v :: ws => by
    have ih := val_known (w := w) ws
    simp only [List.map_cons, valQ]
    by_cases e : v = w
    · have hk : keq (.str v) (.str w) = true := by rw [e]; exact beq_self_eq_true w
      rw [if_pos hk]; simp [e]
    · have hk : keq (.str v) (.str w) = false := beq_false_of_ne e
      rw [if_neg (by rw [hk]; simp), ih]
      have : (w ∈ v :: ws) ↔ w ∈ ws := ⟨fun m => (List.mem_cons.mp m).resolve_left fun z => e z.symm, List.mem_cons_of_mem _⟩
      exact (decide_eq_decide.mpr this).symm
section
variable {fs : List Fn} {gl : Nat → PV} {K t : Nat} {c : Nat} {ws : List (List Nat)}
theorem words_q (hf : fs[t]? = some (IR_words c)) (hK : 1 ≤ K) (h : QH) : callQ fs gl K t [BookQ c ws] h = .ok (.tup (sq ws)) h := by
  obtain ⟨k, rfl, hk⟩ := lev hK
  refine call_eq hf rfl ?_
  simp_arith [IR_words, ins_book, lookup1, bk_words]
  (first | exact ⟨rfl, rfl⟩ | exact ⟨trivial, rfl⟩ | exact ⟨rfl, trivial⟩ | exact ⟨trivial, trivial⟩ | exact rfl)
theorem need_book_q {n : Nat} (hf : fs[t]? = some (IR_need_book n c)) (hn : fs[n]? = some IR_need) (hK : 2 ≤ K) (u : Q) (h : QH) : callQ fs gl K t [BookQ c ws, u] h = .ok .non h := by
  obtain ⟨k, rfl, hk⟩ := lev hK
  refine call_eq hf rfl ?_
  simp_arith [IR_need_book, isc_book, need_q (gl := gl) hn hk u h]
  (first | exact ⟨rfl, rfl⟩ | exact ⟨trivial, rfl⟩ | exact ⟨rfl, trivial⟩ | exact ⟨trivial, trivial⟩ | exact rfl)
theorem knows_q (hf : fs[t]? = some (IR_knows c)) (hK : 1 ≤ K) (w : List Nat) (h : QH) : callQ fs gl K t [BookQ c ws, .str w] h = .ok (.bl (decide (w ∈ ws))) h := by
  obtain ⟨k, rfl, hk⟩ := lev hK
  refine call_eq hf rfl ?_
  simp_arith [IR_knows, ins_book, lookup1, bk_known, dicQ, keyQ, val_known]
  simp only [bne_self_eq_false, Bool.bne_false]
  (first | exact ⟨rfl, rfl⟩ | exact ⟨trivial, rfl⟩ | exact ⟨rfl, trivial⟩ | exact ⟨trivial, trivial⟩ | exact rfl)
theorem blen_q (hf : fs[t]? = some (IR_blen c)) (hK : 1 ≤ K) (h : QH) : callQ fs gl K t [BookQ c ws] h = .ok (.int ws.length) h := by
  obtain ⟨k, rfl, hk⟩ := lev hK
  refine call_eq hf rfl ?_
  simp_arith [IR_blen, ins_book, lookup1, bk_words, sq_len]
  (first | exact ⟨rfl, rfl⟩ | exact ⟨trivial, rfl⟩ | exact ⟨rfl, trivial⟩ | exact ⟨trivial, trivial⟩ | exact rfl)
theorem toPs_sq : ∀ ws : List (List Nat), toPs (sq ws) = some (ws.map PV.str)
  | [] => rfl
  | w :: ws => by
    show toPs (.str w :: sq ws) = _
    rw [toPs, toPs_sq ws]
    rfl
theorem toP_sq (ws : List (List Nat)) : toP (.tup (sq ws)) = some (.tup (ws.map PV.str)) := by rw [toP, toPs_sq]; rfl
theorem c_eqss {a b : List (List Nat)} {h : QH} (ha : ∀ w ∈ a, Lets w) (hb : ∀ w ∈ b, Lets w) : cmpH .eq (.tup (sq a)) (.tup (sq b)) h = some (a == b) := by
  have := eq_strs (S := []) ha hb
  simp only [cmpH, look_tup, cmpQ, eqQ, toP_sq]
  exact this
/-- a text in a row of texts -/
theorem c_ins {w : List Nat} {ws : List (List Nat)} {h : QH} (hs : ∀ w ∈ ws, Lets w) (hw : Lets w) : cmpH .inn (.str w) (.tup (sq ws)) h = some (decide (w ∈ ws)) := by
  have := in_strs (S := []) hs hw
  simp only [cmpH, look_tup, look_str, cmpQ, inQ, toP, toPs_sq]
  exact this
theorem c_insL {w : List Nat} {ws : List (List Nat)} {h : QH} (hs : ∀ w ∈ ws, Lets w) (hw : Lets w) : cmpH .inn (.str w) (.lst (sq ws)) h = some (decide (w ∈ ws)) := by
  have := in_strs (S := []) hs hw
  simp only [cmpH, look_lst, look_str, cmpQ, inQ, toP, toPs_sq]
  exact this
/-- a text within a text -/
theorem c_intx {z w : List Nat} {h : QH} : cmpH .inn (.str w) (.str z) h = some (inTx z w) := by
  have := in_txt z w []
  simp only [cmpH, look_str, cmpQ, inQ, toP]
  exact this
theorem beq_q (hf : fs[t]? = some (IR_beq c)) (hK : 1 ≤ K) {vs : List (List Nat)} (hw : ∀ w ∈ ws, Lets w) (hv : ∀ w ∈ vs, Lets w) (h : QH) : callQ fs gl K t [BookQ c ws, BookQ c vs] h = .ok (.bl (ws == vs)) h := by
  obtain ⟨k, rfl, hk⟩ := lev hK
  refine call_eq hf rfl ?_
  simp_arith [IR_beq, isc_book, ins_book, lookup1, bk_words, c_eqss hw hv]
  (first | exact ⟨rfl, rfl⟩ | exact ⟨trivial, rfl⟩ | exact ⟨rfl, trivial⟩ | exact ⟨trivial, trivial⟩ | exact rfl)
theorem beq_no_q (hf : fs[t]? = some (IR_beq c)) (hK : 1 ≤ K) {u : Q} {h : QH} (hu : iscQ h u c = some false) : callQ fs gl K t [BookQ c ws, u] h = .ok (.bl false) h := by
  obtain ⟨k, rfl, hk⟩ := lev hK
  refine call_eq hf rfl ?_
  simp_arith [IR_beq, hu]
  (first | exact ⟨rfl, rfl⟩ | exact ⟨trivial, rfl⟩ | exact ⟨rfl, trivial⟩ | exact ⟨trivial, trivial⟩ | exact rfl)
/-- a def that gives the book's words that a test keeps -/
theorem bookf_q {nb n p : Nat} {need : E} {test : T} (hf : fs[t]? = some (IR_bookf nb n c p need test)) (hnb : fs[nb]? = some (IR_need_book n c)) (hn : fs[n]? = some IR_need) (hp : fs[p]? = some (IR_words c)) {k : Nat} (hK : K = k + 1) (hk : 2 ≤ k) {x : Q} {h : QH} (hl : ws.length ≤ 4000) (f : List Nat → Bool)
    (hneed : pe (CC fs gl k 2 (IR_bookf nb n c p need test).gens) need [some (BookQ c ws), some x, none] h = .ok (.bl true) h)
    (htest : ∀ w ∈ ws, peT (GC fs gl k (IR_bookf nb n c p need test).gens 2) test [some (BookQ c ws), some x, some (.str w)] h = .ok (f w) h) :
    callQ fs gl K t [BookQ c ws, x] h = .ok (.tup (sq (ws.filter f))) h := by
  subst hK
  have lc := lcb_map (C := GC fs gl k (IR_bookf nb n c p need test).gens 2) (h := h) (env := [some (BookQ c ws), some x, none]) (g := Q.str) (p := .nm 2) (ts := [test]) (e := .var 2) f Q.str ws (by omega) (by
    intro w hw
    refine ⟨_, rfl, ?_, fun _ => ?_⟩
    · have := htest w hw
      simp only [peTs, List.set, this, PR.bind_ok]
      cases f w <;> rfl
    · simp_arith [])
  refine call_eq hf rfl ?_
  have nd := need_q (gl := gl) hn (show 1 ≤ k by omega) (.int 2) h
  have nbk := need_book_q (gl := gl) (ws := ws) hnb hn hk (.int 1) h
  have wq := words_q (gl := gl) (ws := ws) hp (show 1 ≤ k by omega) h
  have l1 : (sq ws).length ≤ LINE := by rw [sq_len]; unfold LINE; omega
  rw [show (IR_bookf nb n c p need test).body = [(.expr (.call nb [(.var 0), (.cst (.int 1))])), (.expr (.call n [need, (.cst (.int 2))])), (.ret (.bi .tuple [(.gcall 0)]))] from rfl, show envQ (IR_bookf nb n c p need test) [BookQ c ws, x] = [some (BookQ c ws), some x, none] from rfl]
  have g0 : (IR_bookf nb n c p need test).gens[0]? = some ⟨.lst, 0, [], ⟨[2], (.nm 2), (.e (.fld (.var 0) "words" [(c, some p)])), [test]⟩, [], (.var 2), .never⟩ := rfl
  show PS (pb (CC fs gl k 2 (IR_bookf nb n c p need test).gens) _ _ _) _ _ _ _
  generalize (IR_bookf nb n c p need test).gens = gens at hneed lc g0 ⊢
  simp_arith [nbk, hneed, nd, g0, ins_book, lookup1, wq, short_ok' l1, lc]
  (first | exact ⟨rfl, rfl⟩ | exact ⟨trivial, rfl⟩ | exact ⟨rfl, trivial⟩ | exact ⟨trivial, trivial⟩ | exact rfl)
end
/-- a law's run -/
theorem law_run {fs : List Fn} {gl : Nat → PV} {k jl jn nn : Nat} {rest : List TM.S} {gens : List Gen} (hl : fs[jl]? = some ⟨1, nn, .set (.nm 1) (.call jn [.var 0]) :: .set (.nm 2) (.lst [.cst (.int 0)]) :: rest, gens⟩) (hn : fs[jn]? = some IR_numbers) (hF : fs.all chF = true) (hk : 3 ≤ nn)
    (hr : (chB (geN gens 3) (ownF ⟨1, nn, [], gens⟩) none rest []).isSome = true)
    (main : ∀ row : List Int, row ≠ [] → PS (pb (CC fs gl (k + 1) 1 gens) rest (none :: some (rq row) :: some (.ref 0) :: List.replicate (nn - 3) none) (sp 0)) No No No fun q _ => q = .bl true) :
    ∀ ns : List Int, ns.length ≤ 63 → ∀ o : TM.PO, ScrO ns o → ∃ S', callN fs gl (k + 2) jl [.obj 0] [o] = .ok (.bl true) S' :=
  law_pm hl hn hF hk hr fun row hx _ _ => by
    have := main row hx
    show ∃ h', pb (CC fs gl (k + 1) 1 gens) rest (none :: some (rq row) :: some (.ref 0) :: List.replicate (nn - 3) none) (sp 0) = _
    cases e : pb (CC fs gl (k + 1) 1 gens) rest (none :: some (rq row) :: some (.ref 0) :: List.replicate (nn - 3) none) (sp 0) with
    | ret q h => rw [e] at this; cases this; exact ⟨h, rfl⟩
    | nx _ _ => rw [e] at this; exact this.elim
    | brk _ _ => rw [e] at this; exact this.elim
    | cnt _ _ => rw [e] at this; exact this.elim
    | bad => rw [e] at this; exact this.elim
end PM

namespace TL
open PySem TM L2
def topS (i : Nat) : Stmt := PySem.Challenge.pw_tilemoot_k01_books_as_given.main.body.getD i (.Pass ⟨0, 0, 0, 0⟩)
def methS (i j : Nat) : Stmt := match topS i with
  | .ClassDef _ _ _ body _ _ _ _ _ _ _ => body.getD j (.Pass ⟨0, 0, 0, 0⟩)
  | s => s
/-- need(held, at); 0 held, 1 at -/
def f_need : Fn := ⟨2, 2, [(.ite (.not (.e (.var 0))) [.never] [])], []⟩
/-- is_sequence(value); 0 value -/
def f_is_sequence : Fn := ⟨1, 1, [(.ret (.isi (.var 0) [.list, .tuple]))], []⟩
/-- is_text(value, signs, low, high); 0 value, 1 signs, 2 low, 3 high -/
def f_is_text : Fn := ⟨4, 4, [(.ret (.andv (.isi (.var 0) [.str]) (.andv (.chain .le .le (.var 2) (.bi .len [(.var 0)]) (.var 3)) (.gcall 0))))], [⟨.all, 1, ["value", "signs", "low", "high", "sign"], ⟨[], (.nm 4), (.e (.var 0)), []⟩, [], (.cmp .inn (.var 4) (.var 1)), .never⟩]⟩
/-- is_word(value); 0 value -/
def f_is_word : Fn := ⟨1, 1, [(.ret (.call 2 [(.var 0), (.glob 0), (.cst (.int 1)), (.cst (.int 15))]))], []⟩
/-- need_book(value, at); 0 value, 1 at -/
def f_need_book : Fn := ⟨2, 2, [(.expr (.call 0 [(.isc (.var 0) 0), (.var 1)]))], []⟩
/-- has(book, word); 0 book, 1 word -/
def f_has : Fn := ⟨2, 2, [(.expr (.call 4 [(.var 0), (.cst (.int 1))])), (.expr (.call 0 [(.call 3 [(.var 1)]), (.cst (.int 2))])), (.ret (.mcall (.var 0) "knows" [(0, 26)] [(.var 1)]))], []⟩
/-- starting(book, text); 0 book, 1 text, 2 word -/
def f_starting : Fn := ⟨2, 3, [(.expr (.call 4 [(.var 0), (.cst (.int 1))])), (.expr (.call 0 [(.call 2 [(.var 1), (.glob 0), (.cst (.int 0)), (.cst (.int 15))]), (.cst (.int 2))])), (.ret (.bi .tuple [(.gcall 0)]))], [⟨.lst, 0, [], ⟨[2], (.nm 2), (.e (.fld (.var 0) "words" [(0, some 25)])), [(.e (.me .startswith (.var 2) [(.var 1)]))]⟩, [], (.var 2), .never⟩]⟩
/-- ending(book, text); 0 book, 1 text, 2 word -/
def f_ending : Fn := ⟨2, 3, [(.expr (.call 4 [(.var 0), (.cst (.int 1))])), (.expr (.call 0 [(.call 2 [(.var 1), (.glob 0), (.cst (.int 0)), (.cst (.int 15))]), (.cst (.int 2))])), (.ret (.bi .tuple [(.gcall 0)]))], [⟨.lst, 0, [], ⟨[2], (.nm 2), (.e (.fld (.var 0) "words" [(0, some 25)])), [(.e (.me .endswith (.var 2) [(.var 1)]))]⟩, [], (.var 2), .never⟩]⟩
/-- holding(book, text); 0 book, 1 text, 2 word -/
def f_holding : Fn := ⟨2, 3, [(.expr (.call 4 [(.var 0), (.cst (.int 1))])), (.expr (.call 0 [(.call 2 [(.var 1), (.glob 0), (.cst (.int 0)), (.cst (.int 15))]), (.cst (.int 2))])), (.ret (.bi .tuple [(.gcall 0)]))], [⟨.lst, 0, [], ⟨[2], (.nm 2), (.e (.fld (.var 0) "words" [(0, some 25)])), [(.e (.cmp .inn (.var 1) (.var 2)))]⟩, [], (.var 2), .never⟩]⟩
/-- fits(pattern, word); 0 pattern, 1 word -/
def f_fits : Fn := ⟨2, 2, [(.ite (.e (.cmp .ne (.bi .len [(.var 1)]) (.bi .len [(.var 0)]))) [(.ret (.cst (.bl false)))] []), (.ret (.gcall 0))], [⟨.all, 2, ["pattern", "word", "sign", "letter"], ⟨[], (.tup [(.nm 2), (.nm 3)]), (.zip (.var 0) (.var 1)), []⟩, [], (.cmp .inn (.var 2) (.tup [(.cst (.str [63])), (.var 3)])), .never⟩]⟩
/-- fitting(book, pattern); 0 book, 1 pattern, 2 word -/
def f_fitting : Fn := ⟨2, 3, [(.expr (.call 4 [(.var 0), (.cst (.int 1))])), (.expr (.call 0 [(.call 2 [(.var 1), (.glob 1), (.cst (.int 1)), (.cst (.int 15))]), (.cst (.int 2))])), (.ret (.bi .tuple [(.gcall 0)]))], [⟨.lst, 0, [], ⟨[2], (.nm 2), (.e (.fld (.var 0) "words" [(0, some 25)])), [(.e (.call 9 [(.var 1), (.var 2)]))]⟩, [], (.var 2), .never⟩]⟩
/-- _law_so(found, meant); 0 found, 1 meant, 2 k -/
def f_law_so : Fn := ⟨2, 3, [(.ite (.e (.cmp .is (.var 1) (.cst .non))) [(.ret (.cmp .is (.var 0) (.cst .non)))] []), (.ite (.e (.isi (.var 1) [.tuple])) [(.ite (.or (.not (.e (.isi (.var 0) [.tuple]))) (.e (.cmp .ne (.bi .len [(.var 0)]) (.bi .len [(.var 1)])))) [(.ret (.cst (.bl false)))] []), (.for (.nm 2) (.rng1 (.bi .len [(.var 1)])) [(.ite (.not (.e (.call 11 [(.idx (.var 0) (.var 2)), (.idx (.var 1) (.var 2))]))) [(.ret (.cst (.bl false)))] [])]), (.ret (.cst (.bl true)))] []), (.ite (.or (.e (.isi (.var 1) [.bool])) (.e (.isi (.var 0) [.bool]))) [(.ret (.andv (.isi (.var 1) [.bool]) (.andv (.isi (.var 0) [.bool]) (.cmp .eq (.var 0) (.var 1)))))] []), (.ite (.e (.isi (.var 1) [.int])) [(.ret (.andv (.isi (.var 0) [.int]) (.cmp .eq (.var 0) (.var 1))))] []), (.ret (.andv (.isi (.var 1) [.str]) (.andv (.isi (.var 0) [.str]) (.cmp .eq (.var 0) (.var 1)))))], []⟩
/-- _law_numbers(script); 0 script, 1 row, 2 cell, 3 left, 4 k, 5 mixed -/
def f_law_numbers : Fn := ⟨1, 6, [(.set (.nm 1) (.lst [])), (.for (.nm 2) (.e (.slc (.var 0) none (some (.cst (.int 63))))) [(.ite (.e (.cmp .ge (.var 2) (.bin .pow (.cst (.int 10)) (.cst (.int 18))))) [(.set (.nm 3) (.var 2)), (.for (.nm 4) (.rng1 (.cst (.int 60))) [(.ite (.e (.cmp .eq (.var 3) (.cst (.int 0)))) [.brk] []), (.expr (.me .append (.var 1) [(.bin .mod (.bi .int [(.var 3)]) (.cst (.int 997)))])), (.set (.nm 3) (.bin .fdiv (.var 3) (.cst (.int 997))))])] [(.for (.nm 4) (.rng1 (.cst (.int 4))) [(.set (.nm 5) (.bin .mod (.bi .int [(.bin .add (.bin .add (.bin .mul (.var 2) (.cst (.int 48271))) (.bin .mul (.var 4) (.cst (.int 69621)))) (.cst (.int 11)))]) (.cst (.int 2147483647)))), (.expr (.me .append (.var 1) [(.bin .mod (.bi .int [(.bin .add (.bin .mul (.var 5) (.cst (.int 16807))) (.var 4))]) (.cst (.int 2147483629)))]))])])]), (.ite (.e (.cmp .eq (.bi .len [(.var 1)]) (.cst (.int 0)))) [(.expr (.me .append (.var 1) [(.cst (.int 0))]))] []), (.ret (.var 1))], []⟩
/-- _law_draw(row, at, limit); 0 row, 1 at, 2 limit, 3 mixed -/
def f_law_draw : Fn := ⟨3, 4, [(.ite (.e (.cmp .lt (.var 1) (.bi .len [(.var 0)]))) [(.ret (.bin .mod (.bi .int [(.idx (.var 0) (.var 1))]) (.var 2)))] []), (.set (.nm 3) (.bin .mod (.bi .int [(.bin .add (.bin .add (.bin .mul (.idx (.var 0) (.bin .mod (.bi .int [(.var 1)]) (.bi .len [(.var 0)]))) (.cst (.int 40692))) (.bin .mul (.var 1) (.cst (.int 7919)))) (.cst (.int 3)))]) (.cst (.int 2147483399)))), (.ret (.bin .mod (.bi .int [(.bin .mod (.bi .int [(.bin .add (.bin .mul (.var 3) (.cst (.int 48271))) (.var 1))]) (.cst (.int 2147483647)))]) (.var 2)))], []⟩
/-- _law_take(row, spot, limit); 0 row, 1 spot, 2 limit -/
def f_law_take : Fn := ⟨3, 3, [(.seti (.var 1) (.cst (.int 0)) (.bin .add (.idx (.var 1) (.cst (.int 0))) (.cst (.int 1)))), (.ret (.call 13 [(.var 0), (.bin .sub (.idx (.var 1) (.cst (.int 0))) (.cst (.int 1))), (.var 2)]))], []⟩
/-- _law_loose(value, turn); 0 value, 1 turn, 2 made, 3 one -/
def f_law_loose : Fn := ⟨2, 4, [(.ite (.e (.isi (.var 0) [.tuple])) [(.set (.nm 2) (.gcall 0)), (.ret (.ife (.e (.cmp .eq (.bin .mod (.bi .int [(.var 1)]) (.cst (.int 2))) (.cst (.int 0)))) (.var 2) (.bi .tuple [(.var 2)])))] []), (.ret (.var 0))], [⟨.lst, 0, [], ⟨[3], (.nm 3), (.e (.var 0)), []⟩, [], (.call 15 [(.var 3), (.bin .add (.var 1) (.cst (.int 1)))]), .never⟩]⟩
/-- _law_mixed(row, spot, things); 0 row, 1 spot, 2 things, 3 left, 4 made, 5 k, 6 at -/
def f_law_mixed : Fn := ⟨3, 7, [(.set (.nm 3) (.bi .list [(.var 2)])), (.set (.nm 4) (.lst [])), (.for (.nm 5) (.rng1 (.bi .len [(.var 2)])) [(.set (.nm 6) (.call 14 [(.var 0), (.var 1), (.bi .len [(.var 3)])])), (.expr (.me .append (.var 4) [(.idx (.var 3) (.var 6))])), (.set (.nm 3) (.bin .add (.slc (.var 3) none (some (.var 6))) (.slc (.var 3) (some (.bin .add (.var 6) (.cst (.int 1)))) none)))]), (.ret (.var 4))], []⟩
/-- _law_text(row, spot, alphabet, least, most); 0 row, 1 spot, 2 alphabet, 3 least, 4 most, 5 made, 6 k -/
def f_law_text : Fn := ⟨5, 7, [(.set (.nm 5) (.cst (.str []))), (.for (.nm 6) (.rng1 (.bin .add (.var 3) (.call 14 [(.var 0), (.var 1), (.bin .add (.bin .sub (.var 4) (.var 3)) (.cst (.int 1)))]))) [(.set (.nm 5) (.bin .add (.var 5) (.idx (.var 2) (.call 14 [(.var 0), (.var 1), (.bi .len [(.var 2)])]))))]), (.ret (.var 5))], []⟩
/-- _law_texts(row, spot, alphabet, many, least, most); 0 row, 1 spot, 2 alphabet, 3 many, 4 least, 5 most, 6 k -/
def f_law_texts : Fn := ⟨6, 7, [(.ret (.bi .tuple [(.gcall 0)]))], [⟨.lst, 0, [], ⟨[6], (.nm 6), (.rng1 (.call 14 [(.var 0), (.var 1), (.bin .add (.var 3) (.cst (.int 1)))])), []⟩, [], (.call 17 [(.var 0), (.var 1), (.var 2), (.var 4), (.var 5)]), .never⟩]⟩
/-- _law_ordered(values); 0 values, 1 made, 2 one, 3 at -/
def f_law_ordered : Fn := ⟨1, 4, [(.set (.nm 1) (.lst [])), (.for (.nm 2) (.e (.var 0)) [(.set (.nm 3) (.cst (.int 0))), (.whl (.and (.e (.cmp .lt (.var 3) (.bi .len [(.var 1)]))) (.e (.cmp .lt (.idx (.var 1) (.var 3)) (.var 2)))) [(.set (.nm 3) (.bin .add (.var 3) (.cst (.int 1))))]), (.ite (.or (.e (.cmp .eq (.var 3) (.bi .len [(.var 1)]))) (.e (.cmp .ne (.idx (.var 1) (.var 3)) (.var 2)))) [(.set (.nm 1) (.bin .add (.bin .add (.slc (.var 1) none (some (.var 3))) (.lst [(.var 2)])) (.slc (.var 1) (some (.var 3)) none)))] [])]), (.ret (.bi .tuple [(.var 1)]))], []⟩
/-- _law_alphabet(row, spot); 0 row, 1 spot -/
def f_law_alphabet : Fn := ⟨2, 2, [(.ret (.idx (.lst [(.cst (.str [97, 98])), (.cst (.str [97, 98, 99])), (.cst (.str [97, 98, 99, 100])), (.cst (.str [97, 101, 105, 111, 115, 116]))]) (.call 14 [(.var 0), (.var 1), (.cst (.int 4))])))], []⟩
/-- _law_words_of(row, spot, many, least, most); 0 row, 1 spot, 2 many, 3 least, 4 most -/
def f_law_words_of : Fn := ⟨5, 5, [(.ret (.call 18 [(.var 0), (.var 1), (.call 20 [(.var 0), (.var 1)]), (.var 2), (.var 3), (.var 4)]))], []⟩
/-- _law_fits(pattern, word); 0 pattern, 1 word, 2 k -/
def f_law_fits : Fn := ⟨2, 3, [(.ret (.andv (.cmp .eq (.bi .len [(.var 0)]) (.bi .len [(.var 1)])) (.cmp .eq (.bi .len [(.gcall 0)]) (.cst (.int 0)))))], [⟨.lst, 0, [], ⟨[2], (.nm 2), (.rng1 (.bi .len [(.var 1)])), [(.and (.e (.cmp .ne (.idx (.var 0) (.var 2)) (.cst (.str [63])))) (.e (.cmp .ne (.idx (.var 0) (.var 2)) (.idx (.var 1) (.var 2)))))]⟩, [], (.var 2), .never⟩]⟩
/-- law(script); 0 script, 1 row, 2 spot, 3 words, 4 book, 5 due, 6 text, 7 word, 8 one, 9 pattern -/
def f_law : Fn := ⟨1, 10, [(.set (.nm 1) (.call 12 [(.var 0)])), (.set (.nm 2) (.lst [(.cst (.int 0))])), (.set (.nm 3) (.call 21 [(.var 1), (.var 2), (.cst (.int 25)), (.cst (.int 1)), (.cst (.int 5))])), (.set (.nm 4) (.make 0 24 [(.call 15 [(.var 3), (.call 14 [(.var 1), (.var 2), (.cst (.int 2))])])])), (.set (.nm 5) (.call 19 [(.var 3)])), (.ite (.or (.not (.e (.call 11 [(.fld (.var 4) "words" [(0, some 25)]), (.var 5)]))) (.or (.e (.cmp .ne (.leni (.var 4) [(0, 28)]) (.bi .len [(.var 5)]))) (.e (.cmp .isnot (.oeq (.var 4) (.make 0 24 [(.call 16 [(.var 1), (.var 2), (.var 3)])]) [(0, 27)]) (.cst (.bl true)))))) [(.ret (.cst (.bl false)))] []), (.ite (.or (.e (.cmp .isnot (.oeq (.var 4) (.cst (.int 5)) [(0, 27)]) (.cst (.bl false)))) (.e (.cmp .isnot (.oeq (.var 4) (.var 5) [(0, 27)]) (.cst (.bl false))))) [(.ret (.cst (.bl false)))] []), (.ite (.and (.e (.cmp .gt (.bi .len [(.var 5)]) (.cst (.int 0)))) (.e (.cmp .isnot (.oeq (.var 4) (.make 0 24 [(.slc (.var 5) (some (.cst (.int 1))) none)]) [(0, 27)]) (.cst (.bl false))))) [(.ret (.cst (.bl false)))] []), (.set (.nm 6) (.call 17 [(.var 1), (.var 2), (.cst (.str [97, 98, 99])), (.cst (.int 0)), (.cst (.int 3))])), (.set (.nm 7) (.call 17 [(.var 1), (.var 2), (.cst (.str [97, 98, 99])), (.cst (.int 1)), (.cst (.int 4))])), (.ite (.not (.e (.call 11 [(.call 5 [(.var 4), (.var 7)]), (.cmp .inn (.var 7) (.var 5))]))) [(.ret (.cst (.bl false)))] []), (.ite (.not (.e (.call 11 [(.call 6 [(.var 4), (.var 6)]), (.bi .tuple [(.gcall 0)])]))) [(.ret (.cst (.bl false)))] []), (.ite (.not (.e (.call 11 [(.call 7 [(.var 4), (.var 6)]), (.bi .tuple [(.gcall 1)])]))) [(.ret (.cst (.bl false)))] []), (.ite (.not (.e (.call 11 [(.call 8 [(.var 4), (.var 6)]), (.bi .tuple [(.gcall 2)])]))) [(.ret (.cst (.bl false)))] []), (.set (.nm 9) (.call 17 [(.var 1), (.var 2), (.cst (.str [97, 98, 63, 63])), (.cst (.int 1)), (.cst (.int 5))])), (.ret (.call 11 [(.call 10 [(.var 4), (.var 9)]), (.bi .tuple [(.gcall 3)])]))], [⟨.lst, 0, [], ⟨[8], (.nm 8), (.e (.var 5)), [(.e (.cmp .eq (.slc (.var 8) none (some (.bi .len [(.var 6)]))) (.var 6)))]⟩, [], (.var 8), .never⟩, ⟨.lst, 0, [], ⟨[8], (.nm 8), (.e (.var 5)), [(.and (.e (.cmp .ge (.bi .len [(.var 8)]) (.bi .len [(.var 6)]))) (.e (.cmp .eq (.slc (.var 8) (some (.bin .sub (.bi .len [(.var 8)]) (.bi .len [(.var 6)]))) none) (.var 6))))]⟩, [], (.var 8), .never⟩, ⟨.lst, 0, [], ⟨[8], (.nm 8), (.e (.var 5)), [(.e (.cmp .inn (.var 6) (.var 8)))]⟩, [], (.var 8), .never⟩, ⟨.lst, 0, [], ⟨[8], (.nm 8), (.e (.var 5)), [(.e (.call 22 [(.var 9), (.var 8)]))]⟩, [], (.var 8), .never⟩]⟩
/-- Book.__init__(self, words); 0 self, 1 words, 2 word -/
def f_Book___init : Fn := ⟨2, 3, [(.expr (.call 0 [(.andv (.call 1 [(.var 1)]) (.andv (.cmp .le (.bi .len [(.var 1)]) (.glob 2)) (.gcall 0))), (.cst (.int 1))])), (.setf (.var 0) "_words" [0] (.bi .tuple [(.sset (.var 1))])), (.setf (.var 0) "_known" [0] (.gcall 1))], [⟨.all, 1, ["self", "words", "word'", "word"], ⟨[], (.nm 3), (.e (.var 1)), []⟩, [], (.call 3 [(.var 3)]), .never⟩, ⟨.dct, 0, [], ⟨[2], (.nm 2), (.e (.fld (.var 0) "_words" [(0, none)])), []⟩, [], (.var 2), (.cst (.bl true))⟩]⟩
/-- Book.words(self); 0 self -/
def f_Book_words : Fn := ⟨1, 1, [(.ret (.fld (.var 0) "_words" [(0, none)]))], []⟩
/-- Book.knows(self, text); 0 self, 1 text -/
def f_Book_knows : Fn := ⟨2, 2, [(.ret (.din false (.var 1) (.fld (.var 0) "_known" [(0, none)])))], []⟩
/-- Book.__eq__(self, other); 0 self, 1 other -/
def f_Book___eq : Fn := ⟨2, 2, [(.ret (.andv (.isc (.var 1) 0) (.cmp .eq (.fld (.var 0) "_words" [(0, none)]) (.fld (.var 1) "_words" [(0, none)]))))], []⟩
/-- Book.__len__(self); 0 self -/
def f_Book___len : Fn := ⟨1, 1, [(.ret (.bi .len [(.fld (.var 0) "_words" [(0, none)])]))], []⟩
def fs : List Fn := [f_need, f_is_sequence, f_is_text, f_is_word, f_need_book, f_has, f_starting, f_ending, f_holding, f_fits, f_fitting, f_law_so, f_law_numbers, f_law_draw, f_law_take, f_law_loose, f_law_mixed, f_law_text, f_law_texts, f_law_ordered, f_law_alphabet, f_law_words_of, f_law_fits, f_law, f_Book___init, f_Book_words, f_Book_knows, f_Book___eq, f_Book___len]
def G : GT := [(("all" : Str), GV.blt), (("bool" : Str), GV.blt), (("int" : Str), GV.blt), (("isinstance" : Str), GV.blt), (("len" : Str), GV.blt), (("list" : Str), GV.blt), (("range" : Str), GV.blt), (("set" : Str), GV.blt), (("sorted" : Str), GV.blt), (("str" : Str), GV.blt), (("tuple" : Str), GV.blt), (("zip" : Str), GV.blt), (("Book" : Str), GV.cls 0 ⟨24, [("__eq__", 27), ("__len__", 28), ("knows", 26)], [("words", 25)], ["_words", "_known"]⟩), (("LETTERS" : Str), GV.cst 0), (("MOST_WORDS" : Str), GV.cst 2), (("SIGNS" : Str), GV.cst 1), (("_law_alphabet" : Str), GV.fn 20), (("_law_draw" : Str), GV.fn 13), (("_law_fits" : Str), GV.fn 22), (("_law_loose" : Str), GV.fn 15), (("_law_mixed" : Str), GV.fn 16), (("_law_numbers" : Str), GV.fn 12), (("_law_ordered" : Str), GV.fn 19), (("_law_so" : Str), GV.fn 11), (("_law_take" : Str), GV.fn 14), (("_law_text" : Str), GV.fn 17), (("_law_texts" : Str), GV.fn 18), (("_law_words_of" : Str), GV.fn 21), (("ending" : Str), GV.fn 7), (("fits" : Str), GV.fn 9), (("fitting" : Str), GV.fn 10), (("has" : Str), GV.fn 5), (("holding" : Str), GV.fn 8), (("is_sequence" : Str), GV.fn 1), (("is_text" : Str), GV.fn 2), (("is_word" : Str), GV.fn 3), (("need" : Str), GV.fn 0), (("need_book" : Str), GV.fn 4), (("starting" : Str), GV.fn 6)]
def glL : List PV := [.str [97, 98, 99, 100, 101, 102, 103, 104, 105, 106, 107, 108, 109, 110, 111, 112, 113, 114, 115, 116, 117, 118, 119, 120, 121, 122], .str [63, 97, 98, 99, 100, 101, 102, 103, 104, 105, 106, 107, 108, 109, 110, 111, 112, 113, 114, 115, 116, 117, 118, 119, 120, 121, 122], .int (600)]
def gl : Nat → PV := fun g => glL.getD g .non
theorem sc_f_need : scopeB ["held", "at"] ["held", "at"] (defScope (topS 6)) = true := by decide +kernel
theorem ck_f_need : ckB (gkOf f_need.gens ["held", "at"] (defScope (topS 6)) G) (gaOf f_need.gens ["held", "at"] (defScope (topS 6)) G) ["held", "at"] (defScope (topS 6)) G f_need.body (defBody (topS 6)) = true := by decide +kernel
theorem sc_f_is_sequence : scopeB ["value"] ["value"] (defScope (topS 7)) = true := by decide +kernel
theorem ck_f_is_sequence : ckB (gkOf f_is_sequence.gens ["value"] (defScope (topS 7)) G) (gaOf f_is_sequence.gens ["value"] (defScope (topS 7)) G) ["value"] (defScope (topS 7)) G f_is_sequence.body (defBody (topS 7)) = true := by decide +kernel
theorem sc_f_is_text : scopeB ["value", "signs", "low", "high"] ["value", "signs", "low", "high"] (defScope (topS 8)) = true := by decide +kernel
theorem ck_f_is_text : ckB (gkOf f_is_text.gens ["value", "signs", "low", "high"] (defScope (topS 8)) G) (gaOf f_is_text.gens ["value", "signs", "low", "high"] (defScope (topS 8)) G) ["value", "signs", "low", "high"] (defScope (topS 8)) G f_is_text.body (defBody (topS 8)) = true := by decide +kernel
theorem sc_f_is_word : scopeB ["value"] ["value"] (defScope (topS 9)) = true := by decide +kernel
theorem ck_f_is_word : ckB (gkOf f_is_word.gens ["value"] (defScope (topS 9)) G) (gaOf f_is_word.gens ["value"] (defScope (topS 9)) G) ["value"] (defScope (topS 9)) G f_is_word.body (defBody (topS 9)) = true := by decide +kernel
theorem sc_f_need_book : scopeB ["value", "at"] ["value", "at"] (defScope (topS 13)) = true := by decide +kernel
theorem ck_f_need_book : ckB (gkOf f_need_book.gens ["value", "at"] (defScope (topS 13)) G) (gaOf f_need_book.gens ["value", "at"] (defScope (topS 13)) G) ["value", "at"] (defScope (topS 13)) G f_need_book.body (defBody (topS 13)) = true := by decide +kernel
theorem sc_f_has : scopeB ["book", "word"] ["book", "word"] (defScope (topS 14)) = true := by decide +kernel
theorem ck_f_has : ckB (gkOf f_has.gens ["book", "word"] (defScope (topS 14)) G) (gaOf f_has.gens ["book", "word"] (defScope (topS 14)) G) ["book", "word"] (defScope (topS 14)) G f_has.body (defBody (topS 14)) = true := by decide +kernel
theorem sc_f_starting : scopeB ["book", "text", "word"] ["book", "text"] (defScope (topS 15)) = true := by decide +kernel
theorem ck_f_starting : ckB (gkOf f_starting.gens ["book", "text", "word"] (defScope (topS 15)) G) (gaOf f_starting.gens ["book", "text", "word"] (defScope (topS 15)) G) ["book", "text", "word"] (defScope (topS 15)) G f_starting.body (defBody (topS 15)) = true := by decide +kernel
theorem sc_f_ending : scopeB ["book", "text", "word"] ["book", "text"] (defScope (topS 16)) = true := by decide +kernel
theorem ck_f_ending : ckB (gkOf f_ending.gens ["book", "text", "word"] (defScope (topS 16)) G) (gaOf f_ending.gens ["book", "text", "word"] (defScope (topS 16)) G) ["book", "text", "word"] (defScope (topS 16)) G f_ending.body (defBody (topS 16)) = true := by decide +kernel
theorem sc_f_holding : scopeB ["book", "text", "word"] ["book", "text"] (defScope (topS 17)) = true := by decide +kernel
theorem ck_f_holding : ckB (gkOf f_holding.gens ["book", "text", "word"] (defScope (topS 17)) G) (gaOf f_holding.gens ["book", "text", "word"] (defScope (topS 17)) G) ["book", "text", "word"] (defScope (topS 17)) G f_holding.body (defBody (topS 17)) = true := by decide +kernel
theorem sc_f_fits : scopeB ["pattern", "word"] ["pattern", "word"] (defScope (topS 18)) = true := by decide +kernel
theorem ck_f_fits : ckB (gkOf f_fits.gens ["pattern", "word"] (defScope (topS 18)) G) (gaOf f_fits.gens ["pattern", "word"] (defScope (topS 18)) G) ["pattern", "word"] (defScope (topS 18)) G f_fits.body (defBody (topS 18)) = true := by decide +kernel
theorem sc_f_fitting : scopeB ["book", "pattern", "word"] ["book", "pattern"] (defScope (topS 19)) = true := by decide +kernel
theorem ck_f_fitting : ckB (gkOf f_fitting.gens ["book", "pattern", "word"] (defScope (topS 19)) G) (gaOf f_fitting.gens ["book", "pattern", "word"] (defScope (topS 19)) G) ["book", "pattern", "word"] (defScope (topS 19)) G f_fitting.body (defBody (topS 19)) = true := by decide +kernel
theorem sc_f_law_so : scopeB ["found", "meant", "k"] ["found", "meant"] (defScope (topS 21)) = true := by decide +kernel
theorem ck_f_law_so : ckB (gkOf f_law_so.gens ["found", "meant", "k"] (defScope (topS 21)) G) (gaOf f_law_so.gens ["found", "meant", "k"] (defScope (topS 21)) G) ["found", "meant", "k"] (defScope (topS 21)) G f_law_so.body (defBody (topS 21)) = true := by decide +kernel
theorem sc_f_law_numbers : scopeB ["script", "row", "cell", "left", "k", "mixed"] ["script"] (defScope (topS 22)) = true := by decide +kernel
theorem ck_f_law_numbers : ckB (gkOf f_law_numbers.gens ["script", "row", "cell", "left", "k", "mixed"] (defScope (topS 22)) G) (gaOf f_law_numbers.gens ["script", "row", "cell", "left", "k", "mixed"] (defScope (topS 22)) G) ["script", "row", "cell", "left", "k", "mixed"] (defScope (topS 22)) G f_law_numbers.body (defBody (topS 22)) = true := by decide +kernel
theorem sc_f_law_draw : scopeB ["row", "at", "limit", "mixed"] ["row", "at", "limit"] (defScope (topS 23)) = true := by decide +kernel
theorem ck_f_law_draw : ckB (gkOf f_law_draw.gens ["row", "at", "limit", "mixed"] (defScope (topS 23)) G) (gaOf f_law_draw.gens ["row", "at", "limit", "mixed"] (defScope (topS 23)) G) ["row", "at", "limit", "mixed"] (defScope (topS 23)) G f_law_draw.body (defBody (topS 23)) = true := by decide +kernel
theorem sc_f_law_take : scopeB ["row", "spot", "limit"] ["row", "spot", "limit"] (defScope (topS 24)) = true := by decide +kernel
theorem ck_f_law_take : ckB (gkOf f_law_take.gens ["row", "spot", "limit"] (defScope (topS 24)) G) (gaOf f_law_take.gens ["row", "spot", "limit"] (defScope (topS 24)) G) ["row", "spot", "limit"] (defScope (topS 24)) G f_law_take.body (defBody (topS 24)) = true := by decide +kernel
theorem sc_f_law_loose : scopeB ["value", "turn", "made", "one"] ["value", "turn"] (defScope (topS 25)) = true := by decide +kernel
theorem ck_f_law_loose : ckB (gkOf f_law_loose.gens ["value", "turn", "made", "one"] (defScope (topS 25)) G) (gaOf f_law_loose.gens ["value", "turn", "made", "one"] (defScope (topS 25)) G) ["value", "turn", "made", "one"] (defScope (topS 25)) G f_law_loose.body (defBody (topS 25)) = true := by decide +kernel
theorem sc_f_law_mixed : scopeB ["row", "spot", "things", "left", "made", "k", "at"] ["row", "spot", "things"] (defScope (topS 26)) = true := by decide +kernel
theorem ck_f_law_mixed : ckB (gkOf f_law_mixed.gens ["row", "spot", "things", "left", "made", "k", "at"] (defScope (topS 26)) G) (gaOf f_law_mixed.gens ["row", "spot", "things", "left", "made", "k", "at"] (defScope (topS 26)) G) ["row", "spot", "things", "left", "made", "k", "at"] (defScope (topS 26)) G f_law_mixed.body (defBody (topS 26)) = true := by decide +kernel
theorem sc_f_law_text : scopeB ["row", "spot", "alphabet", "least", "most", "made", "k"] ["row", "spot", "alphabet", "least", "most"] (defScope (topS 27)) = true := by decide +kernel
theorem ck_f_law_text : ckB (gkOf f_law_text.gens ["row", "spot", "alphabet", "least", "most", "made", "k"] (defScope (topS 27)) G) (gaOf f_law_text.gens ["row", "spot", "alphabet", "least", "most", "made", "k"] (defScope (topS 27)) G) ["row", "spot", "alphabet", "least", "most", "made", "k"] (defScope (topS 27)) G f_law_text.body (defBody (topS 27)) = true := by decide +kernel
theorem sc_f_law_texts : scopeB ["row", "spot", "alphabet", "many", "least", "most", "k"] ["row", "spot", "alphabet", "many", "least", "most"] (defScope (topS 28)) = true := by decide +kernel
theorem ck_f_law_texts : ckB (gkOf f_law_texts.gens ["row", "spot", "alphabet", "many", "least", "most", "k"] (defScope (topS 28)) G) (gaOf f_law_texts.gens ["row", "spot", "alphabet", "many", "least", "most", "k"] (defScope (topS 28)) G) ["row", "spot", "alphabet", "many", "least", "most", "k"] (defScope (topS 28)) G f_law_texts.body (defBody (topS 28)) = true := by decide +kernel
theorem sc_f_law_ordered : scopeB ["values", "made", "one", "at"] ["values"] (defScope (topS 29)) = true := by decide +kernel
theorem ck_f_law_ordered : ckB (gkOf f_law_ordered.gens ["values", "made", "one", "at"] (defScope (topS 29)) G) (gaOf f_law_ordered.gens ["values", "made", "one", "at"] (defScope (topS 29)) G) ["values", "made", "one", "at"] (defScope (topS 29)) G f_law_ordered.body (defBody (topS 29)) = true := by decide +kernel
theorem sc_f_law_alphabet : scopeB ["row", "spot"] ["row", "spot"] (defScope (topS 30)) = true := by decide +kernel
theorem ck_f_law_alphabet : ckB (gkOf f_law_alphabet.gens ["row", "spot"] (defScope (topS 30)) G) (gaOf f_law_alphabet.gens ["row", "spot"] (defScope (topS 30)) G) ["row", "spot"] (defScope (topS 30)) G f_law_alphabet.body (defBody (topS 30)) = true := by decide +kernel
theorem sc_f_law_words_of : scopeB ["row", "spot", "many", "least", "most"] ["row", "spot", "many", "least", "most"] (defScope (topS 31)) = true := by decide +kernel
theorem ck_f_law_words_of : ckB (gkOf f_law_words_of.gens ["row", "spot", "many", "least", "most"] (defScope (topS 31)) G) (gaOf f_law_words_of.gens ["row", "spot", "many", "least", "most"] (defScope (topS 31)) G) ["row", "spot", "many", "least", "most"] (defScope (topS 31)) G f_law_words_of.body (defBody (topS 31)) = true := by decide +kernel
theorem sc_f_law_fits : scopeB ["pattern", "word", "k"] ["pattern", "word"] (defScope (topS 32)) = true := by decide +kernel
theorem ck_f_law_fits : ckB (gkOf f_law_fits.gens ["pattern", "word", "k"] (defScope (topS 32)) G) (gaOf f_law_fits.gens ["pattern", "word", "k"] (defScope (topS 32)) G) ["pattern", "word", "k"] (defScope (topS 32)) G f_law_fits.body (defBody (topS 32)) = true := by decide +kernel
theorem sc_f_law : scopeB ["script", "row", "spot", "words", "book", "due", "text", "word", "one", "pattern"] ["script"] (defScope (topS 33)) = true := by decide +kernel
theorem ck_f_law : ckB (gkOf f_law.gens ["script", "row", "spot", "words", "book", "due", "text", "word", "one", "pattern"] (defScope (topS 33)) G) (gaOf f_law.gens ["script", "row", "spot", "words", "book", "due", "text", "word", "one", "pattern"] (defScope (topS 33)) G) ["script", "row", "spot", "words", "book", "due", "text", "word", "one", "pattern"] (defScope (topS 33)) G f_law.body (defBody (topS 33)) = true := by decide +kernel
theorem sc_f_Book___init : scopeB ["self", "words", "word"] ["self", "words"] (defScope (methS 12 0)) = true := by decide +kernel
theorem ck_f_Book___init : ckB (gkOf f_Book___init.gens ["self", "words", "word"] (defScope (methS 12 0)) G) (gaOf f_Book___init.gens ["self", "words", "word"] (defScope (methS 12 0)) G) ["self", "words", "word"] (defScope (methS 12 0)) G f_Book___init.body (defBody (methS 12 0)) = true := by decide +kernel
theorem sc_f_Book_words : scopeB ["self"] ["self"] (defScope (methS 12 1)) = true := by decide +kernel
theorem ck_f_Book_words : ckB (gkOf f_Book_words.gens ["self"] (defScope (methS 12 1)) G) (gaOf f_Book_words.gens ["self"] (defScope (methS 12 1)) G) ["self"] (defScope (methS 12 1)) G f_Book_words.body (defBody (methS 12 1)) = true := by decide +kernel
theorem sc_f_Book_knows : scopeB ["self", "text"] ["self", "text"] (defScope (methS 12 2)) = true := by decide +kernel
theorem ck_f_Book_knows : ckB (gkOf f_Book_knows.gens ["self", "text"] (defScope (methS 12 2)) G) (gaOf f_Book_knows.gens ["self", "text"] (defScope (methS 12 2)) G) ["self", "text"] (defScope (methS 12 2)) G f_Book_knows.body (defBody (methS 12 2)) = true := by decide +kernel
theorem sc_f_Book___eq : scopeB ["self", "other"] ["self", "other"] (defScope (methS 12 3)) = true := by decide +kernel
theorem ck_f_Book___eq : ckB (gkOf f_Book___eq.gens ["self", "other"] (defScope (methS 12 3)) G) (gaOf f_Book___eq.gens ["self", "other"] (defScope (methS 12 3)) G) ["self", "other"] (defScope (methS 12 3)) G f_Book___eq.body (defBody (methS 12 3)) = true := by decide +kernel
theorem sc_f_Book___len : scopeB ["self"] ["self"] (defScope (methS 12 4)) = true := by decide +kernel
theorem ck_f_Book___len : ckB (gkOf f_Book___len.gens ["self"] (defScope (methS 12 4)) G) (gaOf f_Book___len.gens ["self"] (defScope (methS 12 4)) G) ["self"] (defScope (methS 12 4)) G f_Book___len.body (defBody (methS 12 4)) = true := by decide +kernel
end TL

namespace TL
open TM PM
local macro_rules | `(tactic| simp_arith [$ls:simpLemma,*]) => `(tactic| simp -implicitDefEqProofs only [envQ, CC_cf, CC_ci, CC_gl, CC_own, CC_gf, CI_cf, CI_ci, CI_gl, CI_own, CI_gf, GC_cf, GC_ci, GC_gl, GC_gf, pb, ps_never, ps_pass, ps_brk, ps_cnt, ps_set, ps_seti, ps_setf, ps_dset, ps_aug, ps_expr, ps_ret, ps_retn, ps_ite, ps_whl, ps_for, peG, peL1_b, peL2_b, peD1_b, peA_b, lc2_b, wipeQ, pe, pes, peO, peT, peI, peTs, pexpr, mutE, pmut, pseti, pdset, psetf, isM, isRefQ, Bool.false_eq_true, if_true, if_false, ite_true, ite_false, PR.bind_ok, PR.bind_bad, PR.out_ok, PO.seq_nx, PO.seq_ret, PO.seq_brk, PO.seq_cnt, ofQ_some, ofQ_none, Option.map_some, Option.map_none, List.map_cons, List.map_nil, List.replicate, List.cons_append, List.nil_append, List.length_cons, List.length_nil, List.set, Nat.reduceAdd, Nat.reduceSub, Nat.reduceLT, Nat.reduceLeDiff, Nat.sub_self, decide_true, decide_false, List.getElem?_cons_succ, List.getElem?_cons_zero, bindQ, bindQs, toC, isNonQ, look_non, look_bl, look_int, look_str, look_tup, look_lst, look_dic, look_ins, truthH_bl, truthH_non, truthH_int, truthH_lst, truthH_tup, c_lt, c_le, c_gt, c_ge, c_eq, c_ne, c_eqs, c_nes, c_lts, c_eqb, c_neb, c_isb, c_isnb, c_in1, c_nin1, c_is_non, c_isnt_non, c_is_bl, c_isnt_bl, c_is_int, c_isnt_int, c_is_str, c_isnt_str, c_is_tup, c_isnt_tup, c_is_lst, c_isnt_lst, c_is_dic, c_isnt_dic, c_is_ins, c_isnt_ins, b_add, b_sub, atH_lst, atH_tup, atI_cast, atI_0, atI_1, atI_2, atI_3, cut_lst, cut_tup, len_lst, len_tup, bi_tup, bi_tup2, bi_list, bi_list2, bi_int, bi_min, bi_max, items_lst, items_tup, items_str, isiQ, isi1, Bool.or_true, Bool.true_or, Bool.or_false, Bool.false_or, Bool.not_true, Bool.not_false, Bool.true_and, Bool.and_true, Bool.false_and, Bool.and_false, Nat.zero_le,List.length_map, beq_self_eq_true, $ls,*])
/-! k01: what the filters ask. -/
theorem so_strs (K : Nat) (hK : 2 ≤ K) (l : List (List Nat)) (hl : l.length ≤ 1000) (h : QH) : callQ fs gl K 11 [.tup (sq l), .tup (sq l)] h = .ok (.bl true) h := by
  obtain ⟨a, b⟩ := pl_strs (ws := l) (by omega)
  exact so_q (fs := fs) (gl := gl) (t := 11) rfl K _ h (by omega) a
theorem len_tup_map {ws : List (List Nat)} {h : QH} : biH .len [.tup (sq ws)] h = .ok (.int ws.length) h := by rw [len_tup, sq_len]
/-- has -/
theorem has_q {K : Nat} (hK : 3 ≤ K) {ws : List (List Nat)} {w : List Nat} (hw : Word w) (h : QH) : callQ fs gl K 5 [BookQ 0 ws, .str w] h = .ok (.bl (decide (w ∈ ws))) h := by
  obtain ⟨k, rfl, hk⟩ := lev hK
  have a1 := need_book_q (fs := fs) (gl := gl) (t := 4) (n := 0) (c := 0) (ws := ws) rfl rfl hk (.int 1) h
  have a2 := is_word_q (fs := fs) (gl := gl) (t := 3) (t2 := 2) (g := 0) rfl rfl rfl hk (word_len hw) h
  rw [word_ok hw] at a2
  have a3 := need_q (fs := fs) (gl := gl) (t := 0) rfl (show 1 ≤ k by omega) (.int 2) h
  have a4 := knows_q (fs := fs) (gl := gl) (t := 26) (c := 0) (ws := ws) rfl (show 1 ≤ k by omega) w h
  refine call_eq (fn := f_has) rfl rfl ?_
  simp_arith [f_has, a1, a2, a3, ins_book, bk_no (x := "knows") (by decide) (by decide), lookup1, a4]
  (first | exact ⟨rfl, rfl⟩ | exact ⟨trivial, rfl⟩ | exact ⟨rfl, trivial⟩ | exact ⟨trivial, trivial⟩ | exact rfl)
theorem cut_take {a : Type} (xs : List a) (j : Nat) : cutL xs none (some (j : Int)) = xs.take j := by
  by_cases h : j ≤ xs.length
  · exact cut_to xs h
  · have h1 : HT.sIx xs.length xs.length (some (j : Int)) = xs.length := by rw [HT.sIx_nat, Nat.min_eq_right (by omega)]
    have h0 : HT.sIx xs.length 0 none = 0 := rfl
    unfold cutL
    rw [h1, h0, List.take_of_length_le (by omega : xs.length ≤ j)]
    simp
def need15 : E := (.call 2 [(.var 1), (.glob 0), (.cst (.int 0)), (.cst (.int 15))])
theorem need15_ok {k : Nat} (hk : 1 ≤ k) {b : Q} {t : List Nat} {x : Option Q} {gens : List Gen} {h : QH} (hl : t.length ≤ 15) (ha : ∀ c ∈ t, c ∈ alpha) : pe (CC fs gl k 2 gens) need15 [some b, some (.str t), x] h = .ok (.bl true) h := by
  have := is_text_q (fs := fs) (gl := gl) (t := 2) rfl hk (cs := t) (sg := alpha) 0 15 (by unfold LINE; omega) h
  rw [textOk_of (by omega) (by omega) ha] at this
  have g0 : gl 0 = .str alpha := rfl
  simp_arith [need15, g0, this]
theorem starting_q {K : Nat} (hK : 3 ≤ K) {ws : List (List Nat)} (hl : ws.length ≤ 600) {t : List Nat} (h15 : t.length ≤ 15) (ha : ∀ c ∈ t, c ∈ alpha) (h : QH) : callQ fs gl K 6 [BookQ 0 ws, .str t] h = .ok (.tup (sq (ws.filter fun w => preS w t))) h := by
  obtain ⟨k, rfl, hk⟩ := lev hK
  refine bookf_q (fs := fs) (gl := gl) (nb := 4) (n := 0) (p := 25) (need := need15) (test := (.e (.me .startswith (.var 2) [(.var 1)]))) rfl rfl rfl rfl rfl hk (by omega) _ (need15_ok (by omega) h15 ha) fun w hw => ?_
  simp_arith [PM.meS]
theorem ending_q {K : Nat} (hK : 3 ≤ K) {ws : List (List Nat)} (hl : ws.length ≤ 600) {t : List Nat} (h15 : t.length ≤ 15) (ha : ∀ c ∈ t, c ∈ alpha) (h : QH) : callQ fs gl K 7 [BookQ 0 ws, .str t] h = .ok (.tup (sq (ws.filter fun w => sufS w t))) h := by
  obtain ⟨k, rfl, hk⟩ := lev hK
  refine bookf_q (fs := fs) (gl := gl) (nb := 4) (n := 0) (p := 25) (need := need15) (test := (.e (.me .endswith (.var 2) [(.var 1)]))) rfl rfl rfl rfl rfl hk (by omega) _ (need15_ok (by omega) h15 ha) fun w hw => ?_
  simp_arith [PM.meS]
theorem holding_q {K : Nat} (hK : 3 ≤ K) {ws : List (List Nat)} (hl : ws.length ≤ 600) {t : List Nat} (h15 : t.length ≤ 15) (ha : ∀ c ∈ t, c ∈ alpha) (h : QH) : callQ fs gl K 8 [BookQ 0 ws, .str t] h = .ok (.tup (sq (ws.filter fun w => inTx w t))) h := by
  obtain ⟨k, rfl, hk⟩ := lev hK
  refine bookf_q (fs := fs) (gl := gl) (nb := 4) (n := 0) (p := 25) (need := need15) (test := (.e (.cmp .inn (.var 1) (.var 2)))) rfl rfl rfl rfl rfl hk (by omega) _ (need15_ok (by omega) h15 ha) fun w hw => ?_
  simp_arith [c_intx]
/-- a pattern's letters in their places -/
def fitsF (p w : List Nat) : Bool := (w.length == p.length) && (List.zip p w).all fun x => x.1 == 63 || x.1 == x.2
theorem zip_strs : ∀ a b : List Nat, zipQ (a.map fun c => Q.str [c]) (b.map fun c => Q.str [c]) = (List.zip a b).map fun x => Q.tup [.str [x.1], .str [x.2]]
  | [], _ => rfl
  | _ :: _, [] => rfl
  | a :: as, b :: bs => by simp only [List.map_cons, zipQ, List.zip_cons_cons, zip_strs as bs]
theorem len_beq (a b : Nat) : (((a : Nat) : Int) == (b : Int)) = (a == b) := by
  rw [Bool.eq_iff_iff, beq_iff_eq, beq_iff_eq]; omega
theorem fits_q {K : Nat} (hK : 1 ≤ K) {p w : List Nat} (hp : p.length ≤ 15) (hw : w.length ≤ 15) (lp : Lets p) (lw : Lets w) (h : QH) : callQ fs gl K 9 [.str p, .str w] h = .ok (.bl (fitsF p w)) h := by
  obtain ⟨k, rfl, hk⟩ := lev hK
  refine call_eq (fn := f_fits) rfl rfl ?_
  have ga := gnb_all (C := GC fs gl k f_fits.gens 2) (h := h) (env := [some (.str p), some (.str w), none, none]) (g := fun x : Nat × Nat => Q.tup [.str [x.1], .str [x.2]]) (p := .tup [.nm 2, .nm 3]) (e := .cmp .inn (.var 2) (.tup [(.cst (.str [63])), (.var 3)])) (fun e => ∃ x y, e = [some (.str p), some (.str w), x, y]) (fun x => x.1 == 63 || x.1 == x.2) (List.zip p w) ⟨_, _, rfl⟩ (by
    rintro ⟨a, b⟩ hx env ⟨x, y, rfl⟩
    refine ⟨_, rfl, ⟨_, _, rfl⟩, ?_⟩
    have ha : a < 1114112 := lp a (List.of_mem_zip hx).1
    have hb : b < 1114112 := lw b (List.of_mem_zip hx).2
    have ci := c_ins (w := [a]) (ws := [[63], [b]]) (h := h) (fun z hz => by
      rcases List.mem_cons.mp hz with rfl | hz
      · intro c hc; rw [List.mem_singleton.mp hc]; decide
      · rw [List.mem_singleton.mp hz]; intro c hc; rw [List.mem_singleton.mp hc]; exact hb) (fun c hc => by rw [List.mem_singleton.mp hc]; exact ha)
    simp_arith [show (2 ≤ LINE) = True from eq_true (by decide)]
    simp only [sq, List.map_cons, List.map_nil] at ci
    rw [ci]
    simp_arith []
    congr 2
    simp [Bool.decide_or, Bool.beq_eq_decide_eq])
  simp only [f_fits] at ga
  have l1 : ((List.zip p w).map fun x : Nat × Nat => Q.tup [.str [x.1], .str [x.2]]).length ≤ LINE := by simp; unfold LINE; omega
  simp_arith [f_fits, len_str (show p.length ≤ LINE by unfold LINE; omega), len_str (show w.length ≤ LINE by unfold LINE; omega), len_beq]
  unfold fitsF
  cases e : (w.length == p.length) with
  | false =>
    simp_arith []
    (first | exact ⟨rfl, rfl⟩ | exact ⟨trivial, rfl⟩ | exact ⟨rfl, trivial⟩ | exact ⟨trivial, trivial⟩ | exact rfl)
  | true =>
    simp_arith [zipWQ, zip_strs, short_ok' l1, ga]
    (first | exact ⟨rfl, rfl⟩ | exact ⟨trivial, rfl⟩ | exact ⟨rfl, trivial⟩ | exact ⟨trivial, trivial⟩ | exact rfl)
theorem fitting_q {K : Nat} (hK : 3 ≤ K) {ws : List (List Nat)} (hl : ws.length ≤ 600) (hw : ∀ w ∈ ws, Word w) {p : List Nat} (h1 : 1 ≤ p.length) (h15 : p.length ≤ 15) (ha : ∀ c ∈ p, c ∈ 63 :: alpha) (h : QH) : callQ fs gl K 10 [BookQ 0 ws, .str p] h = .ok (.tup (sq (ws.filter fun w => fitsF p w))) h := by
  obtain ⟨k, rfl, hk⟩ := lev hK
  refine bookf_q (fs := fs) (gl := gl) (nb := 4) (n := 0) (p := 25) (need := (.call 2 [(.var 1), (.glob 1), (.cst (.int 1)), (.cst (.int 15))])) (test := (.e (.call 9 [(.var 1), (.var 2)]))) rfl rfl rfl rfl rfl hk (by omega) _ ?_ fun w hw' => ?_
  · have := is_text_q (fs := fs) (gl := gl) (t := 2) rfl (show 1 ≤ k by omega) (cs := p) (sg := 63 :: alpha) 1 15 (by unfold LINE; omega) h
    rw [textOk_of (by omega) (by omega) ha] at this
    have g1 : gl 1 = .str (63 :: alpha) := rfl
    simp_arith [g1, this]
  · have lp : Lets p := fun c hc => by
      rcases List.mem_cons.mp (ha c hc) with rfl | h
      · decide
      · exact Lets.of_alpha (cs := [c]) (fun d hd => by rw [List.mem_singleton.mp hd]; exact h) c (by simp)
    have := fits_q (K := k) (by omega) h15 (hw w hw').2.1 lp (hw w hw').lets h
    simp_arith [this]
/-- the law's own -/
theorem lfits_q {K : Nat} (hK : 1 ≤ K) {p w : List Nat} (hp : p.length ≤ 15) (hw : w.length ≤ 15) (h : QH) : callQ fs gl K 22 [.str p, .str w] h = .ok (.bl (fitsF p w)) h := by
  obtain ⟨k, rfl, hk⟩ := lev hK
  refine call_eq (fn := f_law_fits) rfl rfl ?_
  simp_arith [f_law_fits, len_str (show p.length ≤ LINE by unfold LINE; omega), len_str (show w.length ≤ LINE by unfold LINE; omega), len_beq]
  unfold fitsF
  cases e : (p.length == w.length) with
  | false =>
    have e2 : (w.length == p.length) = false := by rw [Bool.beq_comm]; exact e
    rw [e2]
    simp_arith []
    (first | exact ⟨rfl, rfl⟩ | exact ⟨trivial, rfl⟩ | exact ⟨rfl, trivial⟩ | exact ⟨trivial, trivial⟩ | exact rfl)
  | true =>
    have e2 : (w.length == p.length) = true := by rw [Bool.beq_comm]; exact e
    rw [e2]
    have el : p.length = w.length := eq_of_beq e
    have lc := lcb_map (C := GC fs gl k f_law_fits.gens 2) (h := h) (env := [some (.str p), some (.str w), none]) (g := fun (x : Nat) => Q.int (x : Nat)) (p := .nm 2) (ts := [(.and (.e (.cmp .ne (.idx (.var 0) (.var 2)) (.cst (.str [63])))) (.e (.cmp .ne (.idx (.var 0) (.var 2)) (.idx (.var 1) (.var 2)))))]) (e := .var 2) (fun k => !(p.getD k 0 == 63) && !(p.getD k 0 == w.getD k 0)) (fun k => .int (k : Nat)) (List.range w.length) (by simp; omega) (by
      intro x hx
      have hx : x < w.length := List.mem_range.mp hx
      refine ⟨_, rfl, ?_, fun _ => by simp_arith []⟩
      have a1 : p[x]? = some (p.getD x 0) := by rw [List.getD_eq_getElem?_getD, List.getElem?_eq_getElem (by omega)]; rfl
      have a2 : w[x]? = some (w.getD x 0) := by rw [List.getD_eq_getElem?_getD, List.getElem?_eq_getElem (by omega)]; rfl
      have b1 : ∀ a b : Nat, ([a] == [b]) = (a == b) := fun a b => by simp
      simp_arith [atH_str (show p.length ≤ LINE by unfold LINE; omega), atH_str (show w.length ≤ LINE by unfold LINE; omega), a1, a2, b1]
      cases (p.getD x 0 == 63) <;> cases (p.getD x 0 == w.getD x 0) <;> rfl)
    simp only [f_law_fits] at lc
    simp_arith [rng_ok (show w.length ≤ 1000000 by omega), lc]
    have key : (((List.range w.length).filter fun k => !(p.getD k 0 == 63) && !(p.getD k 0 == w.getD k 0)).length == 0) = ((List.zip p w).all fun x => x.1 == 63 || x.1 == x.2) := by
      rw [Bool.eq_iff_iff, beq_iff_eq, List.length_eq_zero_iff, List.filter_eq_nil_iff, List.all_eq_true]
      constructor
      · rintro hh ⟨a, b⟩ hx
        obtain ⟨i, li, hi⟩ := List.mem_iff_getElem.mp hx
        have l2 : i < p.length ∧ i < w.length := by simp at li; omega
        have := hh i (List.mem_range.mpr l2.2)
        rw [List.getElem_zip] at hi
        cases hi
        rw [List.getD_eq_getElem?_getD, List.getD_eq_getElem?_getD, List.getElem?_eq_getElem l2.1, List.getElem?_eq_getElem l2.2] at this
        simp only [Option.getD_some, Bool.and_eq_true, Bool.not_eq_true', not_and] at this
        simp only [Bool.or_eq_true]
        cases e3 : (p[i] == 63) with
        | true => exact .inl rfl
        | false => exact .inr (by simpa using this e3)
      · intro hh i hi
        have l2 : i < w.length := List.mem_range.mp hi
        have l1 : i < p.length := by omega
        have := hh (p[i], w[i]) (by rw [List.mem_iff_getElem]; exact ⟨i, by simp; omega, by rw [List.getElem_zip]⟩)
        rw [List.getD_eq_getElem?_getD, List.getD_eq_getElem?_getD, List.getElem?_eq_getElem l1, List.getElem?_eq_getElem l2]
        simp only [Option.getD_some]
        simp only [Bool.or_eq_true] at this
        rcases this with h | h <;> simp [h]
    rw [← key]
    have z : ∀ n : Nat, ((n : Int) == 0) = (n == 0) := fun n => len_beq n 0
    simp only [z]
    (first | exact ⟨rfl, rfl⟩ | exact ⟨trivial, rfl⟩ | exact ⟨rfl, trivial⟩ | exact ⟨trivial, trivial⟩ | exact rfl)
end TL
namespace TL
open TM PM
local macro_rules | `(tactic| simp_arith [$ls:simpLemma,*]) => `(tactic| simp -implicitDefEqProofs only [envQ, CC_cf, CC_ci, CC_gl, CC_own, CC_gf, CI_cf, CI_ci, CI_gl, CI_own, CI_gf, GC_cf, GC_ci, GC_gl, GC_gf, pb, ps_never, ps_pass, ps_brk, ps_cnt, ps_set, ps_seti, ps_setf, ps_dset, ps_aug, ps_expr, ps_ret, ps_retn, ps_ite, ps_whl, ps_for, peG, peL1_b, peL2_b, peD1_b, peA_b, lc2_b, wipeQ, pe, pes, peO, peT, peI, peTs, pexpr, mutE, pmut, pseti, pdset, psetf, isM, isRefQ, Bool.false_eq_true, if_true, if_false, ite_true, ite_false, PR.bind_ok, PR.bind_bad, PR.out_ok, PO.seq_nx, PO.seq_ret, PO.seq_brk, PO.seq_cnt, ofQ_some, ofQ_none, Option.map_some, Option.map_none, List.map_cons, List.map_nil, List.replicate, List.cons_append, List.nil_append, List.length_cons, List.length_nil, List.set, Nat.reduceAdd, Nat.reduceSub, Nat.reduceLT, Nat.reduceLeDiff, Nat.sub_self, decide_true, decide_false, List.getElem?_cons_succ, List.getElem?_cons_zero, bindQ, bindQs, toC, isNonQ, look_non, look_bl, look_int, look_str, look_tup, look_lst, look_dic, look_ins, truthH_bl, truthH_non, truthH_int, truthH_lst, truthH_tup, c_lt, c_le, c_gt, c_ge, c_eq, c_ne, c_eqs, c_nes, c_lts, c_eqb, c_neb, c_isb, c_isnb, c_in1, c_nin1, c_is_non, c_isnt_non, c_is_bl, c_isnt_bl, c_is_int, c_isnt_int, c_is_str, c_isnt_str, c_is_tup, c_isnt_tup, c_is_lst, c_isnt_lst, c_is_dic, c_isnt_dic, c_is_ins, c_isnt_ins, b_add, b_sub, atH_lst, atH_tup, atI_cast, atI_0, atI_1, atI_2, atI_3, cut_lst, cut_tup, len_lst, len_tup, bi_tup, bi_tup2, bi_list, bi_list2, bi_int, bi_min, bi_max, items_lst, items_tup, items_str, isiQ, isi1, Bool.or_true, Bool.true_or, Bool.or_false, Bool.false_or, Bool.not_true, Bool.not_false, Bool.true_and, Bool.and_true, Bool.false_and, Bool.and_false, Nat.zero_le,List.length_map, beq_self_eq_true, $ls,*])
theorem perm_map {a b : Type} {f : a → b} {zs ys : List b} (h : zs.Perm ys) : ∀ {ws : List a}, zs = ws.map f → ∃ us : List a, ys = us.map f ∧ us.Perm ws := by
  induction h with
  | nil => intro ws e; exact ⟨ws, e, .refl _⟩
  | cons x h ih =>
    intro ws e
    cases ws with
    | nil => cases e
    | cons w ws =>
      simp only [List.map_cons, List.cons.injEq] at e
      obtain ⟨us, u1, u2⟩ := ih e.2
      exact ⟨w :: us, by simp [u1, e.1], u2.cons w⟩
  | swap x y l =>
    intro ws e
    match ws, e with
    | w :: v :: ws, e =>
      simp only [List.map_cons, List.cons.injEq] at e
      exact ⟨v :: w :: ws, by simp [e.1, e.2.1, e.2.2], .swap w v ws⟩
  | trans h1 h2 i1 i2 =>
    intro ws e
    obtain ⟨us, u1, u2⟩ := i1 e
    obtain ⟨vs, v1, v2⟩ := i2 u1
    exact ⟨vs, v1, v2.trans u2⟩
theorem main01 : ∀ row : List Int, row ≠ [] → PS (pb (CC fs gl 11 1 f_law.gens) (f_law.body.drop 2) (none :: some (rq row) :: some (.ref 0) :: List.replicate 7 none) (sp 0)) No No No fun q _ => q = .bl true := by
  intro row hx
  have T : ∀ K, 2 ≤ K → TakeQ fs gl K 14 row := fun K hK => take_q (fs := fs) (gl := gl) (t := 14) (dr := 13) rfl rfl hK hx
  obtain ⟨ws, n1, a1, a2, a3⟩ := words_of_q (fs := fs) (gl := gl) (t := 21) (ts := 18) (tx := 17) (tk := 14) (ta := 20) rfl rfl rfl rfl (K := 11) rfl (T 8 (by decide)) (T 9 (by decide)) (many := 25) (least := 1) (most := 5) (by decide) (by decide) (by decide) 0
  have a1 : callQ fs gl 11 21 [rq row, .ref 0, .int 25, .int 1, .int 5] (sp 0) = .ok (.tup (sq ws)) (sp n1) := a1
  obtain ⟨d, d1, d2⟩ := T 11 (by decide) n1 2 (by decide)
  have d2 : callQ fs gl 11 14 [rq row, .ref 0, .int 2] (sp n1) = .ok (.int d) (sp (n1 + 1)) := d2
  have wd : ∀ x ∈ ws, Word x := fun x hx => ⟨(a3.all x hx).1, by have := (a3.all x hx).2.1; omega, (a3.all x hx).2.2⟩
  obtain ⟨p1, p2⟩ := pl_strs (ws := ws) (by omega)
  have e1 := loose_q (fs := fs) (gl := gl) (t := 15) rfl 11 (.tup (sq ws)) d (sp (n1 + 1)) (by omega) p1
  have rv : Row (looseV (.tup (sq ws)) d) (sq ws) := by
    have : looseL (sq ws) (d + 1) = sq ws := by
      rw [looseL_map, List.map_map]
      exact List.map_congr_left fun x _ => rfl
    rw [looseV, this]
    split
    · exact .inl rfl
    · exact .inr rfl
  generalize looseV (.tup (sq ws)) d = v at e1 rv
  have bk : ∀ {v : Q} {us : List (List Nat)} (h : QH), Row v (sq us) → us.length ≤ 600 → (∀ x ∈ us, Word x) → initQ fs gl 11 0 24 [v] h = .ok (BookQ 0 (txo us)) h := fun h r l w => book_q (fs := fs) (gl := gl) (t := 24) (n := 0) (s := 1) (g := 2) (w2 := 3) (c := 0) (tt := 2) (gw := 0) rfl rfl rfl rfl rfl rfl rfl (by decide) r l w h
  have e2 := bk (sp (n1 + 1)) rv (by omega) wd
  have e3 := ordered_s (fs := fs) (gl := gl) (t := 19) (K := 11) rfl (by decide) (sp (n1 + 1)) (.inr rfl : Row (.tup (sq ws)) (sq ws)) (by omega)
  obtain ⟨ys, n2, f1, f2⟩ := mixed_q (fs := fs) (gl := gl) (t := 16) (tk := 14) rfl (K := 11) rfl (T 10 (by decide)) (.inr rfl : Row (.tup (sq ws)) (sq ws)) (by rw [sq_len]; omega) (n1 + 1)
  have fy : ∃ us, ys = sq us ∧ us.Perm ws := by
    exact perm_map f2.symm rfl
  obtain ⟨us, rfl, up⟩ := fy
  have e4 := bk (sp n2) (.inl rfl : Row (.lst (sq us)) (sq us)) (by rw [up.length_eq]; omega) fun x hx => wd x (up.mem_iff.mp hx)
  have eu : txo us = txo ws := asc_uniq (txo_asc us) (txo_asc ws) fun x => by
    show x ∈ isort leN (nubS us) ↔ x ∈ isort leN (nubS ws)
    rw [txo_mem, txo_mem, up.mem_iff]
  rw [eu] at e4
  have eo : ordU ws = txo ws := (txo_ordU ws).symm
  rw [eo] at e3
  have tw : ∀ w ∈ txo ws, Word w := fun w hw => wd w (txo_mem.mp hw)
  have tl : ∀ w ∈ txo ws, Lets w := fun w hw => (tw w hw).lets
  have tn := txo_len ws
  have ta := txo_asc ws
  have ta : AscN (txo ws) := ta
  generalize txo ws = due at e2 e3 e4 tw tl tn ta
  obtain ⟨tx, n3, g1, g2, g3, g4⟩ := text_q (fs := fs) (gl := gl) (t := 17) (tk := 14) rfl (K := 11) rfl (T 10 (by decide)) (al := [97, 98, 99]) (least := 0) (most := 3) (by decide) (by decide) (by decide) (by decide) n2
  have g1 : callQ fs gl 11 17 [rq row, .ref 0, .str [97, 98, 99], .int 0, .int 3] (sp n2) = .ok (.str tx) (sp n3) := g1
  obtain ⟨wo, n4, h1, h2, h3, h4⟩ := text_q (fs := fs) (gl := gl) (t := 17) (tk := 14) rfl (K := 11) rfl (T 10 (by decide)) (al := [97, 98, 99]) (least := 1) (most := 4) (by decide) (by decide) (by decide) (by decide) n3
  have h1 : callQ fs gl 11 17 [rq row, .ref 0, .str [97, 98, 99], .int 1, .int 4] (sp n3) = .ok (.str wo) (sp n4) := h1
  obtain ⟨pa, n5, i1, i2, i3, i4⟩ := text_q (fs := fs) (gl := gl) (t := 17) (tk := 14) rfl (K := 11) rfl (T 10 (by decide)) (al := [97, 98, 63, 63]) (least := 1) (most := 5) (by decide) (by decide) (by decide) (by decide) n4
  have i1 : callQ fs gl 11 17 [rq row, .ref 0, .str [97, 98, 63, 63], .int 1, .int 5] (sp n4) = .ok (.str pa) (sp n5) := i1
  have abc : ∀ c ∈ ([97, 98, 99] : List Nat), c ∈ alpha := by decide
  have ab : ∀ c ∈ ([97, 98, 63, 63] : List Nat), c ∈ 63 :: alpha := by decide
  have ww : Word wo := ⟨h2, by omega, fun c hc => abc c (h4 c hc)⟩
  have ax : ∀ c ∈ tx, c ∈ alpha := fun c hc => abc c (g4 c hc)
  have ap : ∀ c ∈ pa, c ∈ 63 :: alpha := fun c hc => ab c (i4 c hc)
  have sos : ∀ l : List (List Nat), l.length ≤ 1000 → ∀ h, callQ fs gl 11 11 [.tup (sq l), .tup (sq l)] h = .ok (.bl true) h := fun l hl h => so_strs 11 (by decide) l hl h
  have fl : ∀ f : List Nat → Bool, (due.filter f).length ≤ 1000 := fun f => Nat.le_trans (List.length_filter_le _ _) (by omega)
  have l1 : (sq due).length ≤ LINE := by rw [sq_len]; unfold LINE; omega
  have lw : ∀ w ∈ due, w.length ≤ LINE := fun w hw => word_len (tw w hw)
  have lx : tx.length ≤ LINE := by unfold LINE; omega
  have f0 : (fun w : List Nat => preS w tx) = fun w => w.take tx.length == tx := by
    funext w
    unfold preS
    cases e : (w.take tx.length == tx) with
    | false => rw [Bool.and_false]
    | true =>
      have := congrArg List.length (eq_of_beq e)
      rw [List.length_take] at this
      rw [decide_eq_true (by omega)]; rfl
  have s1 := starting_q (K := 11) (by decide) (ws := due) (by omega) (t := tx) (by omega) ax (sp n4)
  rw [f0] at s1
  have s2 := ending_q (K := 11) (by decide) (ws := due) (by omega) (t := tx) (by omega) ax (sp n4)
  have s3 := holding_q (K := 11) (by decide) (ws := due) (by omega) (t := tx) (by omega) ax (sp n4)
  have s4 := fitting_q (K := 11) (by decide) (ws := due) (by omega) tw (p := pa) i2 (by omega) ap (sp n5)
  have s0 := has_q (K := 11) (by decide) (ws := due) ww (sp n4)
  have so0 : callQ fs gl 11 11 [.bl (decide (wo ∈ due)), .bl (decide (wo ∈ due))] (sp n4) = .ok (.bl true) (sp n4) := so_q (fs := fs) (gl := gl) (t := 11) rfl 11 _ _ (by show 0 < 11; decide) rfl
  have c0 := c_ins (h := sp n4) tl ww.lets
  have q1 := fun x8 x9 => lcb_map (C := GC fs gl 11 f_law.gens 2) (h := sp n4) (env := [none, some (rq row), some (.ref 0), some (.tup (sq ws)), some (BookQ 0 due), some (.tup (sq due)), some (.str tx), some (.str wo), x8, x9]) (g := Q.str) (p := .nm 8) (ts := [(.e (.cmp .eq (.slc (.var 8) none (some (.bi .len [(.var 6)]))) (.var 6)))]) (e := .var 8) (fun w => w.take tx.length == tx) Q.str due (by omega) (by
    intro w hw
    refine ⟨_, rfl, ?_, fun _ => by simp_arith []⟩
    simp_arith [len_str lx, cut_str (lw w hw), cut_take]
    cases (w.take tx.length == tx) <;> rfl)
  have q2 := fun x8 x9 => lcb_map (C := GC fs gl 11 f_law.gens 2) (h := sp n4) (env := [none, some (rq row), some (.ref 0), some (.tup (sq ws)), some (BookQ 0 due), some (.tup (sq due)), some (.str tx), some (.str wo), x8, x9]) (g := Q.str) (p := .nm 8) (ts := [(.and (.e (.cmp .ge (.bi .len [(.var 8)]) (.bi .len [(.var 6)]))) (.e (.cmp .eq (.slc (.var 8) (some (.bin .sub (.bi .len [(.var 8)]) (.bi .len [(.var 6)]))) none) (.var 6))))]) (e := .var 8) (fun w => sufS w tx) Q.str due (by omega) (by
    intro w hw
    refine ⟨_, rfl, ?_, fun _ => by simp_arith []⟩
    simp_arith [len_str lx, len_str (lw w hw), cut_str (lw w hw)]
    unfold sufS
    by_cases hl : tx.length ≤ w.length
    · rw [decide_eq_true hl, decide_eq_true (show (tx.length : Int) ≤ w.length by omega)]
      have : ((w.length : Int) - tx.length) = ((w.length - tx.length : Nat) : Int) := by omega
      rw [this, cut_from w (by omega)]
      simp_arith []
      cases (w.drop (w.length - tx.length) == tx) <;> rfl
    · rw [decide_eq_false hl, decide_eq_false (show ¬(tx.length : Int) ≤ w.length by omega)]
      simp_arith [])
  have q3 := fun x8 x9 => lcb_map (C := GC fs gl 11 f_law.gens 2) (h := sp n4) (env := [none, some (rq row), some (.ref 0), some (.tup (sq ws)), some (BookQ 0 due), some (.tup (sq due)), some (.str tx), some (.str wo), x8, x9]) (g := Q.str) (p := .nm 8) (ts := [(.e (.cmp .inn (.var 6) (.var 8)))]) (e := .var 8) (fun w => inTx w tx) Q.str due (by omega) (by
    intro w hw
    refine ⟨_, rfl, ?_, fun _ => by simp_arith []⟩
    simp_arith [c_intx]
    cases inTx w tx <;> rfl)
  have q4 := fun x8 => lcb_map (C := GC fs gl 11 f_law.gens 2) (h := sp n5) (env := [none, some (rq row), some (.ref 0), some (.tup (sq ws)), some (BookQ 0 due), some (.tup (sq due)), some (.str tx), some (.str wo), x8, some (.str pa)]) (g := Q.str) (p := .nm 8) (ts := [(.e (.call 22 [(.var 9), (.var 8)]))]) (e := .var 8) (fun w => fitsF pa w) Q.str due (by omega) (by
    intro w hw
    refine ⟨_, rfl, ?_, fun _ => by simp_arith []⟩
    have := lfits_q (K := 11) (by decide) (p := pa) (w := w) (by omega) (tw w hw).2.1 (sp n5)
    simp_arith [this]
    cases fitsF pa w <;> rfl)
  have b1 := beq_q (fs := fs) (gl := gl) (t := 27) (c := 0) rfl (K := 11) (by decide) tl tl (sp n2)
  have b2 := fun u (hu : iscQ (sp n2) u 0 = some false) => beq_no_q (fs := fs) (gl := gl) (t := 27) (c := 0) (ws := due) rfl (K := 11) (by decide) hu
  have b3 := blen_q (fs := fs) (gl := gl) (t := 28) (c := 0) (ws := due) rfl (K := 11) (by decide) (sp (n1 + 1))
  have w1 := words_q (fs := fs) (gl := gl) (t := 25) (c := 0) (ws := due) rfl (K := 11) (by decide) (sp (n1 + 1))
  have isc5 : iscQ (sp n2) (.int 5) 0 = some false := rfl
  have iscd : iscQ (sp n2) (.tup (sq due)) 0 = some false := rfl
  -- the book without its first word
  have tail : due ≠ [] → initQ fs gl 11 0 24 [.tup (cutL (sq due) (some 1) none)] (sp n2) = .ok (BookQ 0 due.tail) (sp n2) := by
    intro hd
    have hp : 1 ≤ due.length := List.length_pos_iff.mpr hd
    have e : cutL (sq due) (some 1) none = sq due.tail := by
      have := cut_from (sq due) (j := 1) (by rw [sq_len]; exact hp)
      have h1 : cutL (sq due) (some 1) none = (sq due).drop 1 := this
      rw [h1, ← List.map_drop, List.drop_one]
    rw [e]
    have := bk (v := .tup (sq due.tail)) (sp n2) (.inr rfl) (by simp; omega) fun x hx => tw x (List.mem_of_mem_tail hx)
    rw [this]
    have ta' : AscN due.tail := List.Pairwise.tail ta
    rw [show txo due.tail = due.tail from txo_self ta']
  have b4 := beq_q (fs := fs) (gl := gl) (t := 27) (c := 0) rfl (K := 11) (by decide) tl (fun w hw => tl w (List.mem_of_mem_tail hw) : ∀ w ∈ due.tail, Lets w) (sp n2)
  have sd := fun h => sos due (by omega) h
  have sf := fun f h => sos (due.filter f) (fl f) h
  have one : ∀ x : List (List Nat), (x == x) = true := fun x => by simp
  have c9 : decide (0 ≤ ((due.length : Nat) : Int)) = true := by simp
  have c8 : decide (((due.length : Nat) : Int) < 4611686018427387904) = true := by simp; omega
  simp only [f_law] at q1 q2 q3 q4
  have go : (if decide ((0 : Int) < due.length) then (if (due == due.tail) = true then false else true) else true) = true := by
    cases due with
    | nil => rfl
    | cons x xs =>
      have : ((x :: xs) == xs) = false := by
        rw [beq_eq_false_iff_ne]
        intro z
        have := congrArg List.length z
        simp at this
      simp [this]
  by_cases hd : due = []
  · have hp : decide ((0 : Int) < (due.length : Int)) = false := by rw [hd]; rfl
    simp_arith [f_law, List.drop_succ_cons, List.drop_zero, a1, d2, e1, e2, e3, ins_book, lookup1, w1, sd, b3, c8, c9, beq_self_eq_true, f1, e4, isc_book, b1, isc5, iscd, List.length_map, b2, hp, g1, h1, s0, c0, so0, s1, short_ok' l1, q1, sf, s2, q2, s3, q3]
    simp_arith [short_ok' l1, i1, s4, q4, sf]
    exact PS.ret rfl
  · have tl1 := tail hd
    have hp : decide ((0 : Int) < (due.length : Int)) = true := by
      rw [decide_eq_true_eq]
      have := List.length_pos_iff.mpr hd
      omega
    have ne : (due == due.tail) = false := by
      rw [beq_eq_false_iff_ne]
      intro z
      have h1 := congrArg List.length z
      have h2 := List.length_pos_iff.mpr hd
      rw [List.length_tail] at h1
      omega
    simp_arith [f_law, List.drop_succ_cons, List.drop_zero, a1, d2, e1, e2, e3, ins_book, lookup1, w1, sd, b3, c8, c9, beq_self_eq_true, f1, e4, isc_book, b1, isc5, iscd, List.length_map, b2, hp, g1, h1, s0, c0, so0, s1, short_ok' l1, q1, sf, s2, q2, s3, q3, tl1, b4, ne]
    simp_arith [short_ok' l1, i1, s4, q4, sf]
    exact PS.ret rfl
theorem law_main : ∀ ns : List Int, ns.length ≤ 63 → ∀ o, ScrO ns o → ∃ S', callN fs gl 12 23 [.obj 0] [o] = .ok (.bl true) S' :=
  law_run (fs := fs) (gl := gl) (k := 10) (jl := 23) (jn := 12) (nn := 10) (rest := f_law.body.drop 2) (gens := f_law.gens) rfl rfl (by decide +kernel) (by decide) (by decide +kernel) main01
end TL

namespace TL
open PySem PySem.Spec PyProof.Rows TM L2
theorem all_mk {l : PySem.W.OpenLaw} {w : World} {K : PySem.W.Frag} {h : Heap} {mg : Str → Option Value} {fa : Addr} {ts : List Addr} {od1 an1 : Option Addr} {sl1 : Array (Option Value)} {oc1 kV1 dc1 pm1 ct1 : Value} {f1 : Addr} {cd1 : Value} {od2 an2 : Option Addr} {sl2 : Array (Option Value)} {oc2 kV2 dc2 pm2 ct2 : Value} {f2 : Addr} {cd2 : Value} {od3 an3 : Option Addr} {sl3 : Array (Option Value)} {oc3 kV3 dc3 pm3 ct3 : Value} {f3 : Addr} {c3 P3 : Addr} {e3 : Value} {dd3 : Option Addr} {vs3 : Array Value} {sc3 : Array (Option Value)} {od4 an4 : Option Addr} {sl4 : Array (Option Value)} {oc4 kV4 dc4 pm4 ct4 : Value} {f4 : Addr} {cd4 : Value} {od5 an5 : Option Addr} {sl5 : Array (Option Value)} {oc5 kV5 dc5 pm5 ct5 : Value} {f5 : Addr} {cd5 : Value} {od6 an6 : Option Addr} {sl6 : Array (Option Value)} {oc6 kV6 dc6 pm6 ct6 : Value} {f6 : Addr} {cd6 : Value} {od7 an7 : Option Addr} {sl7 : Array (Option Value)} {oc7 kV7 dc7 pm7 ct7 : Value} {f7 : Addr} {cd7 : Value} {od8 an8 : Option Addr} {sl8 : Array (Option Value)} {oc8 kV8 dc8 pm8 ct8 : Value} {f8 : Addr} {cd8 : Value} {od9 an9 : Option Addr} {sl9 : Array (Option Value)} {oc9 kV9 dc9 pm9 ct9 : Value} {f9 : Addr} {cd9 : Value} {od10 an10 : Option Addr} {sl10 : Array (Option Value)} {oc10 kV10 dc10 pm10 ct10 : Value} {f10 : Addr} {c10 P10 : Addr} {e10 : Value} {dd10 : Option Addr} {vs10 : Array Value} {sc10 : Array (Option Value)} {od11 an11 : Option Addr} {sl11 : Array (Option Value)} {oc11 kV11 dc11 pm11 ct11 : Value} {f11 : Addr} {cd11 : Value} {od12 an12 : Option Addr} {sl12 : Array (Option Value)} {oc12 kV12 dc12 pm12 ct12 : Value} {f12 : Addr} {cd12 : Value} {od13 an13 : Option Addr} {sl13 : Array (Option Value)} {oc13 kV13 dc13 pm13 ct13 : Value} {f13 : Addr} {cd13 : Value} {od14 an14 : Option Addr} {sl14 : Array (Option Value)} {oc14 kV14 dc14 pm14 ct14 : Value} {f14 : Addr} {cd14 : Value} {od15 an15 : Option Addr} {sl15 : Array (Option Value)} {oc15 kV15 dc15 pm15 ct15 : Value} {f15 : Addr} {cd15 : Value} {od16 an16 : Option Addr} {sl16 : Array (Option Value)} {oc16 kV16 dc16 pm16 ct16 : Value} {f16 : Addr} {cd16 : Value} {od17 an17 : Option Addr} {sl17 : Array (Option Value)} {oc17 kV17 dc17 pm17 ct17 : Value} {f17 : Addr} {cd17 : Value} {od18 an18 : Option Addr} {sl18 : Array (Option Value)} {oc18 kV18 dc18 pm18 ct18 : Value} {f18 : Addr} {cd18 : Value} {od19 an19 : Option Addr} {sl19 : Array (Option Value)} {oc19 kV19 dc19 pm19 ct19 : Value} {f19 : Addr} {cd19 : Value} {od20 an20 : Option Addr} {sl20 : Array (Option Value)} {oc20 kV20 dc20 pm20 ct20 : Value} {f20 : Addr} {cd20 : Value} {od21 an21 : Option Addr} {sl21 : Array (Option Value)} {oc21 kV21 dc21 pm21 ct21 : Value} {f21 : Addr} {cd21 : Value} {od22 an22 : Option Addr} {sl22 : Array (Option Value)} {oc22 kV22 dc22 pm22 ct22 : Value} {f22 : Addr} {cd22 : Value} {od23 an23 : Option Addr} {sl23 : Array (Option Value)} {oc23 kV23 dc23 pm23 ct23 : Value} {f23 : Addr} {cd23 : Value} {od24 an24 : Option Addr} {sl24 : Array (Option Value)} {oc24 kV24 dc24 pm24 ct24 : Value} {f24 : Addr} {cd24 : Value} {od25 an25 : Option Addr} {sl25 : Array (Option Value)} {oc25 kV25 dc25 pm25 ct25 : Value} {f25 : Addr} {c25 P25 : Addr} {e25 : Value} {dd25 : Option Addr} {vs25 : Array Value} {sc25 : Array (Option Value)} {od26 an26 : Option Addr} {sl26 : Array (Option Value)} {oc26 kV26 dc26 pm26 ct26 : Value} {f26 : Addr} {cd26 : Value} {od27 an27 : Option Addr} {sl27 : Array (Option Value)} {oc27 kV27 dc27 pm27 ct27 : Value} {f27 : Addr} {cd27 : Value} {od28 an28 : Option Addr} {sl28 : Array (Option Value)} {oc28 kV28 dc28 pm28 ct28 : Value} {f28 : Addr} {cd28 : Value} {od29 an29 : Option Addr} {sl29 : Array (Option Value)} {oc29 kV29 dc29 pm29 ct29 : Value} {f29 : Addr} {cd29 : Value} {cs0 : Value} {cs1 : Value} {cs2 : Value} {C0 : Addr} {pp26 : Addr} {re26 : List Value}
    (X : K.In h) (HG : h.Ns mainGlobals mg) (hfa : mg "law" = some (.ref fa)) (tabs : ∀ P ∈ ts, h.get? P = some { cls := .none, data := .fields #[] })
    (Ca0 : PySem.W.nsIn K mainGlobals "Book" = some (some (.ref C0))) (Cb0 : PySem.W.plainGet K C0 Str.empty = true) (Cc0 : PySem.W.hasDictIn K C0 = true) (Cd0 : PySem.W.plainOver K C0 = true) (Ce0 : PySem.W.findIn K (.ref C0) "__setattr__" = some (some (.builtin "object.__setattr__"))) (Cf0 : PySem.W.makesIn K C0 = true) (Cg0 : PySem.W.keepIn K (.ref C0) = true)
    (Ch0 : PySem.W.findIn K (.ref C0) "__class__" = some (some (.builtin "object.__class__"))) (Ci0 : PySem.W.specialIn K (.builtin "object.__class__") "__get__" = some (some (.builtin "getset_descriptor.__get__"))) (Cj0 : PySem.W.takesIn K (.builtin "object.__class__") = some true) (Ck0 : PySem.W.mroIn K C0 (.type "object") = some true) (Cl0 : PySem.W.kitOne K (.ref C0) (.ref C0) = some true)
    (Na0 : PySem.W.kitOne K (.type "NoneType") (.ref C0) = some false)
    (Nb0 : PySem.W.kitOne K (.type "bool") (.ref C0) = some false)
    (Nc0 : PySem.W.kitOne K (.type "int") (.ref C0) = some false)
    (Nd0 : PySem.W.kitOne K (.type "str") (.ref C0) = some false)
    (Ne0 : PySem.W.kitOne K (.type "tuple") (.ref C0) = some false)
    (Nf0 : PySem.W.kitOne K (.type "list") (.ref C0) = some false)
    (T0_0 : PySem.W.findIn K (.ref C0) "_words" = some none)
    (T0_1 : PySem.W.findIn K (.ref C0) "_known" = some none)
    (I25 : PySem.W.findIn K (.ref C0) "__init__" = some (some (.ref f25))) (J25 : PySem.W.isFn K (.ref f25) = true)
    (I28 : PySem.W.findIn K (.ref C0) "__eq__" = some (some (.ref f28))) (J28 : PySem.W.isFn K (.ref f28) = true)
    (I29 : PySem.W.findIn K (.ref C0) "__len__" = some (some (.ref f29))) (J29 : PySem.W.isFn K (.ref f29) = true)
    (I27 : PySem.W.findIn K (.ref C0) "knows" = some (some (.ref f27))) (J27 : PySem.W.isFn K (.ref f27) = true)
    (I26 : PySem.W.findIn K (.ref C0) "words" = some (some (.ref pp26))) (J26 : PySem.W.specialIn K (.ref pp26) "__get__" = some (some (.builtin "property.__get__"))) (Q26 : PySem.W.takesIn K (.ref pp26) = some true) (R26 : PySem.W.recIn K pp26 "property" = some (.ref f26 :: re26))
    (a1 : PySem.W.nsIn K mainGlobals "need" = some (some (.ref f1)))
    (l1 : K.lookup f1 = some ⟨oc1, od1, .func (PySem.W.fnOf "need" "need" (defArgs (topS 6)) (defBody (topS 6)) (defScope (topS 6)) .none kV1 dc1 pm1 an1 cd1 ct1), sl1⟩) (d1 : PySem.W.codeIn K cd1 "need" = true) (k1 : PySem.W.keepIn K (.ref f1) = true)
    (a2 : PySem.W.nsIn K mainGlobals "is_sequence" = some (some (.ref f2)))
    (l2 : K.lookup f2 = some ⟨oc2, od2, .func (PySem.W.fnOf "is_sequence" "is_sequence" (defArgs (topS 7)) (defBody (topS 7)) (defScope (topS 7)) .none kV2 dc2 pm2 an2 cd2 ct2), sl2⟩) (d2 : PySem.W.codeIn K cd2 "is_sequence" = true) (k2 : PySem.W.keepIn K (.ref f2) = true)
    (a3 : PySem.W.nsIn K mainGlobals "is_text" = some (some (.ref f3)))
    (l3 : K.lookup f3 = some ⟨oc3, od3, .func (PySem.W.fnOf "is_text" "is_text" (defArgs (topS 8)) (defBody (topS 8)) (defScope (topS 8)) .none kV3 dc3 pm3 an3 (.ref c3) ct3), sl3⟩) (d3 : PySem.W.codeIn K (.ref c3) "is_text" = true) (k3 : PySem.W.keepIn K (.ref f3) = true)
    (u3 : K.lookup c3 = some ⟨e3, dd3, .fields vs3, sc3⟩) (v3 : vs3[11]? = some (.ref P3)) (n3 : K.lookup P3 = none) (h3 : PySem.W.codeHdIn K c3 P3 = true) (b3 : P3 ∈ ts)
    (a4 : PySem.W.nsIn K mainGlobals "is_word" = some (some (.ref f4)))
    (l4 : K.lookup f4 = some ⟨oc4, od4, .func (PySem.W.fnOf "is_word" "is_word" (defArgs (topS 9)) (defBody (topS 9)) (defScope (topS 9)) .none kV4 dc4 pm4 an4 cd4 ct4), sl4⟩) (d4 : PySem.W.codeIn K cd4 "is_word" = true) (k4 : PySem.W.keepIn K (.ref f4) = true)
    (a5 : PySem.W.nsIn K mainGlobals "need_book" = some (some (.ref f5)))
    (l5 : K.lookup f5 = some ⟨oc5, od5, .func (PySem.W.fnOf "need_book" "need_book" (defArgs (topS 13)) (defBody (topS 13)) (defScope (topS 13)) .none kV5 dc5 pm5 an5 cd5 ct5), sl5⟩) (d5 : PySem.W.codeIn K cd5 "need_book" = true) (k5 : PySem.W.keepIn K (.ref f5) = true)
    (a6 : PySem.W.nsIn K mainGlobals "has" = some (some (.ref f6)))
    (l6 : K.lookup f6 = some ⟨oc6, od6, .func (PySem.W.fnOf "has" "has" (defArgs (topS 14)) (defBody (topS 14)) (defScope (topS 14)) .none kV6 dc6 pm6 an6 cd6 ct6), sl6⟩) (d6 : PySem.W.codeIn K cd6 "has" = true) (k6 : PySem.W.keepIn K (.ref f6) = true)
    (a7 : PySem.W.nsIn K mainGlobals "starting" = some (some (.ref f7)))
    (l7 : K.lookup f7 = some ⟨oc7, od7, .func (PySem.W.fnOf "starting" "starting" (defArgs (topS 15)) (defBody (topS 15)) (defScope (topS 15)) .none kV7 dc7 pm7 an7 cd7 ct7), sl7⟩) (d7 : PySem.W.codeIn K cd7 "starting" = true) (k7 : PySem.W.keepIn K (.ref f7) = true)
    (a8 : PySem.W.nsIn K mainGlobals "ending" = some (some (.ref f8)))
    (l8 : K.lookup f8 = some ⟨oc8, od8, .func (PySem.W.fnOf "ending" "ending" (defArgs (topS 16)) (defBody (topS 16)) (defScope (topS 16)) .none kV8 dc8 pm8 an8 cd8 ct8), sl8⟩) (d8 : PySem.W.codeIn K cd8 "ending" = true) (k8 : PySem.W.keepIn K (.ref f8) = true)
    (a9 : PySem.W.nsIn K mainGlobals "holding" = some (some (.ref f9)))
    (l9 : K.lookup f9 = some ⟨oc9, od9, .func (PySem.W.fnOf "holding" "holding" (defArgs (topS 17)) (defBody (topS 17)) (defScope (topS 17)) .none kV9 dc9 pm9 an9 cd9 ct9), sl9⟩) (d9 : PySem.W.codeIn K cd9 "holding" = true) (k9 : PySem.W.keepIn K (.ref f9) = true)
    (a10 : PySem.W.nsIn K mainGlobals "fits" = some (some (.ref f10)))
    (l10 : K.lookup f10 = some ⟨oc10, od10, .func (PySem.W.fnOf "fits" "fits" (defArgs (topS 18)) (defBody (topS 18)) (defScope (topS 18)) .none kV10 dc10 pm10 an10 (.ref c10) ct10), sl10⟩) (d10 : PySem.W.codeIn K (.ref c10) "fits" = true) (k10 : PySem.W.keepIn K (.ref f10) = true)
    (u10 : K.lookup c10 = some ⟨e10, dd10, .fields vs10, sc10⟩) (v10 : vs10[11]? = some (.ref P10)) (n10 : K.lookup P10 = none) (h10 : PySem.W.codeHdIn K c10 P10 = true) (b10 : P10 ∈ ts)
    (a11 : PySem.W.nsIn K mainGlobals "fitting" = some (some (.ref f11)))
    (l11 : K.lookup f11 = some ⟨oc11, od11, .func (PySem.W.fnOf "fitting" "fitting" (defArgs (topS 19)) (defBody (topS 19)) (defScope (topS 19)) .none kV11 dc11 pm11 an11 cd11 ct11), sl11⟩) (d11 : PySem.W.codeIn K cd11 "fitting" = true) (k11 : PySem.W.keepIn K (.ref f11) = true)
    (a12 : PySem.W.nsIn K mainGlobals "_law_so" = some (some (.ref f12)))
    (l12 : K.lookup f12 = some ⟨oc12, od12, .func (PySem.W.fnOf "_law_so" "_law_so" (defArgs (topS 21)) (defBody (topS 21)) (defScope (topS 21)) .none kV12 dc12 pm12 an12 cd12 ct12), sl12⟩) (d12 : PySem.W.codeIn K cd12 "_law_so" = true) (k12 : PySem.W.keepIn K (.ref f12) = true)
    (a13 : PySem.W.nsIn K mainGlobals "_law_numbers" = some (some (.ref f13)))
    (l13 : K.lookup f13 = some ⟨oc13, od13, .func (PySem.W.fnOf "_law_numbers" "_law_numbers" (defArgs (topS 22)) (defBody (topS 22)) (defScope (topS 22)) .none kV13 dc13 pm13 an13 cd13 ct13), sl13⟩) (d13 : PySem.W.codeIn K cd13 "_law_numbers" = true) (k13 : PySem.W.keepIn K (.ref f13) = true)
    (a14 : PySem.W.nsIn K mainGlobals "_law_draw" = some (some (.ref f14)))
    (l14 : K.lookup f14 = some ⟨oc14, od14, .func (PySem.W.fnOf "_law_draw" "_law_draw" (defArgs (topS 23)) (defBody (topS 23)) (defScope (topS 23)) .none kV14 dc14 pm14 an14 cd14 ct14), sl14⟩) (d14 : PySem.W.codeIn K cd14 "_law_draw" = true) (k14 : PySem.W.keepIn K (.ref f14) = true)
    (a15 : PySem.W.nsIn K mainGlobals "_law_take" = some (some (.ref f15)))
    (l15 : K.lookup f15 = some ⟨oc15, od15, .func (PySem.W.fnOf "_law_take" "_law_take" (defArgs (topS 24)) (defBody (topS 24)) (defScope (topS 24)) .none kV15 dc15 pm15 an15 cd15 ct15), sl15⟩) (d15 : PySem.W.codeIn K cd15 "_law_take" = true) (k15 : PySem.W.keepIn K (.ref f15) = true)
    (a16 : PySem.W.nsIn K mainGlobals "_law_loose" = some (some (.ref f16)))
    (l16 : K.lookup f16 = some ⟨oc16, od16, .func (PySem.W.fnOf "_law_loose" "_law_loose" (defArgs (topS 25)) (defBody (topS 25)) (defScope (topS 25)) .none kV16 dc16 pm16 an16 cd16 ct16), sl16⟩) (d16 : PySem.W.codeIn K cd16 "_law_loose" = true) (k16 : PySem.W.keepIn K (.ref f16) = true)
    (a17 : PySem.W.nsIn K mainGlobals "_law_mixed" = some (some (.ref f17)))
    (l17 : K.lookup f17 = some ⟨oc17, od17, .func (PySem.W.fnOf "_law_mixed" "_law_mixed" (defArgs (topS 26)) (defBody (topS 26)) (defScope (topS 26)) .none kV17 dc17 pm17 an17 cd17 ct17), sl17⟩) (d17 : PySem.W.codeIn K cd17 "_law_mixed" = true) (k17 : PySem.W.keepIn K (.ref f17) = true)
    (a18 : PySem.W.nsIn K mainGlobals "_law_text" = some (some (.ref f18)))
    (l18 : K.lookup f18 = some ⟨oc18, od18, .func (PySem.W.fnOf "_law_text" "_law_text" (defArgs (topS 27)) (defBody (topS 27)) (defScope (topS 27)) .none kV18 dc18 pm18 an18 cd18 ct18), sl18⟩) (d18 : PySem.W.codeIn K cd18 "_law_text" = true) (k18 : PySem.W.keepIn K (.ref f18) = true)
    (a19 : PySem.W.nsIn K mainGlobals "_law_texts" = some (some (.ref f19)))
    (l19 : K.lookup f19 = some ⟨oc19, od19, .func (PySem.W.fnOf "_law_texts" "_law_texts" (defArgs (topS 28)) (defBody (topS 28)) (defScope (topS 28)) .none kV19 dc19 pm19 an19 cd19 ct19), sl19⟩) (d19 : PySem.W.codeIn K cd19 "_law_texts" = true) (k19 : PySem.W.keepIn K (.ref f19) = true)
    (a20 : PySem.W.nsIn K mainGlobals "_law_ordered" = some (some (.ref f20)))
    (l20 : K.lookup f20 = some ⟨oc20, od20, .func (PySem.W.fnOf "_law_ordered" "_law_ordered" (defArgs (topS 29)) (defBody (topS 29)) (defScope (topS 29)) .none kV20 dc20 pm20 an20 cd20 ct20), sl20⟩) (d20 : PySem.W.codeIn K cd20 "_law_ordered" = true) (k20 : PySem.W.keepIn K (.ref f20) = true)
    (a21 : PySem.W.nsIn K mainGlobals "_law_alphabet" = some (some (.ref f21)))
    (l21 : K.lookup f21 = some ⟨oc21, od21, .func (PySem.W.fnOf "_law_alphabet" "_law_alphabet" (defArgs (topS 30)) (defBody (topS 30)) (defScope (topS 30)) .none kV21 dc21 pm21 an21 cd21 ct21), sl21⟩) (d21 : PySem.W.codeIn K cd21 "_law_alphabet" = true) (k21 : PySem.W.keepIn K (.ref f21) = true)
    (a22 : PySem.W.nsIn K mainGlobals "_law_words_of" = some (some (.ref f22)))
    (l22 : K.lookup f22 = some ⟨oc22, od22, .func (PySem.W.fnOf "_law_words_of" "_law_words_of" (defArgs (topS 31)) (defBody (topS 31)) (defScope (topS 31)) .none kV22 dc22 pm22 an22 cd22 ct22), sl22⟩) (d22 : PySem.W.codeIn K cd22 "_law_words_of" = true) (k22 : PySem.W.keepIn K (.ref f22) = true)
    (a23 : PySem.W.nsIn K mainGlobals "_law_fits" = some (some (.ref f23)))
    (l23 : K.lookup f23 = some ⟨oc23, od23, .func (PySem.W.fnOf "_law_fits" "_law_fits" (defArgs (topS 32)) (defBody (topS 32)) (defScope (topS 32)) .none kV23 dc23 pm23 an23 cd23 ct23), sl23⟩) (d23 : PySem.W.codeIn K cd23 "_law_fits" = true) (k23 : PySem.W.keepIn K (.ref f23) = true)
    (a24 : PySem.W.nsIn K mainGlobals "law" = some (some (.ref f24)))
    (l24 : K.lookup f24 = some ⟨oc24, od24, .func (PySem.W.fnOf "law" "law" (defArgs (topS 33)) (defBody (topS 33)) (defScope (topS 33)) .none kV24 dc24 pm24 an24 cd24 ct24), sl24⟩) (d24 : PySem.W.codeIn K cd24 "law" = true) (k24 : PySem.W.keepIn K (.ref f24) = true)
    (l25 : K.lookup f25 = some ⟨oc25, od25, .func (PySem.W.fnOf "__init__" "Book.__init__" (defArgs (methS 12 0)) (defBody (methS 12 0)) (defScope (methS 12 0)) .none kV25 dc25 pm25 an25 (.ref c25) ct25), sl25⟩) (d25 : PySem.W.codeIn K (.ref c25) "Book.__init__" = true) (k25 : PySem.W.keepIn K (.ref f25) = true)
    (u25 : K.lookup c25 = some ⟨e25, dd25, .fields vs25, sc25⟩) (v25 : vs25[11]? = some (.ref P25)) (n25 : K.lookup P25 = none) (h25 : PySem.W.codeHdIn K c25 P25 = true) (b25 : P25 ∈ ts)
    (l26 : K.lookup f26 = some ⟨oc26, od26, .func (PySem.W.fnOf "words" "Book.words" (defArgs (methS 12 1)) (defBody (methS 12 1)) (defScope (methS 12 1)) .none kV26 dc26 pm26 an26 cd26 ct26), sl26⟩) (d26 : PySem.W.codeIn K cd26 "Book.words" = true) (k26 : PySem.W.keepIn K (.ref f26) = true)
    (l27 : K.lookup f27 = some ⟨oc27, od27, .func (PySem.W.fnOf "knows" "Book.knows" (defArgs (methS 12 2)) (defBody (methS 12 2)) (defScope (methS 12 2)) .none kV27 dc27 pm27 an27 cd27 ct27), sl27⟩) (d27 : PySem.W.codeIn K cd27 "Book.knows" = true) (k27 : PySem.W.keepIn K (.ref f27) = true)
    (l28 : K.lookup f28 = some ⟨oc28, od28, .func (PySem.W.fnOf "__eq__" "Book.__eq__" (defArgs (methS 12 3)) (defBody (methS 12 3)) (defScope (methS 12 3)) .none kV28 dc28 pm28 an28 cd28 ct28), sl28⟩) (d28 : PySem.W.codeIn K cd28 "Book.__eq__" = true) (k28 : PySem.W.keepIn K (.ref f28) = true)
    (l29 : K.lookup f29 = some ⟨oc29, od29, .func (PySem.W.fnOf "__len__" "Book.__len__" (defArgs (methS 12 4)) (defBody (methS 12 4)) (defScope (methS 12 4)) .none kV29 dc29 pm29 an29 cd29 ct29), sl29⟩) (d29 : PySem.W.codeIn K cd29 "Book.__len__" = true) (k29 : PySem.W.keepIn K (.ref f29) = true)
    (z0 : PySem.W.nsIn K mainGlobals "all" = some none)
    (z1 : PySem.W.nsIn K mainGlobals "bool" = some none)
    (z2 : PySem.W.nsIn K mainGlobals "int" = some none)
    (z3 : PySem.W.nsIn K mainGlobals "isinstance" = some none)
    (z4 : PySem.W.nsIn K mainGlobals "len" = some none)
    (z5 : PySem.W.nsIn K mainGlobals "list" = some none)
    (z6 : PySem.W.nsIn K mainGlobals "range" = some none)
    (z7 : PySem.W.nsIn K mainGlobals "set" = some none)
    (z8 : PySem.W.nsIn K mainGlobals "sorted" = some none)
    (z9 : PySem.W.nsIn K mainGlobals "str" = some none)
    (z10 : PySem.W.nsIn K mainGlobals "tuple" = some none)
    (z11 : PySem.W.nsIn K mainGlobals "zip" = some none)
    (y0 : PySem.W.nsIn K mainGlobals "LETTERS" = some (some cs0)) (w0 : ∃ v, RelV v cs0 ∧ ∀ n io H, Rep K n io H (gl 0) v)
    (y1 : PySem.W.nsIn K mainGlobals "MOST_WORDS" = some (some cs1)) (w1 : ∃ v, RelV v cs1 ∧ ∀ n io H, Rep K n io H (gl 2) v)
    (y2 : PySem.W.nsIn K mainGlobals "SIGNS" = some (some cs2)) (w2 : ∃ v, RelV v cs2 ∧ ∀ n io H, Rep K n io H (gl 1) v)
    : ∃ (fd : FuncData) (cs : List (Addr × Addr)) (cl : Nat → Addr), (∀ p ∈ cs, h.get? p.2 = some { cls := .none, data := .fields #[] }) ∧ (∀ p ∈ cs, K.lookup p.2 = none) ∧ (∀ p ∈ cs, PySem.W.codeHdIn K p.1 p.2 = true) ∧ (∀ (s : Shared) (v : Value), BindsTo s fd ⟨[v], []⟩ [("script", v)]) ∧
      ∀ base : Heap, K.In base → base.Ns mainGlobals mg → (∀ p ∈ cs, GxR.TabB base mg p.1 p.2) → FnOk l.prog w K mg base (L2.CX l.prog w) (3 * 12) fa fd ["script"] (spOf K (tbOf cs cl) (fun _ _ _ _ => False) 1 (callN fs gl 12 23)) := by
  have e := hfa.symm.trans (PySem.W.mg_of X HG a24)
  cases e
  have F1 := funC_mk (st := topS 6) l1 d1 k1
  have B1 : DefB K [(c3, P3), (c10, P10), (c25, P25)] fs G 0 f1 _ ["held", "at"] := ⟨F1.old.binds (ps := ["held", "at"]) fun _ _ _ _ _ _ us hl => match us, hl with | [_, _], _ => rfl, _, _, _, ["held", "at"], _, _, F1, scope_of sc_f_need, rfl, rfl, rfl, ck_f_need, .inl rfl⟩
  have D1 : DefOk K mg [(c3, P3), (c10, P10), (c25, P25)] fs G "need" 0 f1 _ ["held", "at"] := ⟨B1, PySem.W.mg_of X HG a1⟩
  have F2 := funC_mk (st := topS 7) l2 d2 k2
  have B2 : DefB K [(c3, P3), (c10, P10), (c25, P25)] fs G 1 f2 _ ["value"] := ⟨F2.old.binds (ps := ["value"]) fun _ _ _ _ _ _ us hl => match us, hl with | [_], _ => rfl, _, _, _, ["value"], _, _, F2, scope_of sc_f_is_sequence, rfl, rfl, rfl, ck_f_is_sequence, .inl rfl⟩
  have D2 : DefOk K mg [(c3, P3), (c10, P10), (c25, P25)] fs G "is_sequence" 1 f2 _ ["value"] := ⟨B2, PySem.W.mg_of X HG a2⟩
  have F3 := funC_mk (st := topS 8) l3 d3 k3
  have B3 : DefB K [(c3, P3), (c10, P10), (c25, P25)] fs G 2 f3 _ ["value", "signs", "low", "high"] := ⟨F3.old.binds (ps := ["value", "signs", "low", "high"]) fun _ _ _ _ _ _ us hl => match us, hl with | [_, _, _, _], _ => rfl, _, _, _, ["value", "signs", "low", "high"], _, _, F3, scope_of sc_f_is_text, rfl, rfl, rfl, ck_f_is_text, .inr ⟨c3, P3, rfl, by simp⟩⟩
  have D3 : DefOk K mg [(c3, P3), (c10, P10), (c25, P25)] fs G "is_text" 2 f3 _ ["value", "signs", "low", "high"] := ⟨B3, PySem.W.mg_of X HG a3⟩
  have F4 := funC_mk (st := topS 9) l4 d4 k4
  have B4 : DefB K [(c3, P3), (c10, P10), (c25, P25)] fs G 3 f4 _ ["value"] := ⟨F4.old.binds (ps := ["value"]) fun _ _ _ _ _ _ us hl => match us, hl with | [_], _ => rfl, _, _, _, ["value"], _, _, F4, scope_of sc_f_is_word, rfl, rfl, rfl, ck_f_is_word, .inl rfl⟩
  have D4 : DefOk K mg [(c3, P3), (c10, P10), (c25, P25)] fs G "is_word" 3 f4 _ ["value"] := ⟨B4, PySem.W.mg_of X HG a4⟩
  have F5 := funC_mk (st := topS 13) l5 d5 k5
  have B5 : DefB K [(c3, P3), (c10, P10), (c25, P25)] fs G 4 f5 _ ["value", "at"] := ⟨F5.old.binds (ps := ["value", "at"]) fun _ _ _ _ _ _ us hl => match us, hl with | [_, _], _ => rfl, _, _, _, ["value", "at"], _, _, F5, scope_of sc_f_need_book, rfl, rfl, rfl, ck_f_need_book, .inl rfl⟩
  have D5 : DefOk K mg [(c3, P3), (c10, P10), (c25, P25)] fs G "need_book" 4 f5 _ ["value", "at"] := ⟨B5, PySem.W.mg_of X HG a5⟩
  have F6 := funC_mk (st := topS 14) l6 d6 k6
  have B6 : DefB K [(c3, P3), (c10, P10), (c25, P25)] fs G 5 f6 _ ["book", "word"] := ⟨F6.old.binds (ps := ["book", "word"]) fun _ _ _ _ _ _ us hl => match us, hl with | [_, _], _ => rfl, _, _, _, ["book", "word"], _, _, F6, scope_of sc_f_has, rfl, rfl, rfl, ck_f_has, .inl rfl⟩
  have D6 : DefOk K mg [(c3, P3), (c10, P10), (c25, P25)] fs G "has" 5 f6 _ ["book", "word"] := ⟨B6, PySem.W.mg_of X HG a6⟩
  have F7 := funC_mk (st := topS 15) l7 d7 k7
  have B7 : DefB K [(c3, P3), (c10, P10), (c25, P25)] fs G 6 f7 _ ["book", "text"] := ⟨F7.old.binds (ps := ["book", "text"]) fun _ _ _ _ _ _ us hl => match us, hl with | [_, _], _ => rfl, _, _, _, ["book", "text", "word"], _, _, F7, scope_of sc_f_starting, rfl, rfl, rfl, ck_f_starting, .inl rfl⟩
  have D7 : DefOk K mg [(c3, P3), (c10, P10), (c25, P25)] fs G "starting" 6 f7 _ ["book", "text"] := ⟨B7, PySem.W.mg_of X HG a7⟩
  have F8 := funC_mk (st := topS 16) l8 d8 k8
  have B8 : DefB K [(c3, P3), (c10, P10), (c25, P25)] fs G 7 f8 _ ["book", "text"] := ⟨F8.old.binds (ps := ["book", "text"]) fun _ _ _ _ _ _ us hl => match us, hl with | [_, _], _ => rfl, _, _, _, ["book", "text", "word"], _, _, F8, scope_of sc_f_ending, rfl, rfl, rfl, ck_f_ending, .inl rfl⟩
  have D8 : DefOk K mg [(c3, P3), (c10, P10), (c25, P25)] fs G "ending" 7 f8 _ ["book", "text"] := ⟨B8, PySem.W.mg_of X HG a8⟩
  have F9 := funC_mk (st := topS 17) l9 d9 k9
  have B9 : DefB K [(c3, P3), (c10, P10), (c25, P25)] fs G 8 f9 _ ["book", "text"] := ⟨F9.old.binds (ps := ["book", "text"]) fun _ _ _ _ _ _ us hl => match us, hl with | [_, _], _ => rfl, _, _, _, ["book", "text", "word"], _, _, F9, scope_of sc_f_holding, rfl, rfl, rfl, ck_f_holding, .inl rfl⟩
  have D9 : DefOk K mg [(c3, P3), (c10, P10), (c25, P25)] fs G "holding" 8 f9 _ ["book", "text"] := ⟨B9, PySem.W.mg_of X HG a9⟩
  have F10 := funC_mk (st := topS 18) l10 d10 k10
  have B10 : DefB K [(c3, P3), (c10, P10), (c25, P25)] fs G 9 f10 _ ["pattern", "word"] := ⟨F10.old.binds (ps := ["pattern", "word"]) fun _ _ _ _ _ _ us hl => match us, hl with | [_, _], _ => rfl, _, _, _, ["pattern", "word"], _, _, F10, scope_of sc_f_fits, rfl, rfl, rfl, ck_f_fits, .inr ⟨c10, P10, rfl, by simp⟩⟩
  have D10 : DefOk K mg [(c3, P3), (c10, P10), (c25, P25)] fs G "fits" 9 f10 _ ["pattern", "word"] := ⟨B10, PySem.W.mg_of X HG a10⟩
  have F11 := funC_mk (st := topS 19) l11 d11 k11
  have B11 : DefB K [(c3, P3), (c10, P10), (c25, P25)] fs G 10 f11 _ ["book", "pattern"] := ⟨F11.old.binds (ps := ["book", "pattern"]) fun _ _ _ _ _ _ us hl => match us, hl with | [_, _], _ => rfl, _, _, _, ["book", "pattern", "word"], _, _, F11, scope_of sc_f_fitting, rfl, rfl, rfl, ck_f_fitting, .inl rfl⟩
  have D11 : DefOk K mg [(c3, P3), (c10, P10), (c25, P25)] fs G "fitting" 10 f11 _ ["book", "pattern"] := ⟨B11, PySem.W.mg_of X HG a11⟩
  have F12 := funC_mk (st := topS 21) l12 d12 k12
  have B12 : DefB K [(c3, P3), (c10, P10), (c25, P25)] fs G 11 f12 _ ["found", "meant"] := ⟨F12.old.binds (ps := ["found", "meant"]) fun _ _ _ _ _ _ us hl => match us, hl with | [_, _], _ => rfl, _, _, _, ["found", "meant", "k"], _, _, F12, scope_of sc_f_law_so, rfl, rfl, rfl, ck_f_law_so, .inl rfl⟩
  have D12 : DefOk K mg [(c3, P3), (c10, P10), (c25, P25)] fs G "_law_so" 11 f12 _ ["found", "meant"] := ⟨B12, PySem.W.mg_of X HG a12⟩
  have F13 := funC_mk (st := topS 22) l13 d13 k13
  have B13 : DefB K [(c3, P3), (c10, P10), (c25, P25)] fs G 12 f13 _ ["script"] := ⟨F13.old.binds (ps := ["script"]) fun _ _ _ _ _ _ us hl => match us, hl with | [_], _ => rfl, _, _, _, ["script", "row", "cell", "left", "k", "mixed"], _, _, F13, scope_of sc_f_law_numbers, rfl, rfl, rfl, ck_f_law_numbers, .inl rfl⟩
  have D13 : DefOk K mg [(c3, P3), (c10, P10), (c25, P25)] fs G "_law_numbers" 12 f13 _ ["script"] := ⟨B13, PySem.W.mg_of X HG a13⟩
  have F14 := funC_mk (st := topS 23) l14 d14 k14
  have B14 : DefB K [(c3, P3), (c10, P10), (c25, P25)] fs G 13 f14 _ ["row", "at", "limit"] := ⟨F14.old.binds (ps := ["row", "at", "limit"]) fun _ _ _ _ _ _ us hl => match us, hl with | [_, _, _], _ => rfl, _, _, _, ["row", "at", "limit", "mixed"], _, _, F14, scope_of sc_f_law_draw, rfl, rfl, rfl, ck_f_law_draw, .inl rfl⟩
  have D14 : DefOk K mg [(c3, P3), (c10, P10), (c25, P25)] fs G "_law_draw" 13 f14 _ ["row", "at", "limit"] := ⟨B14, PySem.W.mg_of X HG a14⟩
  have F15 := funC_mk (st := topS 24) l15 d15 k15
  have B15 : DefB K [(c3, P3), (c10, P10), (c25, P25)] fs G 14 f15 _ ["row", "spot", "limit"] := ⟨F15.old.binds (ps := ["row", "spot", "limit"]) fun _ _ _ _ _ _ us hl => match us, hl with | [_, _, _], _ => rfl, _, _, _, ["row", "spot", "limit"], _, _, F15, scope_of sc_f_law_take, rfl, rfl, rfl, ck_f_law_take, .inl rfl⟩
  have D15 : DefOk K mg [(c3, P3), (c10, P10), (c25, P25)] fs G "_law_take" 14 f15 _ ["row", "spot", "limit"] := ⟨B15, PySem.W.mg_of X HG a15⟩
  have F16 := funC_mk (st := topS 25) l16 d16 k16
  have B16 : DefB K [(c3, P3), (c10, P10), (c25, P25)] fs G 15 f16 _ ["value", "turn"] := ⟨F16.old.binds (ps := ["value", "turn"]) fun _ _ _ _ _ _ us hl => match us, hl with | [_, _], _ => rfl, _, _, _, ["value", "turn", "made", "one"], _, _, F16, scope_of sc_f_law_loose, rfl, rfl, rfl, ck_f_law_loose, .inl rfl⟩
  have D16 : DefOk K mg [(c3, P3), (c10, P10), (c25, P25)] fs G "_law_loose" 15 f16 _ ["value", "turn"] := ⟨B16, PySem.W.mg_of X HG a16⟩
  have F17 := funC_mk (st := topS 26) l17 d17 k17
  have B17 : DefB K [(c3, P3), (c10, P10), (c25, P25)] fs G 16 f17 _ ["row", "spot", "things"] := ⟨F17.old.binds (ps := ["row", "spot", "things"]) fun _ _ _ _ _ _ us hl => match us, hl with | [_, _, _], _ => rfl, _, _, _, ["row", "spot", "things", "left", "made", "k", "at"], _, _, F17, scope_of sc_f_law_mixed, rfl, rfl, rfl, ck_f_law_mixed, .inl rfl⟩
  have D17 : DefOk K mg [(c3, P3), (c10, P10), (c25, P25)] fs G "_law_mixed" 16 f17 _ ["row", "spot", "things"] := ⟨B17, PySem.W.mg_of X HG a17⟩
  have F18 := funC_mk (st := topS 27) l18 d18 k18
  have B18 : DefB K [(c3, P3), (c10, P10), (c25, P25)] fs G 17 f18 _ ["row", "spot", "alphabet", "least", "most"] := ⟨F18.old.binds (ps := ["row", "spot", "alphabet", "least", "most"]) fun _ _ _ _ _ _ us hl => match us, hl with | [_, _, _, _, _], _ => rfl, _, _, _, ["row", "spot", "alphabet", "least", "most", "made", "k"], _, _, F18, scope_of sc_f_law_text, rfl, rfl, rfl, ck_f_law_text, .inl rfl⟩
  have D18 : DefOk K mg [(c3, P3), (c10, P10), (c25, P25)] fs G "_law_text" 17 f18 _ ["row", "spot", "alphabet", "least", "most"] := ⟨B18, PySem.W.mg_of X HG a18⟩
  have F19 := funC_mk (st := topS 28) l19 d19 k19
  have B19 : DefB K [(c3, P3), (c10, P10), (c25, P25)] fs G 18 f19 _ ["row", "spot", "alphabet", "many", "least", "most"] := ⟨F19.old.binds (ps := ["row", "spot", "alphabet", "many", "least", "most"]) fun _ _ _ _ _ _ us hl => match us, hl with | [_, _, _, _, _, _], _ => rfl, _, _, _, ["row", "spot", "alphabet", "many", "least", "most", "k"], _, _, F19, scope_of sc_f_law_texts, rfl, rfl, rfl, ck_f_law_texts, .inl rfl⟩
  have D19 : DefOk K mg [(c3, P3), (c10, P10), (c25, P25)] fs G "_law_texts" 18 f19 _ ["row", "spot", "alphabet", "many", "least", "most"] := ⟨B19, PySem.W.mg_of X HG a19⟩
  have F20 := funC_mk (st := topS 29) l20 d20 k20
  have B20 : DefB K [(c3, P3), (c10, P10), (c25, P25)] fs G 19 f20 _ ["values"] := ⟨F20.old.binds (ps := ["values"]) fun _ _ _ _ _ _ us hl => match us, hl with | [_], _ => rfl, _, _, _, ["values", "made", "one", "at"], _, _, F20, scope_of sc_f_law_ordered, rfl, rfl, rfl, ck_f_law_ordered, .inl rfl⟩
  have D20 : DefOk K mg [(c3, P3), (c10, P10), (c25, P25)] fs G "_law_ordered" 19 f20 _ ["values"] := ⟨B20, PySem.W.mg_of X HG a20⟩
  have F21 := funC_mk (st := topS 30) l21 d21 k21
  have B21 : DefB K [(c3, P3), (c10, P10), (c25, P25)] fs G 20 f21 _ ["row", "spot"] := ⟨F21.old.binds (ps := ["row", "spot"]) fun _ _ _ _ _ _ us hl => match us, hl with | [_, _], _ => rfl, _, _, _, ["row", "spot"], _, _, F21, scope_of sc_f_law_alphabet, rfl, rfl, rfl, ck_f_law_alphabet, .inl rfl⟩
  have D21 : DefOk K mg [(c3, P3), (c10, P10), (c25, P25)] fs G "_law_alphabet" 20 f21 _ ["row", "spot"] := ⟨B21, PySem.W.mg_of X HG a21⟩
  have F22 := funC_mk (st := topS 31) l22 d22 k22
  have B22 : DefB K [(c3, P3), (c10, P10), (c25, P25)] fs G 21 f22 _ ["row", "spot", "many", "least", "most"] := ⟨F22.old.binds (ps := ["row", "spot", "many", "least", "most"]) fun _ _ _ _ _ _ us hl => match us, hl with | [_, _, _, _, _], _ => rfl, _, _, _, ["row", "spot", "many", "least", "most"], _, _, F22, scope_of sc_f_law_words_of, rfl, rfl, rfl, ck_f_law_words_of, .inl rfl⟩
  have D22 : DefOk K mg [(c3, P3), (c10, P10), (c25, P25)] fs G "_law_words_of" 21 f22 _ ["row", "spot", "many", "least", "most"] := ⟨B22, PySem.W.mg_of X HG a22⟩
  have F23 := funC_mk (st := topS 32) l23 d23 k23
  have B23 : DefB K [(c3, P3), (c10, P10), (c25, P25)] fs G 22 f23 _ ["pattern", "word"] := ⟨F23.old.binds (ps := ["pattern", "word"]) fun _ _ _ _ _ _ us hl => match us, hl with | [_, _], _ => rfl, _, _, _, ["pattern", "word", "k"], _, _, F23, scope_of sc_f_law_fits, rfl, rfl, rfl, ck_f_law_fits, .inl rfl⟩
  have D23 : DefOk K mg [(c3, P3), (c10, P10), (c25, P25)] fs G "_law_fits" 22 f23 _ ["pattern", "word"] := ⟨B23, PySem.W.mg_of X HG a23⟩
  have F24 := funC_mk (st := topS 33) l24 d24 k24
  have B24 : DefB K [(c3, P3), (c10, P10), (c25, P25)] fs G 23 _ _ ["script"] := ⟨F24.old.binds (ps := ["script"]) fun _ _ _ _ _ _ us hl => match us, hl with | [_], _ => rfl, _, _, _, ["script", "row", "spot", "words", "book", "due", "text", "word", "one", "pattern"], _, _, F24, scope_of sc_f_law, rfl, rfl, rfl, ck_f_law, .inl rfl⟩
  have D24 : DefOk K mg [(c3, P3), (c10, P10), (c25, P25)] fs G "law" 23 _ _ ["script"] := ⟨B24, PySem.W.mg_of X HG a24⟩
  have F25 := funC_mk (st := methS 12 0) l25 d25 k25
  have B25 : DefB K [(c3, P3), (c10, P10), (c25, P25)] fs G 24 f25 _ ["self", "words"] := ⟨F25.old.binds (ps := ["self", "words"]) fun _ _ _ _ _ _ us hl => match us, hl with | [_, _], _ => rfl, _, _, _, ["self", "words", "word"], _, _, F25, scope_of sc_f_Book___init, rfl, rfl, rfl, ck_f_Book___init, .inr ⟨c25, P25, rfl, by simp⟩⟩
  have F26 := funC_mk (st := methS 12 1) l26 d26 k26
  have B26 : DefB K [(c3, P3), (c10, P10), (c25, P25)] fs G 25 f26 _ ["self"] := ⟨F26.old.binds (ps := ["self"]) fun _ _ _ _ _ _ us hl => match us, hl with | [_], _ => rfl, _, _, _, ["self"], _, _, F26, scope_of sc_f_Book_words, rfl, rfl, rfl, ck_f_Book_words, .inl rfl⟩
  have F27 := funC_mk (st := methS 12 2) l27 d27 k27
  have B27 : DefB K [(c3, P3), (c10, P10), (c25, P25)] fs G 26 f27 _ ["self", "text"] := ⟨F27.old.binds (ps := ["self", "text"]) fun _ _ _ _ _ _ us hl => match us, hl with | [_, _], _ => rfl, _, _, _, ["self", "text"], _, _, F27, scope_of sc_f_Book_knows, rfl, rfl, rfl, ck_f_Book_knows, .inl rfl⟩
  have F28 := funC_mk (st := methS 12 3) l28 d28 k28
  have B28 : DefB K [(c3, P3), (c10, P10), (c25, P25)] fs G 27 f28 _ ["self", "other"] := ⟨F28.old.binds (ps := ["self", "other"]) fun _ _ _ _ _ _ us hl => match us, hl with | [_, _], _ => rfl, _, _, _, ["self", "other"], _, _, F28, scope_of sc_f_Book___eq, rfl, rfl, rfl, ck_f_Book___eq, .inl rfl⟩
  have F29 := funC_mk (st := methS 12 4) l29 d29 k29
  have B29 : DefB K [(c3, P3), (c10, P10), (c25, P25)] fs G 28 f29 _ ["self"] := ⟨F29.old.binds (ps := ["self"]) fun _ _ _ _ _ _ us hl => match us, hl with | [_], _ => rfl, _, _, _, ["self"], _, _, F29, scope_of sc_f_Book___len, rfl, rfl, rfl, ck_f_Book___len, .inl rfl⟩
  have E0 : ClsB K mg [(c3, P3), (c10, P10), (c25, P25)] fs G "Book" C0 ⟨24, [("__eq__", 27), ("__len__", 28), ("knows", 26)], [("words", 25)], ["_words", "_known"]⟩ := ⟨PySem.W.mg_of X HG Ca0, ⟨⟨Cb0, Cc0, Cd0, Ce0⟩, (List.forall_mem_cons.mpr ⟨T0_0, List.forall_mem_cons.mpr ⟨T0_1, fun _ hp => absurd hp (by simp)⟩⟩), ⟨⟨Cb0, Cc0, Cd0, Ce0⟩, Ch0, Ci0, Cj0, Ck0, Cl0⟩, (List.forall_mem_cons.mpr ⟨Na0, List.forall_mem_cons.mpr ⟨Nb0, List.forall_mem_cons.mpr ⟨Nc0, List.forall_mem_cons.mpr ⟨Nd0, List.forall_mem_cons.mpr ⟨Ne0, List.forall_mem_cons.mpr ⟨Nf0, fun _ hp => absurd hp (by simp)⟩⟩⟩⟩⟩⟩)⟩, ⟨f25, _, _, ⟨Cf0, I25, J25, Cg0⟩, B25⟩, (List.forall_mem_cons.mpr ⟨⟨f28, _, _, ⟨I28, J28, k28⟩, B28⟩, List.forall_mem_cons.mpr ⟨⟨f29, _, _, ⟨I29, J29, k29⟩, B29⟩, List.forall_mem_cons.mpr ⟨⟨f27, _, _, ⟨I27, J27, k27⟩, B27⟩, fun _ hp => absurd hp (by simp)⟩⟩⟩), (List.forall_mem_cons.mpr ⟨⟨pp26, f26, _, _, ⟨I26, J26, Q26, ⟨_, R26⟩⟩, B26⟩, fun _ hp => absurd hp (by simp)⟩)⟩
  have hG : TM.AllP (GOk K mg [(c3, P3), (c10, P10), (c25, P25)] (fun c => ([C0] : List Addr).getD c 0) fs gl G) G := ⟨PySem.W.mg_none_of X HG z0, PySem.W.mg_none_of X HG z1, PySem.W.mg_none_of X HG z2, PySem.W.mg_none_of X HG z3, PySem.W.mg_none_of X HG z4, PySem.W.mg_none_of X HG z5, PySem.W.mg_none_of X HG z6, PySem.W.mg_none_of X HG z7, PySem.W.mg_none_of X HG z8, PySem.W.mg_none_of X HG z9, PySem.W.mg_none_of X HG z10, PySem.W.mg_none_of X HG z11, E0, (let ⟨v, r1, r2⟩ := w0; ⟨_, v, PySem.W.mg_of X HG y0, r1, r2⟩), (let ⟨v, r1, r2⟩ := w1; ⟨_, v, PySem.W.mg_of X HG y1, r1, r2⟩), (let ⟨v, r1, r2⟩ := w2; ⟨_, v, PySem.W.mg_of X HG y2, r1, r2⟩), ⟨_, _, _, D21⟩, ⟨_, _, _, D14⟩, ⟨_, _, _, D23⟩, ⟨_, _, _, D16⟩, ⟨_, _, _, D17⟩, ⟨_, _, _, D13⟩, ⟨_, _, _, D20⟩, ⟨_, _, _, D12⟩, ⟨_, _, _, D15⟩, ⟨_, _, _, D18⟩, ⟨_, _, _, D19⟩, ⟨_, _, _, D22⟩, ⟨_, _, _, D8⟩, ⟨_, _, _, D10⟩, ⟨_, _, _, D11⟩, ⟨_, _, _, D6⟩, ⟨_, _, _, D9⟩, ⟨_, _, _, D2⟩, ⟨_, _, _, D3⟩, ⟨_, _, _, D4⟩, ⟨_, _, _, D1⟩, ⟨_, _, _, D5⟩, ⟨_, _, _, D7⟩, trivial⟩
  refine ⟨_, [(c3, P3), (c10, P10), (c25, P25)], (fun c => ([C0] : List Addr).getD c 0), (List.forall_mem_cons.mpr ⟨tabs _ b3, List.forall_mem_cons.mpr ⟨tabs _ b10, List.forall_mem_cons.mpr ⟨tabs _ b25, fun _ hp => absurd hp (by simp)⟩⟩⟩), (List.forall_mem_cons.mpr ⟨n3, List.forall_mem_cons.mpr ⟨n10, List.forall_mem_cons.mpr ⟨n25, fun _ hp => absurd hp (by simp)⟩⟩⟩), (List.forall_mem_cons.mpr ⟨h3, List.forall_mem_cons.mpr ⟨h10, List.forall_mem_cons.mpr ⟨h25, fun _ hp => absurd hp (by simp)⟩⟩⟩), fun s v => .of_eq rfl, fun base _ _ tb => def_ok B24 tb (prog_all tb hG 11)⟩
end TL
open PySem PySem.W PyProof.Rows
local macro_rules | `(tactic| o_head ($h:term $k:term $a:term $p:term)) => `(tactic| o_head (PySem.W.kmHook $k $a $p [64, 85, 155]))
set_option maxHeartbeats 0 in
theorem PySem.Challenge.cw_tilemoot_k01_books_as_given_holds : PySem.Challenge.rw_tilemoot_k01_books_as_given.Holds := by
  w_on; o_law; k_head; (case hw => w_witness2)
  k_fill
  refine TM.law_endT (l := PySem.Challenge.rw_tilemoot_k01_books_as_given) (k := 12) (j := 23) (fs := TL.fs) (gl := TL.gl) (x := "script") (R := fun _ _ _ _ => False) rfl rfl ⟨rfl, by decide, by decide⟩ (fun w h Y => Y.1) ?F TL.law_main
  case F =>
    intro w mg fa h Y KX HG hmg tabs0
    refine' TL.all_mk (ts := [64, 85, 155]) KX HG hmg (PySem.W.km_tabs_of Y) ?Ca0 ?Cb0 ?Cc0 ?Cd0 ?Ce0 ?Cf0 ?Cg0 ?Ch0 ?Ci0 ?Cj0 ?Ck0 ?Cl0 ?Na0 ?Nb0 ?Nc0 ?Nd0 ?Ne0 ?Nf0 ?T0_0 ?T0_1 ?I25 ?J25 ?I28 ?J28 ?I29 ?J29 ?I27 ?J27 ?I26 ?J26 ?Q26 ?R26 ?a1 ?l1 ?d1 ?k1 ?a2 ?l2 ?d2 ?k2 ?a3 ?l3 ?d3 ?k3 ?u3 ?v3 ?n3 ?h3 ?b3 ?a4 ?l4 ?d4 ?k4 ?a5 ?l5 ?d5 ?k5 ?a6 ?l6 ?d6 ?k6 ?a7 ?l7 ?d7 ?k7 ?a8 ?l8 ?d8 ?k8 ?a9 ?l9 ?d9 ?k9 ?a10 ?l10 ?d10 ?k10 ?u10 ?v10 ?n10 ?h10 ?b10 ?a11 ?l11 ?d11 ?k11 ?a12 ?l12 ?d12 ?k12 ?a13 ?l13 ?d13 ?k13 ?a14 ?l14 ?d14 ?k14 ?a15 ?l15 ?d15 ?k15 ?a16 ?l16 ?d16 ?k16 ?a17 ?l17 ?d17 ?k17 ?a18 ?l18 ?d18 ?k18 ?a19 ?l19 ?d19 ?k19 ?a20 ?l20 ?d20 ?k20 ?a21 ?l21 ?d21 ?k21 ?a22 ?l22 ?d22 ?k22 ?a23 ?l23 ?d23 ?k23 ?a24 ?l24 ?d24 ?k24 ?l25 ?d25 ?k25 ?u25 ?v25 ?n25 ?h25 ?b25 ?l26 ?d26 ?k26 ?l27 ?d27 ?k27 ?l28 ?d28 ?k28 ?l29 ?d29 ?k29 ?z0 ?z1 ?z2 ?z3 ?z4 ?z5 ?z6 ?z7 ?z8 ?z9 ?z10 ?z11 ?y0 ?w0 ?y1 ?w1 ?y2 ?w2
    (case Ca0 => k_is)
    (case Cb0 => k_is)
    (case Cc0 => k_is)
    (case Cd0 => k_is)
    (case Ce0 => k_is)
    (case Cf0 => k_is)
    (case Cg0 => k_is)
    (case Ch0 => k_is)
    (case Ci0 => k_is)
    (case Cj0 => k_is)
    (case Ck0 => k_is)
    (case Cl0 => first | k_is | kernel_rfl | rfl)
    (case Na0 => first | k_is | kernel_rfl | rfl)
    (case Nb0 => first | k_is | kernel_rfl | rfl)
    (case Nc0 => first | k_is | kernel_rfl | rfl)
    (case Nd0 => first | k_is | kernel_rfl | rfl)
    (case Ne0 => first | k_is | kernel_rfl | rfl)
    (case Nf0 => first | k_is | kernel_rfl | rfl)
    (case T0_0 => first | k_is | kernel_rfl | rfl)
    (case T0_1 => first | k_is | kernel_rfl | rfl)
    (case I25 => k_is)
    (case J25 => k_is)
    (case I28 => k_is)
    (case J28 => k_is)
    (case I29 => k_is)
    (case J29 => k_is)
    (case I27 => k_is)
    (case J27 => k_is)
    (case I26 => k_is)
    (case J26 => k_is)
    (case Q26 => k_is)
    (case R26 => k_is)
    (case a1 => k_is)
    (case l1 => k_is)
    (case d1 => k_is)
    (case k1 => k_is)
    (case a2 => k_is)
    (case l2 => k_is)
    (case d2 => k_is)
    (case k2 => k_is)
    (case a3 => k_is)
    (case l3 => k_is)
    (case d3 => k_is)
    (case k3 => k_is)
    (case u3 => k_is)
    (case v3 => first | rfl | k_is)
    (case n3 => first | k_is | kernel_rfl)
    (case h3 => first | k_is | kernel_rfl)
    (case b3 => decide)
    (case a4 => k_is)
    (case l4 => k_is)
    (case d4 => k_is)
    (case k4 => k_is)
    (case a5 => k_is)
    (case l5 => k_is)
    (case d5 => k_is)
    (case k5 => k_is)
    (case a6 => k_is)
    (case l6 => k_is)
    (case d6 => k_is)
    (case k6 => k_is)
    (case a7 => k_is)
    (case l7 => k_is)
    (case d7 => k_is)
    (case k7 => k_is)
    (case a8 => k_is)
    (case l8 => k_is)
    (case d8 => k_is)
    (case k8 => k_is)
    (case a9 => k_is)
    (case l9 => k_is)
    (case d9 => k_is)
    (case k9 => k_is)
    (case a10 => k_is)
    (case l10 => k_is)
    (case d10 => k_is)
    (case k10 => k_is)
    (case u10 => k_is)
    (case v10 => first | rfl | k_is)
    (case n10 => first | k_is | kernel_rfl)
    (case h10 => first | k_is | kernel_rfl)
    (case b10 => decide)
    (case a11 => k_is)
    (case l11 => k_is)
    (case d11 => k_is)
    (case k11 => k_is)
    (case a12 => k_is)
    (case l12 => k_is)
    (case d12 => k_is)
    (case k12 => k_is)
    (case a13 => k_is)
    (case l13 => k_is)
    (case d13 => k_is)
    (case k13 => k_is)
    (case a14 => k_is)
    (case l14 => k_is)
    (case d14 => k_is)
    (case k14 => k_is)
    (case a15 => k_is)
    (case l15 => k_is)
    (case d15 => k_is)
    (case k15 => k_is)
    (case a16 => k_is)
    (case l16 => k_is)
    (case d16 => k_is)
    (case k16 => k_is)
    (case a17 => k_is)
    (case l17 => k_is)
    (case d17 => k_is)
    (case k17 => k_is)
    (case a18 => k_is)
    (case l18 => k_is)
    (case d18 => k_is)
    (case k18 => k_is)
    (case a19 => k_is)
    (case l19 => k_is)
    (case d19 => k_is)
    (case k19 => k_is)
    (case a20 => k_is)
    (case l20 => k_is)
    (case d20 => k_is)
    (case k20 => k_is)
    (case a21 => k_is)
    (case l21 => k_is)
    (case d21 => k_is)
    (case k21 => k_is)
    (case a22 => k_is)
    (case l22 => k_is)
    (case d22 => k_is)
    (case k22 => k_is)
    (case a23 => k_is)
    (case l23 => k_is)
    (case d23 => k_is)
    (case k23 => k_is)
    (case a24 => k_is)
    (case l24 => k_is)
    (case d24 => k_is)
    (case k24 => k_is)
    (case l25 => k_is)
    (case d25 => k_is)
    (case k25 => k_is)
    (case u25 => k_is)
    (case v25 => first | rfl | k_is)
    (case n25 => first | k_is | kernel_rfl)
    (case h25 => first | k_is | kernel_rfl)
    (case b25 => decide)
    (case l26 => k_is)
    (case d26 => k_is)
    (case k26 => k_is)
    (case l27 => k_is)
    (case d27 => k_is)
    (case k27 => k_is)
    (case l28 => k_is)
    (case d28 => k_is)
    (case k28 => k_is)
    (case l29 => k_is)
    (case d29 => k_is)
    (case k29 => k_is)
    (case z0 => k_is)
    (case z1 => k_is)
    (case z2 => k_is)
    (case z3 => k_is)
    (case z4 => k_is)
    (case z5 => k_is)
    (case z6 => k_is)
    (case z7 => k_is)
    (case z8 => k_is)
    (case z9 => k_is)
    (case z10 => k_is)
    (case z11 => k_is)
    (case y0 => k_is)
    (case w0 => exact ⟨.str _, ⟨_, rfl⟩, fun n io H => congrArg L2.V.str (by first | rfl | decide +kernel)⟩)
    (case y1 => k_is)
    (case w1 => exact ⟨.int _, ⟨_, rfl⟩, fun _ _ _ => rfl⟩)
    (case y2 => k_is)
    (case w2 => exact ⟨.str _, ⟨_, rfl⟩, fun n io H => congrArg L2.V.str (by first | rfl | decide +kernel)⟩)

