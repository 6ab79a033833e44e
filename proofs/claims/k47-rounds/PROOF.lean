import PyProof.Rows.All
import Wide.All
import OpenK.AllK
import Wide.FinOn
import HandS.ForMost
import HandS.Exc
import HandS.IsInst
import HandS.WordsExc
import HandS.AnyAll
import HandS.EndTab
import HandS.TupAny
import HandS.Flow
import KE.DataCmp
import KE.SortData
import HandS.Iter
import PySem.Challenge.RW_tilemoot_k47_rounds_of_pairs
set_option Elab.async false
set_option linter.all false
set_option maxRecDepth 100000
set_option maxHeartbeats 4000000
/-! TM, part A: pure values, the intermediate form, what it means. -/
namespace TM
open PySem

/-- pure values -/
inductive PV where
  | non | bl (b : Bool) | int (i : Int) | str (cs : List Nat) | tup (xs : List PV) | obj (i : Nat)
  deriving Repr, Inhabited
/-- what stands in the store -/
inductive PO where
  | lst (xs : List PV) | ro (xs : List PV)
  deriving Repr, Inhabited
abbrev Sto := List PO
abbrev Env := List (Option PV)
/-- an exception: its class by number, what it keeps -/
structure PX where
  c : Nat
  v : PV
inductive Res (a : Type) where
  | ok (x : a) (S : Sto) | exc (x : PX) (S : Sto) | bad
def Res.bind {a b : Type} (r : Res a) (f : a → Sto → Res b) : Res b := match r with
  | .ok x S => f x S
  | .exc x S => .exc x S
  | .bad => .bad
@[simp] theorem Res.bind_ok {a b : Type} (x : a) (S : Sto) (f : a → Sto → Res b) : (Res.ok x S).bind f = f x S := rfl
@[simp] theorem Res.bind_exc {a b : Type} (x : PX) (S : Sto) (f : a → Sto → Res b) : (Res.exc x S : Res a).bind f = .exc x S := rfl
@[simp] theorem Res.bind_bad {a b : Type} (f : a → Sto → Res b) : (Res.bad : Res a).bind f = .bad := rfl
def ofO {a : Type} (o : Option a) (S : Sto) : Res a := match o with
  | some x => .ok x S
  | none => .bad
@[simp] theorem ofO_some {a : Type} (x : a) (S : Sto) : ofO (some x) S = .ok x S := rfl
@[simp] theorem ofO_none {a : Type} (S : Sto) : (ofO none S : Res a) = .bad := rfl

inductive Op2 where
  | add | sub | mul | fdiv | mod | pow | shl | shr | band | bor
  deriving DecidableEq, Repr
inductive Cop where
  | eq | ne | lt | le | gt | ge | is | isnot | inn | notin
  deriving DecidableEq, Repr
inductive BI where
  | len | int | abs | min2 | max2 | tuple | list | sorted | sum
  deriving DecidableEq, Repr
inductive ME where
  | append | pop | index
  deriving DecidableEq, Repr
/-- the classes that isinstance is asked of -/
inductive Ty where
  | int | bool | str | tuple | list
  deriving DecidableEq, Repr
inductive Pat where
  | nm (i : Nat) | tup (ps : List Pat)
mutual
inductive E where
  | never
  | var (i : Nat)
  | cst (c : PV)
  | glob (g : Nat)
  | bin (o : Op2) (a b : E)
  | neg (a : E)
  | idx (a b : E)
  | slc (a : E) (lo hi : Option E)
  | cmp (o : Cop) (a b : E)
  | chain (o o2 : Cop) (a b c : E)
  | andv (a b : E)
  | orv (a b : E)
  | notv (a : E)
  | ife (t : T) (a b : E)
  | call (f : Nat) (as : List E)
  | bi (b : BI) (as : List E)
  | isi (a : E) (ts : List Ty)
  | me (m : ME) (o : E) (as : List E)
  | lst (as : List E)
  | tup (as : List E)
inductive T where
  | e (e : E) | and (a b : T) | or (a b : T) | not (t : T)
end
inductive It where
  | e (e : E) | rng1 (a : E) | rng2 (a b : E)
inductive S where
  | never | pass | brk | cnt
  | set (p : Pat) (e : E)
  | seti (o i e : E)
  | aug (i : Nat) (o : Op2) (e : E)
  | expr (e : E)
  | ret (e : E)
  | retn
  | ite (t : T) (a b : List S)
  | whl (t : T) (b : List S)
  | for (p : Pat) (it : It) (b : List S)

/-! ### values -/
def LINE : Nat := 16777216
/-- the longest text or list that is looked at -/
def truth (S : Sto) : PV → Option Bool
  | .non => some false
  | .bl b => some b
  | .int i => some (i != 0)
  | .str cs => if cs.length ≤ LINE then some (!cs.isEmpty) else none
  | .tup ps => some (!ps.isEmpty)
  | .obj i => match S[i]? with
    | some (.lst xs) => some (!xs.isEmpty)
    | some (.ro xs) => some (!xs.isEmpty)
    | none => none

def P64 : Int := 18446744073709551616
def mulOk (i j : Int) : Bool := (decide (-P64 < i) && decide (i < P64)) || (decide (-P64 < j) && decide (j < P64))
def binI (o : Op2) (i j : Int) : Option Int := match o with
  | .add => some (i + j)
  | .sub => some (i - j)
  | .mul => if mulOk i j then some (i * j) else none
  | .fdiv => if j != 0 && decide (j.natAbs < 1073741824) then some (i.fdiv j) else none
  | .mod => if j != 0 then some (i.fmod j) else none
  | .pow => if decide (0 ≤ j) && decide (j ≤ 1000000) && decide (i.natAbs < 18446744073709551616) then some (i ^ j.toNat) else none
  | .shl => if decide (0 ≤ j) && decide (j ≤ 1000000) && decide (i.natAbs < 18446744073709551616) then some (i * 2 ^ j.toNat) else none
  | .shr => if decide (0 ≤ j) then some (i / 2 ^ j.toNat) else none
  | .band => some (Builtin.bitAnd i j)
  | .bor => some (Builtin.bitOr i j)
def seqOf (S : Sto) (i : Nat) : Option (List PV) := match S[i]? with
  | some (.lst xs) => some xs
  | some (.ro xs) => some xs
  | none => none
def binV (o : Op2) (p q : PV) (S : Sto) : Res PV := match p, q with
  | .int i, .int j => ofO ((binI o i j).map PV.int) S
  | .str a, .str b => match o with
    | .add => if a.length + b.length ≤ LINE then .ok (.str (a ++ b)) S else .bad
    | _ => .bad
  | .tup a, .tup b => match o with
    | .add => if a.length + b.length ≤ LINE then .ok (.tup (a ++ b)) S else .bad
    | _ => .bad
  | .obj i, .obj j => match o with
    | .add => match S[i]?, S[j]? with
      | some (.lst a), some (.lst b) => if a.length + b.length ≤ LINE then .ok (.obj S.length) (S ++ [.lst (a ++ b)]) else .bad
      | _, _ => .bad
    | _ => .bad
  | .obj i, .int k => match o with
    | .mul => match S[i]? with
      | some (.lst a) => if decide (-(2 ^ 63) ≤ k) && decide (k < 2 ^ 63) && decide (a.length * k.toNat ≤ LINE) then .ok (.obj S.length) (S ++ [.lst (List.replicate k.toNat a).flatten]) else .bad
      | _ => .bad
    | _ => .bad
  | _, _ => .bad

/-- x op= y at a name -/
def augV (o : Op2) (p q : PV) : Option PV := match o, p, q with
  | .add, .int x, .int y => some (.int (x + y))
  | .sub, .int x, .int y => some (.int (x - y))
  | .mul, .int x, .int y => if mulOk x y then some (.int (x * y)) else none
  | .add, .str a, .str b => if a.length + b.length ≤ LINE then some (.str (a ++ b)) else none
  | _, _, _ => none

/-! ### == and < -/
def mkS (cs : List Nat) : Str := ⟨cs.toArray⟩
mutual
def dat : PV → Option PyData
  | .non => some .none
  | .bl b => some (.bool b)
  | .int i => some (.int i)
  | .str cs => some (.str (mkS cs))
  | .tup ps => (datL ps).map PyData.tuple
  | .obj _ => none
def datL : List PV → Option (List PyData)
  | [] => some []
  | p :: ps => match dat p, datL ps with
    | some d, some ds => some (d :: ds)
    | _, _ => none
end
/-- data; a list of plain data besides -/
def datS (S : Sto) : PV → Option PyData
  | .obj i => match seqOf S i with
    | some xs => (datL xs).map PyData.list
    | none => none
  | p => dat p
/-- scalars that are compared by themselves -/
def eqS : PV → PV → Option Bool
  | .non, .non => some true
  | .non, .int _ => some false
  | .int _, .non => some false
  | .non, .bl _ => some false
  | .bl _, .non => some false
  | .non, .str _ => some false
  | .str _, .non => some false
  | .int i, .int j => some (i == j)
  | .bl i, .bl j => some (i == j)
  | .str i, .str j => some (i == j)
  | .int _, .str _ => some false
  | .str _, .int _ => some false
  | .bl _, .str _ => some false
  | .str _, .bl _ => some false
  | _, _ => none
def eqD (S : Sto) (p q : PV) : Option Bool := match datS S p, datS S q with
  | some d, some e => if SeqAt.shaped d && SeqAt.shaped e then some (PyData.eqv d e) else none
  | _, _ => none
def eqV (S : Sto) (p q : PV) : Option Bool := match eqS p q with
  | some b => some b
  | none => eqD S p q
def ltN : List Nat → List Nat → Bool
  | [], [] => false
  | [], _ :: _ => true
  | _ :: _, [] => false
  | x :: xs, y :: ys => if x = y then ltN xs ys else decide (x < y)
mutual
/-- two values can be put in order: of one kind, place by place -/
def alk : PV → PV → Bool
  | .non, .non => true
  | .bl _, .bl _ => true
  | .int _, .int _ => true
  | .str _, .str _ => true
  | .tup xs, .tup ys => alkL xs ys
  | _, _ => false
def alkL : List PV → List PV → Bool
  | x :: xs, y :: ys => alk x y && alkL xs ys
  | _, _ => true
end
mutual
/-- equal, of two that are alike -/
def eqP : PV → PV → Bool
  | .non, .non => true
  | .bl a, .bl b => a == b
  | .int a, .int b => a == b
  | .str a, .str b => a == b
  | .tup xs, .tup ys => eqPL xs ys
  | _, _ => false
def eqPL : List PV → List PV → Bool
  | [], [] => true
  | x :: xs, y :: ys => eqP x y && eqPL xs ys
  | _, _ => false
end
mutual
/-- less, of two that are alike -/
def ltP : PV → PV → Bool
  | .bl a, .bl b => !a && b
  | .int a, .int b => decide (a < b)
  | .str a, .str b => ltN a b
  | .tup xs, .tup ys => ltPL xs ys
  | _, _ => false
def ltPL : List PV → List PV → Bool
  | [], [] => false
  | [], _ :: _ => true
  | _ :: _, [] => false
  | x :: xs, y :: ys => if eqP x y then ltPL xs ys else ltP x y
end
mutual
/-- how deep -/
def dep : PV → Nat
  | .tup xs => depL xs + 1
  | _ => 0
def depL : List PV → Nat
  | [] => 0
  | x :: xs => max (dep x) (depL xs)
end
def isNon : PV → Bool
  | .non => true
  | _ => false
mutual
/-- no object of the store in it -/
def pur : PV → Bool
  | .obj _ => false
  | .tup xs => purL xs
  | _ => true
def purL : List PV → Bool
  | [] => true
  | x :: xs => pur x && purL xs
end
def ordB (p q : PV) : Bool := pur p && pur q && alk p q && !isNon p && decide (dep p ≤ 60)
def ltV (p q : PV) : Option Bool := if ordB p q then some (ltP p q) else none
/-- a stable sort -/
def insV {a : Type} (le : a → a → Bool) (x : a) : List a → List a
  | [] => [x]
  | y :: ys => if le x y then x :: y :: ys else y :: insV le x ys
def isort {a : Type} (le : a → a → Bool) : List a → List a
  | [] => []
  | x :: xs => insV le x (isort le xs)
def leP (p q : PV) : Bool := !ltP q p
def ntup : PV → Bool
  | .tup (_ :: _) => true
  | _ => false
def stup : PV → Bool
  | .tup _ => false
  | .non => false
  | _ => true
/-- what sorted can be asked of -/
def sortB (ps : List PV) : Bool := ps.all pur && ps.all (fun p => ps.all (alk p)) && ps.all (fun p => decide (dep p ≤ 60)) && (ps.all ntup || ps.all stup) && decide (ps.length ≤ LINE)
def sortV (ps : List PV) : Option (List PV) := if sortB ps then some (isort leP ps) else none
def flat : PV → Bool
  | .non | .bl _ | .int _ | .str _ => true
  | _ => false
def cmpV (o : Cop) (p q : PV) (S : Sto) : Option Bool := match o with
  | .eq => eqV S p q
  | .ne => (eqV S p q).map (!·)
  | .lt => ltV p q
  | .gt => if ordB p q then some (ltP q p) else none
  | .le => if ordB p q then some (!ltP q p) else none
  | .ge => if ordB p q then some (!ltP p q) else none
  | .is => match q with
    | .non => some (match p with | .non => true | _ => false)
    | _ => none
  | .isnot => match q with
    | .non => some (match p with | .non => false | _ => true)
    | _ => none
  | .inn => none
  | .notin => none
def atV (p q : PV) (S : Sto) : Option PV := match p, q with
  | .obj i, .int k => (seqOf S i).bind fun xs => L2.atI xs k
  | .tup xs, .int k => L2.atI xs k
  | .str cs, .int k => if cs.length ≤ LINE then (L2.atI cs k).map fun c => PV.str [c] else none
  | _, _ => none
def cutL {a : Type} (xs : List a) (lo hi : Option Int) : List a := (xs.drop (HT.sIx xs.length 0 lo)).take (HT.sIx xs.length xs.length hi - HT.sIx xs.length 0 lo)
def cutP (p : PV) (lo hi : Option Int) (S : Sto) : Res PV := match p with
  | .obj i => match seqOf S i with
    | some xs => .ok (.obj S.length) (S ++ [.lst (cutL xs lo hi)])
    | none => .bad
  | .tup xs => .ok (.tup (cutL xs lo hi)) S
  | .str cs => if cs.length ≤ LINE then .ok (.str (cutL cs lo hi)) S else .bad
  | _ => .bad
def isiV (S : Sto) : PV → Ty → Option Bool
  | .non, _ => some false
  | .bl _, t => some (t == .int || t == .bool)
  | .int _, t => some (t == .int)
  | .str _, t => some (t == .str)
  | .tup _, t => some (t == .tuple)
  | .obj i, t => match S[i]? with
    | some (.lst _) => some (t == .list)
    | some (.ro _) => none
    | none => none
def isiL (S : Sto) (p : PV) : List Ty → Option Bool
  | [] => some false
  | t :: ts => match isiV S p t, isiL S p ts with
    | some a, some b => some (a || b)
    | _, _ => none
def lenV (S : Sto) : PV → Option Int
  | .str cs => if cs.length ≤ LINE then some cs.length else none
  | .tup xs => some xs.length
  | .obj i => (seqOf S i).map fun xs => (xs.length : Int)
  | _ => none
def biV (b : BI) (as : List PV) (S : Sto) : Res PV := match b, as with
  | .len, [p] => ofO ((lenV S p).map PV.int) S
  | .int, [.int i] => .ok (.int i) S
  | .int, [.bl b] => .ok (.int (if b then 1 else 0)) S
  | .abs, [.int i] => .ok (.int (if i < 0 then -i else i)) S
  | .min2, [.int i, .int j] => .ok (.int (if j < i then j else i)) S
  | .max2, [.int i, .int j] => .ok (.int (if j > i then j else i)) S
  | .tuple, [.obj i] => match S[i]? with
    | some (.lst xs) => .ok (.tup xs) S
    | _ => .bad
  | .tuple, [.tup xs] => .ok (.tup xs) S
  | .list, [.obj i] => match seqOf S i with
    | some xs => .ok (.obj S.length) (S ++ [.lst xs])
    | _ => .bad
  | .list, [.tup xs] => .ok (.obj S.length) (S ++ [.lst xs])
  | .sorted, [.obj i] => match seqOf S i with
    | some xs => match sortV xs with
      | some ys => .ok (.obj S.length) (S ++ [.lst ys])
      | none => .bad
    | _ => .bad
  | _, _ => .bad
/-- the type whose method is called -/
inductive MTy where
  | lst | str
  deriving DecidableEq, Repr
def mty (S : Sto) : PV → Option MTy
  | .str _ => some .str
  | .obj i => match S[i]? with
    | some (.lst _) => some .lst
    | some (.ro _) => some .lst
    | none => none
  | _ => none
def meOk : ME → MTy → Bool
  | .append, .lst => true
  | .pop, .lst => true
  | _, _ => false
def meAppend (o : PV) (as : List PV) (S : Sto) : Res PV := match o, as with
  | .obj i, [p] => match S[i]? with
    | some (.lst xs) => if xs.length < LINE then .ok .non (S.set i (.lst (xs ++ [p]))) else .bad
    | _ => .bad
  | _, _ => .bad
def mePop (o : PV) (as : List PV) (S : Sto) : Res PV := match o, as with
  | .obj i, [] => match S[i]? with
    | some (.lst xs) => match xs[xs.length - 1]? with
      | some y => .ok y (S.set i (.lst xs.dropLast))
      | none => .bad
    | _ => .bad
  | _, _ => .bad
def meV (m : ME) (t : MTy) (o : PV) (as : List PV) (S : Sto) : Res PV := match m, t with
  | .append, .lst => meAppend o as S
  | .pop, .lst => mePop o as S
  | _, _ => .bad

/-! ### evaluation -/
structure Ctx where
  cf : Nat → List PV → Sto → Res PV
  gl : Nat → PV
mutual
def ev (C : Ctx) : E → Env → Sto → Res PV
  | .never, _, _ => .bad
  | .var i, env, S => match env[i]? with
    | some (some p) => .ok p S
    | _ => .bad
  | .cst c, _, S => .ok c S
  | .glob g, _, S => .ok (C.gl g) S
  | .bin o a b, env, S => (ev C a env S).bind fun p S => (ev C b env S).bind fun q S => binV o p q S
  | .neg a, env, S => (ev C a env S).bind fun p S => match p with
    | .int i => .ok (.int (-i)) S
    | _ => .bad
  | .idx a b, env, S => (ev C a env S).bind fun p S => (ev C b env S).bind fun q S => ofO (atV p q S) S
  | .slc a lo hi, env, S => (ev C a env S).bind fun p S => (evO C lo env S).bind fun l S => (evO C hi env S).bind fun h S => cutP p l h S
  | .cmp o a b, env, S => (ev C a env S).bind fun p S => (ev C b env S).bind fun q S => ofO ((cmpV o p q S).map PV.bl) S
  | .chain o o2 a b c, env, S => (ev C a env S).bind fun p S => (ev C b env S).bind fun q S => (ofO (cmpV o p q S) S).bind fun k S =>
      if k then (ev C c env S).bind fun r S => ofO ((cmpV o2 q r S).map PV.bl) S else .ok (.bl false) S
  | .andv a b, env, S => (ev C a env S).bind fun p S => (ofO (truth S p) S).bind fun k S => if k then ev C b env S else .ok p S
  | .orv a b, env, S => (ev C a env S).bind fun p S => (ofO (truth S p) S).bind fun k S => if k then .ok p S else ev C b env S
  | .notv a, env, S => (ev C a env S).bind fun p S => ofO ((truth S p).map fun k => PV.bl (!k)) S
  | .ife t a b, env, S => (evT C t env S).bind fun k S => if k then ev C a env S else ev C b env S
  | .call f as, env, S => (evs C as env S).bind fun ps S => C.cf f ps S
  | .bi b as, env, S => (evs C as env S).bind fun ps S => biV b ps S
  | .isi a ts, env, S => (ev C a env S).bind fun p S => ofO ((isiL S p ts).map PV.bl) S
  | .me m o as, env, S => (ev C o env S).bind fun p S => match mty S p with
    | some t => if meOk m t then (evs C as env S).bind fun ps S => meV m t p ps S else .bad
    | none => .bad
  | .lst as, env, S => (evs C as env S).bind fun ps S => if ps.length ≤ LINE then .ok (.obj S.length) (S ++ [.lst ps]) else .bad
  | .tup as, env, S => (evs C as env S).bind fun ps S => if ps.length ≤ LINE then .ok (.tup ps) S else .bad
def evs (C : Ctx) : List E → Env → Sto → Res (List PV)
  | [], _, S => .ok [] S
  | e :: es, env, S => (ev C e env S).bind fun p S => (evs C es env S).bind fun ps S => .ok (p :: ps) S
def evO (C : Ctx) : Option E → Env → Sto → Res (Option Int)
  | none, _, S => .ok none S
  | some e, env, S => (ev C e env S).bind fun p S => match p with
    | .int i => .ok (some i) S
    | _ => .bad
def evT (C : Ctx) : T → Env → Sto → Res Bool
  | .e e, env, S => (ev C e env S).bind fun p S => ofO (truth S p) S
  | .and a b, env, S => (evT C a env S).bind fun k S => if k then evT C b env S else .ok false S
  | .or a b, env, S => (evT C a env S).bind fun k S => if k then .ok true S else evT C b env S
  | .not t, env, S => (evT C t env S).bind fun k S => .ok (!k) S
end
/-- how a statement ends -/
inductive Out where
  | nx (env : Env) (S : Sto) | brk (env : Env) (S : Sto) | cnt (env : Env) (S : Sto) | ret (p : PV) (S : Sto) | exc (x : PX) (S : Sto) | bad
def Out.seq (r : Out) (f : Env → Sto → Out) : Out := match r with
  | .nx env S => f env S
  | r => r
@[simp] theorem Out.seq_nx (env : Env) (S : Sto) (f : Env → Sto → Out) : (Out.nx env S).seq f = f env S := rfl
@[simp] theorem Out.seq_brk (env : Env) (S : Sto) (f : Env → Sto → Out) : (Out.brk env S).seq f = .brk env S := rfl
@[simp] theorem Out.seq_cnt (env : Env) (S : Sto) (f : Env → Sto → Out) : (Out.cnt env S).seq f = .cnt env S := rfl
@[simp] theorem Out.seq_ret (p : PV) (S : Sto) (f : Env → Sto → Out) : (Out.ret p S).seq f = .ret p S := rfl
@[simp] theorem Out.seq_exc (x : PX) (S : Sto) (f : Env → Sto → Out) : (Out.exc x S).seq f = .exc x S := rfl
@[simp] theorem Out.seq_bad (f : Env → Sto → Out) : Out.bad.seq f = .bad := rfl
def Res.out {a : Type} (r : Res a) (f : a → Sto → Out) : Out := match r with
  | .ok x S => f x S
  | .exc x S => .exc x S
  | .bad => .bad
@[simp] theorem Res.out_ok {a : Type} (x : a) (S : Sto) (f : a → Sto → Out) : (Res.ok x S).out f = f x S := rfl
@[simp] theorem Res.out_exc {a : Type} (x : PX) (S : Sto) (f : a → Sto → Out) : (Res.exc x S : Res a).out f = .exc x S := rfl
@[simp] theorem Res.out_bad {a : Type} (f : a → Sto → Out) : (Res.bad : Res a).out f = .bad := rfl
/-! a value to a target -/
mutual
def bindP : Pat → PV → Env → Option Env
  | .nm i, p, env => if i < env.length then some (env.set i (some p)) else none
  | .tup ps, p, env => match p with
    | .tup xs => bindPs ps xs env
    | _ => none
def bindPs : List Pat → List PV → Env → Option Env
  | [], [], env => some env
  | p :: ps, x :: xs, env => match bindP p x env with
    | some env => bindPs ps xs env
    | none => none
  | _, _, _ => none
end
/-- what a for walks: the item at turn k, of the store as it stands -/
inductive Wk where
  | seq (xs : List PV) | obj (i : Nat) | rng (lo : Int) (n : Nat)
def Wk.at (w : Wk) (k : Nat) (S : Sto) : Option (Option PV) := match w with
  | .seq xs => some xs[k]?
  | .obj i => match seqOf S i with
    | some xs => some xs[k]?
    | none => none
  | .rng lo n => some (if k < n then some (.int (lo + k)) else none)
def P62 : Int := 4611686018427387904
def evI (C : Ctx) (it : It) (env : Env) (S : Sto) : Res Wk := match it with
  | .e e => (ev C e env S).bind fun p S => match p with
    | .tup xs => .ok (.seq xs) S
    | .obj i => match seqOf S i with
      | some _ => .ok (.obj i) S
      | none => .bad
    | .str cs => .ok (.seq (cs.map fun c => .str [c])) S
    | _ => .bad
  | .rng1 a => (ev C a env S).bind fun p S => match p with
    | .int j => if decide (-P62 ≤ j) && decide (j < P62) then .ok (.rng 0 j.toNat) S else .bad
    | _ => .bad
  | .rng2 a b => (ev C a env S).bind fun p S => (ev C b env S).bind fun q S => match p, q with
    | .int i, .int j => if decide (-P62 ≤ i) && decide (i < P62) && decide (-P62 ≤ j) && decide (j < P62) then .ok (.rng i (j - i).toNat) S else .bad
    | _, _ => .bad
/-- the longest loop -/
def FU : Nat := 1000000000
def forN (w : Wk) (p : Pat) (body : Env → Sto → Out) : Nat → Nat → Env → Sto → Out
  | 0, _, _, _ => .bad
  | n + 1, k, env, S => match w.at k S with
    | none => .bad
    | some none => .nx env S
    | some (some x) => match bindP p x env with
      | none => .bad
      | some env => match body env S with
        | .nx env S => forN w p body n (k + 1) env S
        | .cnt env S => forN w p body n (k + 1) env S
        | .brk env S => .nx env S
        | r => r
def whlN (t : Env → Sto → Res Bool) (body : Env → Sto → Out) : Nat → Env → Sto → Out
  | 0, _, _ => .bad
  | n + 1, env, S => (t env S).out fun k S => if k then match body env S with
      | .nx env S => whlN t body n env S
      | .cnt env S => whlN t body n env S
      | .brk env S => .nx env S
      | r => r
    else .nx env S
mutual
def evS (C : Ctx) : TM.S → Env → Sto → Out
  | .never, _, _ => .bad
  | .pass, env, S => .nx env S
  | .brk, env, S => .brk env S
  | .cnt, env, S => .cnt env S
  | .set p e, env, S => (ev C e env S).out fun x S => match bindP p x env with
    | some env => .nx env S
    | none => .bad
  | .seti o i e, env, S => (ev C e env S).out fun x S => (ev C o env S).out fun p S => (ev C i env S).out fun q S => match p, q with
    | .obj a, .int k => match S[a]? with
      | some (.lst xs) => match L2.ixN xs.length k with
        | some j => .nx env (S.set a (.lst (xs.set j x)))
        | none => .bad
      | _ => .bad
    | _, _ => .bad
  | .aug i o e, env, S => match env[i]? with
    | some (some p) => (ev C e env S).out fun q S => match augV o p q with
      | some z => .nx (env.set i (some z)) S
      | none => .bad
    | _ => .bad
  | .expr e, env, S => (ev C e env S).out fun _ S => .nx env S
  | .ret e, env, S => (ev C e env S).out fun p S => .ret p S
  | .retn, _, S => .ret .non S
  | .ite t a b, env, S => (evT C t env S).out fun k S => if k then evB C a env S else evB C b env S
  | .whl t b, env, S => whlN (evT C t) (evB C b) FU env S
  | .for p it b, env, S => (evI C it env S).out fun w S => forN w p (evB C b) FU 0 env S
def evB (C : Ctx) : List TM.S → Env → Sto → Out
  | [], env, S => .nx env S
  | s :: ss, env, S => (evS C s env S).seq fun env S => evB C ss env S
end
/-- a def: how many parameters, its names, its body -/
structure Fn where
  np : Nat
  nn : Nat
  body : List TM.S
def runF (C : Ctx) (f : Fn) (as : List PV) (S : Sto) : Res PV :=
  if as.length = f.np then match evB C f.body (as.map some ++ List.replicate (f.nn - f.np) none) S with
    | .nx _ S => .ok .non S
    | .ret p S => .ok p S
    | .exc x S => .exc x S
    | _ => .bad
  else .bad
/-- the defs, one calling another k deep at most -/
def callN (fs : List Fn) (gl : Nat → PV) : Nat → Nat → List PV → Sto → Res PV
  | 0, _, _, _ => .bad
  | k + 1, f, as, S => match fs[f]? with
    | some fn => runF ⟨callN fs gl k, gl⟩ fn as S
    | none => .bad
end TM

/-! TM, part B: the store and the abstract heap. -/
namespace TM
open PySem PySem.Spec PyProof.Rows L2

mutual
def Rep (K : PySem.W.Frag) (n : Nat) (io : Nat → Addr) (H : Hp) : PV → V → Prop
  | .non, v => v = .non
  | .bl b, v => v = .bl b
  | .int i, v => v = .int i
  | .str cs, v => v = .str (mkS cs)
  | .tup ps, v => ∃ a xs, v = .ref a ∧ SqT K H a xs ∧ Reps K n io H ps xs
  | .obj i, v => i < n ∧ v = .ref (io i)
def Reps (K : PySem.W.Frag) (n : Nat) (io : Nat → Addr) (H : Hp) : List PV → List V → Prop
  | [], xs => xs = []
  | p :: ps, xs => ∃ x r, xs = x :: r ∧ Rep K n io H p x ∧ Reps K n io H ps r
end
/-- later: what is known stays -/
structure Ex (n : Nat) (io : Nat → Addr) (H : Hp) (io' : Nat → Addr) (H' : Hp) : Prop where
  io : ∀ i, i < n → io' i = io i
  tup : ∀ a xs, H a = some (.tup xs) → H' a = some (.tup xs)
  frz : ∀ a o u, H a = some (.frz o u) → H' a = some (.frz o u)
theorem Ex.refl {n : Nat} {io : Nat → Addr} {H : Hp} : Ex n io H io H := ⟨fun _ _ => rfl, fun _ _ h => h, fun _ _ _ h => h⟩
theorem Ex.trans {n n1 : Nat} {io io1 io2 : Nat → Addr} {H H1 H2 : Hp} (a : Ex n io H io1 H1) (h : n ≤ n1) (b : Ex n1 io1 H1 io2 H2) : Ex n io H io2 H2 :=
  ⟨fun i hi => (b.io i (Nat.lt_of_lt_of_le hi h)).trans (a.io i hi), fun x xs e => b.tup x xs (a.tup x xs e), fun x o u e => b.frz x o u (a.frz x o u e)⟩
theorem Ex.sqT {K : PySem.W.Frag} {n : Nat} {io io' : Nat → Addr} {H H' : Hp} (e : Ex n io H io' H') {a : Addr} {xs : List V} (h : SqT K H a xs) : SqT K H' a xs := by
  rcases h with (h | ⟨o, h⟩) | h
  · exact .inl (.inl (e.tup _ _ h))
  · exact .inl (.inr ⟨o, e.frz _ _ _ h⟩)
  · exact .inr h
mutual
theorem Rep.mono {K : PySem.W.Frag} {n n' : Nat} {io io' : Nat → Addr} {H H' : Hp} (e : Ex n io H io' H') (hn : n ≤ n') : ∀ {p : PV} {v : V}, Rep K n io H p v → Rep K n' io' H' p v
  | .non, _, h => h
  | .bl _, _, h => h
  | .int _, _, h => h
  | .str _, _, h => h
  | .tup ps, _, h => by
    obtain ⟨a, xs, h1, h2, h3⟩ := h
    exact ⟨a, xs, h1, e.sqT h2, Reps.mono e hn h3⟩
  | .obj i, _, h => ⟨Nat.lt_of_lt_of_le h.1 hn, by rw [e.io i h.1]; exact h.2⟩
theorem Reps.mono {K : PySem.W.Frag} {n n' : Nat} {io io' : Nat → Addr} {H H' : Hp} (e : Ex n io H io' H') (hn : n ≤ n') : ∀ {ps : List PV} {xs : List V}, Reps K n io H ps xs → Reps K n' io' H' ps xs
  | [], _, h => h
  | p :: ps, _, h => by
    obtain ⟨x, r, h1, h2, h3⟩ := h
    exact ⟨x, r, h1, Rep.mono e hn h2, Reps.mono e hn h3⟩
end
theorem Reps.length {K : PySem.W.Frag} {n : Nat} {io : Nat → Addr} {H : Hp} : ∀ {ps : List PV} {xs : List V}, Reps K n io H ps xs → xs.length = ps.length
  | [], _, h => by rw [show _ = [] from h]; rfl
  | p :: ps, _, h => by
    obtain ⟨x, r, rfl, _, h3⟩ := h
    simp [Reps.length h3]
theorem Reps.get {K : PySem.W.Frag} {n : Nat} {io : Nat → Addr} {H : Hp} : ∀ {ps : List PV} {xs : List V} {i : Nat} {p : PV}, Reps K n io H ps xs → ps[i]? = some p → ∃ v, xs[i]? = some v ∧ Rep K n io H p v
  | [], _, i, p, _, e => by simp at e
  | q :: ps, _, 0, p, h, e => by
    obtain ⟨x, r, rfl, h2, _⟩ := h
    simp at e; subst e
    exact ⟨x, rfl, h2⟩
  | q :: ps, _, i + 1, p, h, e => by
    obtain ⟨x, r, rfl, _, h3⟩ := h
    obtain ⟨v, h4, h5⟩ := Reps.get (i := i) h3 (by simpa using e)
    exact ⟨v, by simpa using h4, h5⟩
theorem Reps.of_get {K : PySem.W.Frag} {n : Nat} {io : Nat → Addr} {H : Hp} : ∀ {ps : List PV} {xs : List V} {i : Nat} {v : V}, Reps K n io H ps xs → xs[i]? = some v → ∃ p, ps[i]? = some p ∧ Rep K n io H p v
  | [], _, i, v, h, e => by rw [show _ = [] from h] at e; simp at e
  | q :: ps, _, 0, v, h, e => by
    obtain ⟨x, r, rfl, h2, _⟩ := h
    simp at e; subst e
    exact ⟨q, rfl, h2⟩
  | q :: ps, _, i + 1, v, h, e => by
    obtain ⟨x, r, rfl, _, h3⟩ := h
    obtain ⟨p, h4, h5⟩ := Reps.of_get (i := i) h3 (by simpa using e)
    exact ⟨p, by simpa using h4, h5⟩
theorem Reps.append {K : PySem.W.Frag} {n : Nat} {io : Nat → Addr} {H : Hp} : ∀ {ps qs : List PV} {xs ys : List V}, Reps K n io H ps xs → Reps K n io H qs ys → Reps K n io H (ps ++ qs) (xs ++ ys)
  | [], _, _, _, h, k => by rw [show _ = [] from h]; exact k
  | p :: ps, _, _, _, h, k => by
    obtain ⟨x, r, rfl, h2, h3⟩ := h
    exact ⟨x, r ++ _, rfl, h2, Reps.append h3 k⟩
theorem Reps.nil {K : PySem.W.Frag} {n : Nat} {io : Nat → Addr} {H : Hp} : Reps K n io H [] [] := rfl
theorem Reps.cons {K : PySem.W.Frag} {n : Nat} {io : Nat → Addr} {H : Hp} {p : PV} {ps : List PV} {x : V} {xs : List V} (h : Rep K n io H p x) (k : Reps K n io H ps xs) : Reps K n io H (p :: ps) (x :: xs) := ⟨x, xs, rfl, h, k⟩
theorem Reps.take {K : PySem.W.Frag} {n : Nat} {io : Nat → Addr} {H : Hp} : ∀ {ps : List PV} {xs : List V} (m : Nat), Reps K n io H ps xs → Reps K n io H (ps.take m) (xs.take m)
  | [], _, m, h => by rw [show _ = [] from h]; simp; rfl
  | p :: ps, _, 0, h => by simp; rfl
  | p :: ps, _, m + 1, h => by
    obtain ⟨x, r, rfl, h2, h3⟩ := h
    exact .cons h2 (Reps.take m h3)
theorem Reps.drop {K : PySem.W.Frag} {n : Nat} {io : Nat → Addr} {H : Hp} : ∀ {ps : List PV} {xs : List V} (m : Nat), Reps K n io H ps xs → Reps K n io H (ps.drop m) (xs.drop m)
  | [], _, m, h => by rw [show _ = [] from h]; simp; rfl
  | p :: ps, _, 0, h => h
  | p :: ps, _, m + 1, h => by
    obtain ⟨x, r, rfl, h2, h3⟩ := h
    exact Reps.drop m h3
theorem Reps.set {K : PySem.W.Frag} {n : Nat} {io : Nat → Addr} {H : Hp} {q : PV} {w : V} (hq : Rep K n io H q w) : ∀ {ps : List PV} {xs : List V} (m : Nat), Reps K n io H ps xs → Reps K n io H (ps.set m q) (xs.set m w)
  | [], _, m, h => by rw [show _ = [] from h]; simp; rfl
  | p :: ps, _, 0, h => by
    obtain ⟨x, r, rfl, h2, h3⟩ := h
    exact .cons hq h3
  | p :: ps, _, m + 1, h => by
    obtain ⟨x, r, rfl, h2, h3⟩ := h
    exact .cons h2 (Reps.set hq m h3)
theorem Reps.dropLast {K : PySem.W.Frag} {n : Nat} {io : Nat → Addr} {H : Hp} {ps : List PV} {xs : List V} (h : Reps K n io H ps xs) : Reps K n io H ps.dropLast xs.dropLast := by
  rw [List.dropLast_eq_take, List.dropLast_eq_take, h.length]
  exact h.take _
theorem Reps.flat {K : PySem.W.Frag} {n : Nat} {io : Nat → Addr} {H : Hp} {ps : List PV} {xs : List V} (h : Reps K n io H ps xs) : ∀ k : Nat, Reps K n io H (List.replicate k ps).flatten (List.replicate k xs).flatten
  | 0 => rfl
  | k + 1 => by
    rw [List.replicate_succ, List.replicate_succ, List.flatten_cons, List.flatten_cons]
    exact h.append (Reps.flat h k)

/-- a list of the written part -/
def KList (K : PySem.W.Frag) (a : Addr) (xs : List V) : Prop :=
  ∃ (o : Obj) (its : Array Value) (n : Nat), K.lookup a = some o ∧ o.cls = .type "list" ∧ o.dict = none ∧ o.data = .seq its n ∧ its.size ≤ sizeLine ∧ Vals xs its.toList
def POR (K : PySem.W.Frag) (n : Nat) (io : Nat → Addr) (H : Hp) (a : Addr) : PO → Prop
  | .lst ps => ∃ xs, H a = some (.lst xs) ∧ Reps K n io H ps xs
  | .ro ps => ∃ xs, ((∃ o, H a = some (.frz o (.lst xs))) ∨ KList K a xs) ∧ Reps K n io H ps xs
def PO.mutb : PO → Bool
  | .ro _ => false
  | _ => true
theorem POR.there {K : PySem.W.Frag} {n : Nat} {io : Nat → Addr} {H : Hp} {a : Addr} {o : PO} (h : POR K n io H a o) (m : o.mutb = true) : ∃ u, H a = some u ∧ (∀ xs, u ≠ .tup xs) ∧ (∀ o w, u ≠ .frz o w) ∧ ∀ ps, u ≠ .tbl ps := by
  cases o with
  | lst ps =>
    obtain ⟨xs, h, _⟩ := h
    exact ⟨_, h, fun _ z => (by cases z), fun _ _ z => (by cases z), fun _ z => by cases z⟩
  | ro ps => cases m
structure Rel (K : PySem.W.Frag) (T : List Addr) (S : Sto) (io : Nat → Addr) (H : Hp) : Prop where
  obj : ∀ i o, S[i]? = some o → POR K S.length io H (io i) o
  inj : ∀ i j o o', S[i]? = some o → S[j]? = some o' → o.mutb = true → o'.mutb = true → io i = io j → i = j
  tab : ∀ P ∈ T, GxR.TabG H P
def EnvR (K : PySem.W.Frag) (n : Nat) (io : Nat → Addr) (H : Hp) (env : Env) (s : List (Option V)) : Prop :=
  env.length = s.length ∧ ∀ (i : Nat) (p : PV), env[i]? = some (some p) → ∃ v : V, s[i]? = some (some v) ∧ Rep K n io H p v
theorem EnvR.mono {K : PySem.W.Frag} {n n' : Nat} {io io' : Nat → Addr} {H H' : Hp} {env : Env} {s : List (Option V)} (e : Ex n io H io' H') (hn : n ≤ n') (h : EnvR K n io H env s) : EnvR K n' io' H' env s :=
  ⟨h.1, fun i p hp => by
    obtain ⟨v, h1, h2⟩ := h.2 i p hp
    exact ⟨v, h1, h2.mono e hn⟩⟩
theorem EnvR.set {K : PySem.W.Frag} {n : Nat} {io : Nat → Addr} {H : Hp} {env : Env} {s : List (Option V)} {i : Nat} {p : PV} {v : V} (h : EnvR K n io H env s) (r : Rep K n io H p v) : EnvR K n io H (env.set i (some p)) (s.set i (some v)) := by
  refine ⟨by simp [h.1], fun j q hq => ?_⟩
  rw [List.getElem?_set] at hq ⊢
  by_cases e : i = j
  · rw [if_pos e] at hq ⊢
    rw [h.1] at hq
    split at hq
    · simp at hq
      subst hq
      rename_i hl
      rw [if_pos hl]
      exact ⟨v, rfl, r⟩
    · cases hq
  · rw [if_neg e] at hq ⊢
    exact h.2 j q hq
/-- what is wished of an exception that leaves -/
abbrev Wish := PX → Sto → (Nat → Addr) → Hp → Prop
def Post {a b : Type} (K : PySem.W.Frag) (T : List Addr) (W : Wish) (R : Nat → (Nat → Addr) → Hp → a → b → Prop) (S : Sto) (io : Nat → Addr) (H : Hp) (Q : b → Hp → Prop) : Res a → Prop
  | .ok p S' => ∀ io' H' v, Ex S.length io H io' H' → S.length ≤ S'.length → Rel K T S' io' H' → R S'.length io' H' p v → Q v H'
  | .exc x S' => ∀ io' H', Ex S.length io H io' H' → S.length ≤ S'.length → Rel K T S' io' H' → W x S' io' H'
  | .bad => False
theorem Post.start {a b : Type} {K : PySem.W.Frag} {T : List Addr} {W : Wish} {R : Nat → (Nat → Addr) → Hp → a → b → Prop} {S S1 : Sto} {io io1 : Nat → Addr} {H H1 : Hp} {Q : b → Hp → Prop} {r : Res a}
    (e : Ex S.length io H io1 H1) (l : S.length ≤ S1.length) (h : Post K T W R S io H Q r) : Post K T W R S1 io1 H1 Q r := by
  cases r with
  | ok p S' => exact fun io' H' v e' l' => h io' H' v (e.trans l e') (Nat.le_trans l l')
  | exc x S' => exact fun io' H' e' l' => h io' H' (e.trans l e') (Nat.le_trans l l')
  | bad => exact h
theorem Post.bind {a a' b b' : Type} {K : PySem.W.Frag} {T : List Addr} {W : Wish} {R1 : Nat → (Nat → Addr) → Hp → a' → b' → Prop} {R : Nat → (Nat → Addr) → Hp → a → b → Prop} {S : Sto} {io : Nat → Addr} {H : Hp} {Q : b → Hp → Prop}
    {N : b' → Hp → Prop} {r : Res a'} {f : a' → Sto → Res a} (h : Post K T W R S io H Q (r.bind f))
    (k : ∀ p S1 io1 H1 v, Ex S.length io H io1 H1 → S.length ≤ S1.length → Rel K T S1 io1 H1 → R1 S1.length io1 H1 p v → Post K T W R S1 io1 H1 Q (f p S1) → N v H1) : Post K T W R1 S io H N r := by
  cases r with
  | ok p S1 => exact fun io1 H1 v e l rel rp => k p S1 io1 H1 v e l rel rp (Post.start e l h)
  | exc x S1 => exact h
  | bad => exact h
def lift {a b : Type} (K : PySem.W.Frag) (T : List Addr) (W : Wish) (R : Nat → (Nat → Addr) → Hp → a → b → Prop) (m : Env → Sto → Res a) : L2.St → Hp → (b → Hp → Prop) → Prop :=
  fun s H Q => ∃ S io env, Rel K T S io H ∧ EnvR K S.length io H env s ∧ Post K T W R S io H Q (m env S)
theorem lift.mk {a b : Type} {K : PySem.W.Frag} {T : List Addr} {W : Wish} {R : Nat → (Nat → Addr) → Hp → a → b → Prop} {m : Env → Sto → Res a} {s : L2.St} {S S1 : Sto} {io io1 : Nat → Addr} {H H1 : Hp} {env : Env} {Q : b → Hp → Prop}
    (er : EnvR K S.length io H env s) (e : Ex S.length io H io1 H1) (l : S.length ≤ S1.length) (rel : Rel K T S1 io1 H1) (h : Post K T W R S1 io1 H1 Q (m env S1)) : lift K T W R m s H1 Q :=
  ⟨S1, io1, env, rel, er.mono e l, h⟩
section
variable {K : PySem.W.Frag} {T : List Addr} {W : Wish} {S : Sto} {io : Nat → Addr} {H : Hp}
theorem Post.val {a b : Type} {R : Nat → (Nat → Addr) → Hp → a → b → Prop} {Q : b → Hp → Prop} {p : a} {v : b} (rel : Rel K T S io H) (h : Post K T W R S io H Q (.ok p S)) (r : R S.length io H p v) : Q v H := h io H v .refl (Nat.le_refl _) rel r
/-- a fresh object, untracked by the store -/
theorem Rel.fresh {a : Addr} {o : HO} (rel : Rel K T S io H) (n : H a = none) : Rel K T S io (upd H a o) ∧ Ex S.length io H io (upd H a o) := by
  have ex : Ex S.length io H io (upd H a o) := ⟨fun _ _ => rfl, fun b xs e => by rw [upd_ne (ne_of_none e n)]; exact e, fun b ob u e => by rw [upd_ne (ne_of_none e n)]; exact e⟩
  refine ⟨⟨fun i q hq => ?_, rel.inj, fun P hP => ?_⟩, ex⟩
  · have h := rel.obj i q hq
    cases q with
    | lst ps =>
      obtain ⟨xs, h1, h2⟩ := h
      exact ⟨xs, by rw [upd_ne (ne_of_none h1 n)]; exact h1, h2.mono ex (Nat.le_refl _)⟩
    | ro ps =>
      obtain ⟨xs, h1, h2⟩ := h
      refine ⟨xs, ?_, h2.mono ex (Nat.le_refl _)⟩
      rcases h1 with ⟨ob, h1⟩ | h1
      · exact .inl ⟨ob, by rw [upd_ne (ne_of_none h1 n)]; exact h1⟩
      · exact .inr h1
  · obtain ⟨ps, h1, h2⟩ := rel.tab P hP
    exact ⟨ps, by rw [upd_ne (ne_of_none h1 n)]; exact h1, h2⟩
theorem Post.tup {Q : VK} {ps : List PV} {vs : List V} (rel : Rel K T S io H) (h : Post K T W (Rep K) S io H Q (.ok (.tup ps) S)) (r : Reps K S.length io H ps vs) : ∀ a, H a = none → Q (.ref a) (upd H a (.tup vs)) := by
  intro a n
  obtain ⟨rel', ex⟩ := rel.fresh (o := .tup vs) n
  exact h io _ _ ex (Nat.le_refl _) rel' ⟨a, vs, rfl, .inl (.inl upd_same), r.mono ex (Nat.le_refl _)⟩
/-- a new object of the store -/
theorem Rel.alloc {a : Addr} {o : HO} {q : PO} (rel : Rel K T S io H) (n : H a = none) (hq : POR K (S.length + 1) (fun j => if j = S.length then a else io j) (upd H a o) a q) :
    Rel K T (S ++ [q]) (fun j => if j = S.length then a else io j) (upd H a o) ∧ Ex S.length io H (fun j => if j = S.length then a else io j) (upd H a o) := by
  have ex : Ex S.length io H (fun j => if j = S.length then a else io j) (upd H a o) := ⟨fun i hi => if_neg (Nat.ne_of_lt hi), fun b xs e => by rw [upd_ne (ne_of_none e n)]; exact e, fun b ob u e => by rw [upd_ne (ne_of_none e n)]; exact e⟩
  have hl : (S ++ [q]).length = S.length + 1 := by simp
  have old : ∀ i o', (S ++ [q])[i]? = some o' → i ≠ S.length → S[i]? = some o' ∧ i < S.length := fun i o' e ne => by
    have hi : i < (S ++ [q]).length := (List.getElem?_eq_some_iff.mp e).1
    rw [hl] at hi
    have hi' : i < S.length := by omega
    rw [List.getElem?_append_left hi'] at e
    exact ⟨e, hi'⟩
  have ne : ∀ i o', S[i]? = some o' → o'.mutb = true → io i ≠ a := fun i o' e m => by
    obtain ⟨u, hu, _⟩ := (rel.obj i o' e).there m
    exact ne_of_none hu n
  refine ⟨⟨fun i q' hq' => ?_, fun i j o1 o2 h1 h2 m1 m2 e => ?_, fun P hP => ?_⟩, ex⟩
  · rw [hl]
    by_cases hi : i = S.length
    · subst hi
      have : q' = q := by simpa using hq'.symm
      subst this
      show POR K _ _ _ (if S.length = S.length then a else io S.length) q'
      rw [if_pos rfl]
      exact hq
    · obtain ⟨e, hi'⟩ := old i q' hq' hi
      have h := rel.obj i q' e
      show POR K _ _ _ (if i = S.length then a else io i) q'
      rw [if_neg hi]
      cases q' with
      | lst ps =>
        obtain ⟨xs, h1, h2⟩ := h
        exact ⟨xs, by rw [upd_ne (ne_of_none h1 n)]; exact h1, h2.mono ex (Nat.le_succ _)⟩
      | ro ps =>
        obtain ⟨xs, h1, h2⟩ := h
        refine ⟨xs, ?_, h2.mono ex (Nat.le_succ _)⟩
        rcases h1 with ⟨ob, h1⟩ | h1
        · exact .inl ⟨ob, by rw [upd_ne (ne_of_none h1 n)]; exact h1⟩
        · exact .inr h1
  · have e' : (if i = S.length then a else io i) = (if j = S.length then a else io j) := e
    by_cases hi : i = S.length
    · by_cases hj : j = S.length
      · rw [hi, hj]
      · rw [if_pos hi, if_neg hj] at e'
        obtain ⟨f, _⟩ := old j o2 h2 hj
        exact absurd e'.symm (ne j o2 f m2)
    · obtain ⟨f, _⟩ := old i o1 h1 hi
      by_cases hj : j = S.length
      · rw [if_neg hi, if_pos hj] at e'
        exact absurd e' (ne i o1 f m1)
      · rw [if_neg hi, if_neg hj] at e'
        obtain ⟨g, _⟩ := old j o2 h2 hj
        exact rel.inj i j o1 o2 f g m1 m2 e'
  · obtain ⟨ps, h1, h2⟩ := rel.tab P hP
    exact ⟨ps, by rw [upd_ne (ne_of_none h1 n)]; exact h1, h2⟩
theorem Post.lst {Q : VK} {ps : List PV} {vs : List V} (rel : Rel K T S io H) (h : Post K T W (Rep K) S io H Q (.ok (.obj S.length) (S ++ [.lst ps]))) (r : Reps K S.length io H ps vs) : ∀ a, H a = none → Q (.ref a) (upd H a (.lst vs)) := by
  intro a n
  have ex : Ex S.length io H (fun j => if j = S.length then a else io j) (upd H a (.lst vs)) := ⟨fun i hi => if_neg (Nat.ne_of_lt hi), fun b xs e => by rw [upd_ne (ne_of_none e n)]; exact e, fun b ob u e => by rw [upd_ne (ne_of_none e n)]; exact e⟩
  obtain ⟨rel', _⟩ := rel.alloc (o := .lst vs) (q := .lst ps) n ⟨vs, upd_same, r.mono ex (Nat.le_succ _)⟩
  refine h _ _ _ ex (by simp) rel' ⟨by simp, ?_⟩
  show V.ref a = .ref (if S.length = S.length then a else io S.length)
  rw [if_pos rfl]
/-- an object of the store changed -/
theorem Rel.put {i : Nat} {o : HO} {q0 q : PO} (rel : Rel K T S io H) (h0 : S[i]? = some q0) (m0 : q0.mutb = true) (m : q.mutb = true) (hq : ∀ ex : Ex S.length io H io (upd H (io i) o), POR K S.length io (upd H (io i) o) (io i) q) :
    Rel K T (S.set i q) io (upd H (io i) o) ∧ Ex S.length io H io (upd H (io i) o) := by
  obtain ⟨u, hu, u1, u2, u3⟩ := (rel.obj i q0 h0).there m0
  have ex : Ex S.length io H io (upd H (io i) o) := ⟨fun _ _ => rfl, fun b xs e => by rw [upd_ne (ne_of e hu (fun z => u1 _ z.symm))]; exact e, fun b ob w e => by rw [upd_ne (ne_of e hu (fun z => u2 _ _ z.symm))]; exact e⟩
  have hl : (S.set i q).length = S.length := by simp
  have hi : i < S.length := (List.getElem?_eq_some_iff.mp h0).1
  have get : ∀ j q', (S.set i q)[j]? = some q' → (j = i ∧ q' = q) ∨ (j ≠ i ∧ S[j]? = some q') := fun j q' e => by
    rw [List.getElem?_set] at e
    by_cases hj : i = j
    · rw [if_pos hj, if_pos hi] at e
      exact .inl ⟨hj.symm, (Option.some.inj e).symm⟩
    · rw [if_neg hj] at e
      exact .inr ⟨fun z => hj z.symm, e⟩
  refine ⟨⟨fun j q' hq' => ?_, fun j k o1 o2 h1 h2 m1 m2 e => ?_, fun P hP => ?_⟩, ex⟩
  · rw [hl]
    rcases get j q' hq' with ⟨rfl, rfl⟩ | ⟨hj, e⟩
    · exact hq ex
    · have h := rel.obj j q' e
      have ne : q'.mutb = true → io j ≠ io i := fun m' z => hj (rel.inj j i q' q0 e h0 m' m0 z)
      cases q' with
      | lst ps =>
        obtain ⟨xs, h1, h2⟩ := h
        exact ⟨xs, by rw [upd_ne (ne rfl)]; exact h1, h2.mono ex (Nat.le_refl _)⟩
      | ro ps =>
        obtain ⟨xs, h1, h2⟩ := h
        refine ⟨xs, ?_, h2.mono ex (Nat.le_refl _)⟩
        rcases h1 with ⟨ob, h1⟩ | h1
        · exact .inl ⟨ob, ex.frz _ _ _ h1⟩
        · exact .inr h1
  · rcases get j o1 h1 with ⟨rfl, rfl⟩ | ⟨hj, e1⟩
    · rcases get k o2 h2 with ⟨rfl, _⟩ | ⟨hk, e2⟩
      · rfl
      · exact rel.inj j k q0 o2 h0 e2 m0 m2 e
    · rcases get k o2 h2 with ⟨rfl, rfl⟩ | ⟨hk, e2⟩
      · exact rel.inj j k o1 q0 e1 h0 m1 m0 e
      · exact rel.inj j k o1 o2 e1 e2 m1 m2 e
  · obtain ⟨ps, h1, h2⟩ := rel.tab P hP
    exact ⟨ps, by rw [upd_ne (ne_of h1 hu (fun z => u3 _ z.symm))]; exact h1, h2⟩
theorem Post.putL {Q : VK} {i : Nat} {ps0 ps : List PV} {vs : List V} {p : PV} {v : V} (rel : Rel K T S io H) (h0 : S[i]? = some (.lst ps0)) (h : Post K T W (Rep K) S io H Q (.ok p (S.set i (.lst ps)))) (r : Reps K S.length io H ps vs) (rp : Rep K S.length io H p v) :
    Q v (upd H (io i) (.lst vs)) := by
  obtain ⟨rel', ex⟩ := rel.put (o := .lst vs) (q := .lst ps) h0 rfl rfl fun ex => ⟨vs, upd_same, r.mono ex (Nat.le_refl _)⟩
  refine h io _ v ex (by simp) rel' ?_
  rw [List.length_set]
  exact rp.mono ex (Nat.le_refl _)
/-- the list that stands at i -/
theorem Rel.sq {i : Nat} {ps : List PV} (rel : Rel K T S io H) (h : seqOf S i = some ps) : ∃ xs, SqL K H (io i) xs ∧ Reps K S.length io H ps xs := by
  unfold seqOf at h
  split at h
  · rename_i xs e
    cases h
    obtain ⟨vs, h1, h2⟩ := rel.obj i _ e
    exact ⟨vs, .inl (.inl h1), h2⟩
  · rename_i xs e
    cases h
    obtain ⟨vs, h1, h2⟩ := rel.obj i _ e
    rcases h1 with ⟨o, h1⟩ | h1
    · exact ⟨vs, .inl (.inr ⟨o, h1⟩), h2⟩
    · exact ⟨vs, .inr h1, h2⟩
  · cases h
theorem Rel.lst {i : Nat} {ps : List PV} (rel : Rel K T S io H) (h : S[i]? = some (.lst ps)) : ∃ xs, H (io i) = some (.lst xs) ∧ Reps K S.length io H ps xs := rel.obj i _ h
end
end TM

/-! TM, part C: operations on values. -/
namespace TM
open PySem PySem.Spec PyProof.Rows L2

theorem line_eq : sizeLine = LINE := sizeLine_eq
theorem mkS_len (a : List Nat) : (mkS a).length = a.length := by simp [mkS, Str.length]
theorem mkS_app (a b : List Nat) : mkS a ++ mkS b = mkS (a ++ b) := by
  show Str.append _ _ = _
  simp [mkS, Str.append]
theorem mkS_toList (a : List Nat) : (mkS a).cps.toList = a := rfl
theorem mkS_inj {a b : List Nat} : mkS a = mkS b ↔ a = b := by
  constructor
  · intro h
    have := congrArg (fun s => s.cps.toList) h
    simpa [mkS] using this
  · intro h; rw [h]

section
variable {X : Cx} {T : List Addr} {W : Wish} {S : Sto} {io : Nat → Addr} {H : Hp}
/-- a two-place operation by pure values -/
def LR2 (K : PySem.W.Frag) (T : List Addr) (W : Wish) (f : PV → PV → Sto → Res PV) : R2 := fun x y H Q =>
  ∃ S io p q, Rel K T S io H ∧ Rep K S.length io H p x ∧ Rep K S.length io H q y ∧ Post K T W (Rep K) S io H Q (f p q S)
def toOp : Op2 → Operator
  | .add => .Add | .sub => .Sub | .mul => .Mult | .fdiv => .FloorDiv | .mod => .Mod | .pow => .Pow | .shl => .LShift | .shr => .RShift | .band => .BitAnd | .bor => .BitOr
def toCop : Cop → CmpOp
  | .eq => .Eq | .ne => .NotEq | .lt => .Lt | .le => .LtE | .gt => .Gt | .ge => .GtE | .is => .Is | .isnot => .IsNot | .inn => .In | .notin => .NotIn

theorem mul_ok {i j : Int} (h : mulOk i j = true) : CMul i j := by
  unfold mulOk P64 at h
  simp only [Bool.or_eq_true, Bool.and_eq_true, decide_eq_true_eq] at h
  unfold CMul
  omega
theorem binI_ok (o : Op2) : OpR X (binaryOp (toOp o)) (fun x y H Q => ∃ i j k, x = .int i ∧ y = .int j ∧ binI o i j = some k ∧ Q (.int k) H) := by
  intro pins s σ H x y v u Q I rx ry h
  obtain ⟨i, j, k, ex, ey, hk, q⟩ := h
  cases o with
  | add => cases hk; exact op_add pins s σ H x y v u Q I rx ry ⟨i, j, ex, ey, q⟩
  | sub => cases hk; exact op_sub pins s σ H x y v u Q I rx ry ⟨i, j, ex, ey, q⟩
  | mul =>
    simp only [binI] at hk
    split at hk
    · rename_i hm
      cases hk
      exact op_mul pins s σ H x y v u Q I rx ry ⟨i, j, ex, ey, mul_ok hm, q⟩
    · cases hk
  | fdiv =>
    simp only [binI] at hk
    split at hk
    · rename_i hm
      cases hk
      simp only [Bool.and_eq_true, bne_iff_ne, ne_eq, decide_eq_true_eq] at hm
      exact op_fdivN pins s σ H x y v u Q I rx ry ⟨i, j, ex, ey, hm, q⟩
    · cases hk
  | mod =>
    simp only [binI] at hk
    split at hk
    · rename_i hm
      cases hk
      simp only [bne_iff_ne, ne_eq] at hm
      exact op_modN pins s σ H x y v u Q I rx ry ⟨i, j, ex, ey, hm, q⟩
    · cases hk
  | pow =>
    simp only [binI] at hk
    split at hk
    · rename_i hm
      cases hk
      simp only [Bool.and_eq_true, decide_eq_true_eq] at hm
      exact op_pow pins s σ H x y v u Q I rx ry ⟨i, j, ex, ey, ⟨hm.1.1, hm.1.2, by omega⟩, q⟩
    · cases hk
  | shl =>
    simp only [binI] at hk
    split at hk
    · rename_i hm
      cases hk
      simp only [Bool.and_eq_true, decide_eq_true_eq] at hm
      exact op_shl pins s σ H x y v u Q I rx ry ⟨i, j, ex, ey, ⟨hm.1.1, hm.1.2, by omega⟩, q⟩
    · cases hk
  | shr =>
    simp only [binI] at hk
    split at hk
    · rename_i hm
      cases hk
      simp only [decide_eq_true_eq] at hm
      exact op_shr pins s σ H x y v u Q I rx ry ⟨i, j, ex, ey, hm, q⟩
    · cases hk
  | band => cases hk; exact op_and pins s σ H x y v u Q I rx ry ⟨i, j, ex, ey, q⟩
  | bor => cases hk; exact op_or pins s σ H x y v u Q I rx ry ⟨i, j, ex, ey, q⟩
theorem post_bad {a b : Type} {K : PySem.W.Frag} {R : Nat → (Nat → Addr) → Hp → a → b → Prop} {Q : b → Hp → Prop} (h : Post K T W R S io H Q .bad) : False := h
theorem binV_ok (o : Op2) : OpR X (binaryOp (toOp o)) (LR2 X.K T W (binV o)) := by
  intro pins s σ H x y v u Q I rx ry h
  obtain ⟨S, io, p, q, rel, hp, hq, post⟩ := h
  unfold binV at post
  split at post
  · rename_i i j
    cases hp; cases hq
    cases e : binI o i j with
    | none => rw [e] at post; exact post.elim
    | some k =>
      rw [e] at post
      exact binI_ok o pins s σ H _ _ v u Q I rx ry ⟨i, j, k, rfl, rfl, e, post.val rel rfl⟩
  · rename_i a b
    cases hp; cases hq
    split at post
    · split at post
      · rename_i hl
        refine op_add_str pins s σ H _ _ v u Q I rx ry ⟨_, _, rfl, rfl, ?_, ?_⟩
        · rw [mkS_len, mkS_len, line_eq]; exact hl
        · rw [mkS_app]; exact post.val rel rfl
      · exact post.elim
    · exact post.elim
  · rename_i a b
    obtain ⟨a1, xs, rfl, h1, h2⟩ := hp
    obtain ⟨a2, ys, rfl, h3, h4⟩ := hq
    split at post
    · split at post
      · rename_i hl
        have l1 := h2.length
        have l2 := h4.length
        refine op_catA pins s σ H _ _ v u Q I rx ry ⟨a1, a2, xs, ys, rfl, rfl, h1, h3, by rw [l1, l2, line_eq]; exact hl, fun e => ?_, fun _ e => ?_, fun _ _ => Post.tup rel post (h2.append h4)⟩
        · refine post.val rel ⟨a2, ys, rfl, h3, ?_⟩
          have : a = [] := by
            cases a with
            | nil => rfl
            | cons _ _ => rw [e] at l1; simp at l1
          rw [this]; exact h4
        · refine post.val rel ⟨a1, xs, rfl, h1, ?_⟩
          have : b = [] := by
            cases b with
            | nil => rfl
            | cons _ _ => rw [e] at l2; simp at l2
          rw [this, List.append_nil]; exact h2
      · exact post.elim
    · exact post.elim
  · rename_i i j
    obtain ⟨_, rfl⟩ := hp
    obtain ⟨_, rfl⟩ := hq
    split at post
    · split at post
      · rename_i a b e1 e2
        split at post
        · rename_i hl
          obtain ⟨xs, h1, h2⟩ := rel.lst e1
          obtain ⟨ys, h3, h4⟩ := rel.lst e2
          exact op_cat pins s σ H _ _ v u Q I rx ry ⟨_, _, xs, ys, rfl, rfl, h1, h3, by rw [h2.length, h4.length, line_eq]; exact hl, Post.lst rel post (h2.append h4)⟩
        · exact post.elim
      · exact post.elim
    · exact post.elim
  · rename_i i k
    obtain ⟨_, rfl⟩ := hp
    cases hq
    split at post
    · split at post
      · rename_i a e1
        split at post
        · rename_i hl
          simp only [Bool.and_eq_true, decide_eq_true_eq] at hl
          obtain ⟨xs, h1, h2⟩ := rel.lst e1
          exact op_rep pins s σ H _ _ v u Q I rx ry ⟨_, _, xs, rfl, rfl, h1, hl.1.1, hl.1.2, by rw [h2.length, line_eq]; exact hl.2, Post.lst rel post (h2.flat _)⟩
        · exact post.elim
      · exact post.elim
    · exact post.elim
  · exact post.elim

/-! ### == -/
mutual
theorem dat_dp {K : PySem.W.Frag} {n : Nat} {io : Nat → Addr} {H : Hp} : ∀ {p : PV} {d : PyData} {v : V}, dat p = some d → Rep K n io H p v → Dp K H v d
  | .non, _, _, h, r => by cases h; cases r; exact .non
  | .bl b, _, _, h, r => by cases h; cases r; exact .bl b
  | .int b, _, _, h, r => by cases h; cases r; exact .int b
  | .str b, _, _, h, r => by cases h; cases r; exact .str _
  | .tup ps, d, _, h, r => by
    obtain ⟨a, xs, rfl, h1, h2⟩ := r
    unfold dat at h
    cases e : datL ps with
    | none => rw [e] at h; cases h
    | some ds =>
      rw [e] at h
      cases h
      exact .tup h1 (datL_dp e h2)
  | .obj _, _, _, h, _ => by cases h
theorem datL_dp {K : PySem.W.Frag} {n : Nat} {io : Nat → Addr} {H : Hp} : ∀ {ps : List PV} {ds : List PyData} {vs : List V}, datL ps = some ds → Reps K n io H ps vs → DpAll K H vs ds
  | [], _, _, h, r => by cases h; rw [show _ = [] from r]; exact .nil
  | p :: ps, _, _, h, r => by
    obtain ⟨x, xs, rfl, h1, h2⟩ := r
    unfold datL at h
    split at h
    · rename_i d ds e1 e2
      cases h
      exact .cons (dat_dp e1 h1) (datL_dp e2 h2)
    · cases h
end
theorem datS_dp {K : PySem.W.Frag} {p : PV} {d : PyData} {v : V} (rel : Rel K T S io H) (h : datS S p = some d) (r : Rep K S.length io H p v) : Dp K H v d := by
  unfold datS at h
  split at h
  · rename_i i
    obtain ⟨_, rfl⟩ := r
    split at h
    · rename_i xs e
      cases e2 : datL xs with
      | none => rw [e2] at h; cases h
      | some ds =>
        rw [e2] at h
        cases h
        obtain ⟨vs, h1, h2⟩ := rel.sq e
        exact .lst h1 (datL_dp e2 h2)
    · cases h
  · exact dat_dp h r
theorem eqS_scal {K : PySem.W.Frag} {n : Nat} {p q : PV} {x y : V} {b : Bool} (h : eqS p q = some b) (hp : Rep K n io H p x) (hq : Rep K n io H q y) : scal x y = true ∧ b = decide (x = y) := by
  cases p <;> cases q <;> simp only [eqS, reduceCtorEq, Option.some.injEq] at h <;> (try cases h) <;> cases hp <;> cases hq <;> refine ⟨rfl, ?_⟩ <;> first
    | rfl
    | (simp; done)
    | skip
  · rw [Bool.eq_iff_iff]; simp
  · rw [Bool.eq_iff_iff]; simp
  · rw [Bool.eq_iff_iff]; simp [mkS_inj]
/-- a comparison by pure values -/
def LRc (K : PySem.W.Frag) (T : List Addr) (W : Wish) (f : PV → PV → Sto → Option Bool) : R2 := LR2 K T W fun p q S => ofO ((f p q S).map PV.bl) S
theorem post_opt {K : PySem.W.Frag} {Q : VK} {o : Option Bool} (rel : Rel K T S io H) (post : Post K T W (Rep K) S io H Q (ofO (o.map PV.bl) S)) : ∃ b, o = some b ∧ Q (.bl b) H := by
  cases o with
  | none => exact post.elim
  | some b => exact ⟨b, rfl, post.val rel rfl⟩
theorem eq_ok (hu : X.A.units + 64 < cLine) : OpR X (compareOp .Eq) (LRc X.K T W (fun p q S => eqV S p q)) := by
  intro pins s σ H x y v u Q I rx ry h
  obtain ⟨S, io, p, q, rel, hp, hq, post⟩ := h
  obtain ⟨b, e, k⟩ := post_opt rel post
  have e : eqV S p q = some b := e
  unfold eqV at e
  split at e
  · rename_i b' e1
    cases e
    obtain ⟨h1, rfl⟩ := eqS_scal e1 hp hq
    exact op_eq pins s σ H x y v u Q I rx ry ⟨h1, k⟩
  · unfold eqD at e
    split at e
    · rename_i d f e1 e2
      split at e
      · rename_i hs
        cases e
        rw [Bool.and_eq_true] at hs
        exact op_eqD hu pins s σ H x y v u Q I rx ry ⟨d, f, datS_dp rel e1 hp, datS_dp rel e2 hq, hs.1, hs.2, k⟩
      · cases e
    · cases e
theorem ne_ok (hu : X.A.units + 64 < cLine) : OpR X (compareOp .NotEq) (LRc X.K T W (fun p q S => (eqV S p q).map (!·))) := by
  intro pins s σ H x y v u Q I rx ry h
  obtain ⟨S, io, p, q, rel, hp, hq, post⟩ := h
  obtain ⟨b, e, k⟩ := post_opt rel post
  have e : (eqV S p q).map (!·) = some b := e
  cases e0 : eqV S p q with
  | none => rw [e0] at e; cases e
  | some c =>
  rw [e0] at e
  cases e
  have e := e0
  unfold eqV at e
  split at e
  · rename_i b' e1
    cases e
    obtain ⟨h1, rfl⟩ := eqS_scal e1 hp hq
    exact op_ne pins s σ H x y v u Q I rx ry ⟨h1, k⟩
  · unfold eqD at e
    split at e
    · rename_i d f e1 e2
      split at e
      · rename_i hs
        cases e
        rw [Bool.and_eq_true] at hs
        exact op_neD hu pins s σ H x y v u Q I rx ry ⟨d, f, datS_dp rel e1 hp, datS_dp rel e2 hq, hs.1, hs.2, k⟩
      · cases e
    · cases e
/-! ### < -/
theorem ltN_eq : ∀ a b : List Nat, ltN a b = decide (a < b)
  | [], [] => by simp [ltN]
  | [], _ :: _ => by simp [ltN]
  | _ :: _, [] => by simp [ltN]
  | x :: xs, y :: ys => by
    unfold ltN
    have ih := ltN_eq xs ys
    by_cases e : x = y
    · rw [if_pos e, ih]
      simp [e, List.cons_lt_cons_iff]
    · rw [if_neg e]
      simp [List.cons_lt_cons_iff, e]
mutual
theorem dat_pur : ∀ {p : PV}, pur p = true → ∃ d, dat p = some d ∧ d.depth = dep p
  | .non, _ => ⟨_, rfl, rfl⟩
  | .bl _, _ => ⟨_, rfl, rfl⟩
  | .int _, _ => ⟨_, rfl, rfl⟩
  | .str _, _ => ⟨_, rfl, rfl⟩
  | .tup xs, h => by
    obtain ⟨ds, h1, h2⟩ := datL_pur (ps := xs) (by simpa [pur] using h)
    exact ⟨.tuple ds, by simp [dat, h1], by simp [PyData.depth, dep, h2]⟩
  | .obj _, h => by simp [pur] at h
theorem datL_pur : ∀ {ps : List PV}, purL ps = true → ∃ ds, datL ps = some ds ∧ PyData.depthAll ds = depL ps
  | [], _ => ⟨_, rfl, rfl⟩
  | p :: ps, h => by
    simp only [purL, Bool.and_eq_true] at h
    obtain ⟨d, h1, h2⟩ := dat_pur h.1
    obtain ⟨ds, h3, h4⟩ := datL_pur h.2
    exact ⟨d :: ds, by simp [datL, h1, h3], by simp [PyData.depthAll, depL, h2, h4]⟩
end
mutual
theorem alk_dat : ∀ {p q : PV} {d e : PyData}, dat p = some d → dat q = some e → alk p q = true → PySem.W.alike d e = true ∧ PyData.eqv d e = eqP p q ∧ PySem.W.dataLt d e = ltP p q
  | .non, .non, _, _, h, k, _ => by cases h; cases k; exact ⟨rfl, by simp [PyData.eqv, eqP], by decide +kernel⟩
  | .bl a, .bl b, _, _, h, k, _ => by
    cases h; cases k
    exact ⟨rfl, by simp [PyData.eqv, eqP], by rw [PySem.W.dataLt_bool]; cases a <;> cases b <;> rfl⟩
  | .int a, .int b, _, _, h, k, _ => by
    cases h; cases k
    exact ⟨rfl, by simp [PyData.eqv, eqP], by rw [PySem.W.dataLt_int]; rfl⟩
  | .str a, .str b, _, _, h, k, _ => by
    cases h; cases k
    refine ⟨rfl, ?_, ?_⟩
    · rw [PyData.eqv, eqP, Bool.eq_iff_iff]; simp [mkS_inj]
    · rw [PySem.W.dataLt_str, mkS_toList, mkS_toList, ltP, ltN_eq]
  | .tup xs, .tup ys, _, _, h, k, a => by
    unfold dat at h k
    cases e1 : datL xs with
    | none => rw [e1] at h; cases h
    | some ds =>
    cases e2 : datL ys with
    | none => rw [e2] at k; cases k
    | some es =>
    rw [e1] at h; rw [e2] at k
    cases h; cases k
    obtain ⟨h1, h2, h3⟩ := alkL_dat e1 e2 (by simpa [alk] using a)
    exact ⟨by simpa [PySem.W.alike] using h1, by simpa [PyData.eqv, eqP] using h2, by rw [PySem.W.dataLt_tuple, ltP]; exact h3⟩
  | .obj _, q, _, _, h, _, _ => by cases h
  | .non, .bl _, _, _, _, _, a => by simp [alk] at a
  | .non, .int _, _, _, _, _, a => by simp [alk] at a
  | .non, .str _, _, _, _, _, a => by simp [alk] at a
  | .non, .tup _, _, _, _, _, a => by simp [alk] at a
  | .non, .obj _, _, _, _, _, a => by simp [alk] at a
  | .bl _, .non, _, _, _, _, a => by simp [alk] at a
  | .bl _, .int _, _, _, _, _, a => by simp [alk] at a
  | .bl _, .str _, _, _, _, _, a => by simp [alk] at a
  | .bl _, .tup _, _, _, _, _, a => by simp [alk] at a
  | .bl _, .obj _, _, _, _, _, a => by simp [alk] at a
  | .int _, .non, _, _, _, _, a => by simp [alk] at a
  | .int _, .bl _, _, _, _, _, a => by simp [alk] at a
  | .int _, .str _, _, _, _, _, a => by simp [alk] at a
  | .int _, .tup _, _, _, _, _, a => by simp [alk] at a
  | .int _, .obj _, _, _, _, _, a => by simp [alk] at a
  | .str _, .non, _, _, _, _, a => by simp [alk] at a
  | .str _, .bl _, _, _, _, _, a => by simp [alk] at a
  | .str _, .int _, _, _, _, _, a => by simp [alk] at a
  | .str _, .tup _, _, _, _, _, a => by simp [alk] at a
  | .str _, .obj _, _, _, _, _, a => by simp [alk] at a
  | .tup _, .non, _, _, _, _, a => by simp [alk] at a
  | .tup _, .bl _, _, _, _, _, a => by simp [alk] at a
  | .tup _, .int _, _, _, _, _, a => by simp [alk] at a
  | .tup _, .str _, _, _, _, _, a => by simp [alk] at a
  | .tup _, .obj _, _, _, _, _, a => by simp [alk] at a
theorem alkL_dat : ∀ {ps qs : List PV} {ds es : List PyData}, datL ps = some ds → datL qs = some es → alkL ps qs = true → PySem.W.alikeAll ds es = true ∧ PyData.eqvAll ds es = eqPL ps qs ∧ PyProof.Rows.lexLt itemOrd (PySem.W.keyToksAll ds) (PySem.W.keyToksAll es) = ltPL ps qs
  | [], [], _, _, h, k, _ => by
    cases h; cases k
    exact ⟨by simp [PySem.W.alikeAll], by simp [PyData.eqvAll, eqPL], by rw [ltPL]; exact lex_irrefl _⟩
  | [], q :: qs, ds, es, h, k, _ => by
    cases h
    unfold datL at k
    split at k
    · cases k
      refine ⟨by simp [PySem.W.alikeAll], by simp [PyData.eqvAll, eqPL], ?_⟩
      rw [ltPL, PySem.W.toks_all_cons]
      simp only [PySem.W.keyToksAll]
      rw [lex_diff (O := itemOrd) (by simp)]
      rfl
    · cases k
  | p :: ps, [], ds, es, h, k, _ => by
    cases k
    unfold datL at h
    split at h
    · cases h
      refine ⟨by simp [PySem.W.alikeAll], by simp [PyData.eqvAll, eqPL], ?_⟩
      rw [ltPL, PySem.W.toks_all_cons]
      simp only [PySem.W.keyToksAll]
      rw [lex_diff (O := itemOrd) (by simp)]
      rfl
    · cases h
  | p :: ps, q :: qs, ds, es, h, k, a => by
    unfold datL at h k
    split at h
    · split at k
      · rename_i d ds e1 e2 _ _ e es e3 e4
        cases h; cases k
        simp only [alkL, Bool.and_eq_true] at a
        obtain ⟨h1, h2, h3⟩ := alk_dat e1 e3 a.1
        obtain ⟨k1, k2, k3⟩ := alkL_dat e2 e4 a.2
        refine ⟨by simp [PySem.W.alikeAll, h1, k1], by simp [PyData.eqvAll, eqPL, h2, k2], ?_⟩
        rw [PySem.W.dataLt_cons h1, h2, k3, h3, ltPL]
      · cases k
    · cases h
end
theorem dat_non {p : PV} {d : PyData} (h : dat p = some d) (n : isNon p = false) : d ≠ .none := by
  cases p with
  | non => cases n
  | tup ps =>
    unfold dat at h
    cases e : datL ps with
    | none => rw [e] at h; cases h
    | some ds => rw [e] at h; cases h; exact fun z => by cases z
  | obj _ => cases h
  | _ => cases h; exact fun z => by cases z
/-- what < needs, from values that can be put in order -/
theorem ord_ok {pins : List (Addr × Obj)} {σ : L2.St} {s : Shared} (hu : X.A.units + 64 < cLine) (I : Inv X pins σ H s) {n : Nat} {p q : PV} {x y : V} {v u : Value} (hp : Rep X.K n io H p x) (hq : Rep X.K n io H q y) (rx : RelV x v) (ry : RelV y u) (h : ordB p q = true) :
    ∃ d e as bs, Reads s.heap v d as ∧ Reads s.heap u e bs ∧ PySem.W.alike d e = true ∧ d ≠ .none ∧ X.A.units + min d.depth e.depth < cLine ∧ PySem.W.dataLt d e = ltP p q ∧ (∀ z, z = PySem.W.dataLt e d → alk q p = true → z = ltP q p) := by
  simp only [ordB, Bool.and_eq_true, Bool.not_eq_true', decide_eq_true_eq] at h
  obtain ⟨⟨⟨⟨h1, h2⟩, h3⟩, h4⟩, h5⟩ := h
  obtain ⟨d, e1, d1⟩ := dat_pur h1
  obtain ⟨e, e2, d2⟩ := dat_pur h2
  obtain ⟨as, r1⟩ := Dp.reads I d x v (dat_dp e1 hp) rx
  obtain ⟨bs, r2⟩ := Dp.reads I e y u (dat_dp e2 hq) ry
  obtain ⟨k1, _, k3⟩ := alk_dat e1 e2 h3
  exact ⟨d, e, as, bs, r1, r2, k1, dat_non e1 h4, by omega, k3, fun z hz ha => hz.trans (alk_dat e2 e1 ha).2.2⟩
mutual
theorem alk_symm : ∀ {p q : PV}, alk p q = true → alk q p = true
  | .tup xs, .tup ys, h => by
    simp only [alk] at h ⊢
    exact alkL_symm h
  | .non, q, h => by cases q <;> simp_all [alk]
  | .bl _, q, h => by cases q <;> simp_all [alk]
  | .int _, q, h => by cases q <;> simp_all [alk]
  | .str _, q, h => by cases q <;> simp_all [alk]
  | .obj _, q, h => by cases q <;> simp_all [alk]
  | .tup _, .non, h => by simp [alk] at h
  | .tup _, .bl _, h => by simp [alk] at h
  | .tup _, .int _, h => by simp [alk] at h
  | .tup _, .str _, h => by simp [alk] at h
  | .tup _, .obj _, h => by simp [alk] at h
theorem alkL_symm : ∀ {ps qs : List PV}, alkL ps qs = true → alkL qs ps = true
  | [], [], _ => rfl
  | [], _ :: _, _ => rfl
  | _ :: _, [], _ => rfl
  | p :: ps, q :: qs, h => by
    simp only [alkL, Bool.and_eq_true] at h ⊢
    exact ⟨alk_symm h.1, alkL_symm h.2⟩
end
theorem ordB_alk {p q : PV} (h : ordB p q = true) : alk p q = true := by
  simp only [ordB, Bool.and_eq_true] at h
  exact h.1.1.2
theorem lt_ok (hu : X.A.units + 64 < cLine) : OpR X (compareOp .Lt) (LRc X.K T W (fun p q S => ltV p q)) := by
  intro pins s σ H x y v u Q I rx ry h
  obtain ⟨S, io, p, q, rel, hp, hq, post⟩ := h
  obtain ⟨b, e, k⟩ := post_opt rel post
  have e : ltV p q = some b := e
  unfold ltV at e
  split at e
  · rename_i ho
    cases e
    obtain ⟨d, f, as, bs, r1, r2, a, n, z, l, _⟩ := ord_ok hu I hp hq rx ry ho
    exact PySem.W.lt_data r1 r2 a n z ⟨.bl _, H, I, congrArg Value.bool l, k⟩
  · cases e
theorem cmpV_ok (hu : X.A.units + 64 < cLine) (o : Cop) : OpR X (compareOp (toCop o)) (LRc X.K T W (cmpV o)) := by
  cases o with
  | eq => exact eq_ok hu
  | ne => exact ne_ok hu
  | lt => exact lt_ok hu
  | gt =>
    intro pins s σ H x y v u Q I rx ry h
    obtain ⟨S, io, p, q, rel, hp, hq, post⟩ := h
    obtain ⟨b, e, k⟩ := post_opt rel post
    simp only [cmpV] at e
    split at e
    · rename_i ho
      cases e
      obtain ⟨d, f, as, bs, r1, r2, a, n, z, l, l2⟩ := ord_ok hu I hp hq rx ry ho
      have l3 := l2 _ rfl (alk_symm (ordB_alk ho))
      exact PySem.W.gt_data r1 r2 a n z ⟨.bl _, H, I, by rw [l3]; rfl, k⟩
    · cases e
  | le =>
    intro pins s σ H x y v u Q I rx ry h
    obtain ⟨S, io, p, q, rel, hp, hq, post⟩ := h
    obtain ⟨b, e, k⟩ := post_opt rel post
    simp only [cmpV] at e
    split at e
    · rename_i ho
      cases e
      obtain ⟨d, f, as, bs, r1, r2, a, n, z, l, l2⟩ := ord_ok hu I hp hq rx ry ho
      have l3 := l2 _ rfl (alk_symm (ordB_alk ho))
      exact PySem.W.le_data r1 r2 a n z ⟨.bl _, H, I, by rw [l3]; rfl, k⟩
    · cases e
  | ge =>
    intro pins s σ H x y v u Q I rx ry h
    obtain ⟨S, io, p, q, rel, hp, hq, post⟩ := h
    obtain ⟨b, e, k⟩ := post_opt rel post
    simp only [cmpV] at e
    split at e
    · rename_i ho
      cases e
      obtain ⟨d, f, as, bs, r1, r2, a, n, z, l, l2⟩ := ord_ok hu I hp hq rx ry ho
      have l3 := l2 _ rfl (alk_symm (ordB_alk ho))
      exact PySem.W.ge_data r1 r2 a n z ⟨.bl _, H, I, by rw [l]; rfl, k⟩
    · cases e
  | is =>
    intro pins s σ H x y v u Q I rx ry h
    obtain ⟨S, io, p, q, rel, hp, hq, post⟩ := h
    obtain ⟨b, e, k⟩ := post_opt rel post
    simp only [cmpV] at e
    split at e
    · cases hq
      refine op_isN pins s σ H _ _ v u Q I rx ry ⟨rfl, ?_⟩
      cases p with
      | non => cases hp; cases e; exact k
      | tup ps => obtain ⟨_, _, rfl, _⟩ := hp; cases e; exact k
      | obj i => obtain ⟨_, rfl⟩ := hp; cases e; exact k
      | _ => cases hp; cases e; exact k
    · cases e
  | isnot =>
    intro pins s σ H x y v u Q I rx ry h
    obtain ⟨S, io, p, q, rel, hp, hq, post⟩ := h
    obtain ⟨b, e, k⟩ := post_opt rel post
    simp only [cmpV] at e
    split at e
    · cases hq
      refine op_notN pins s σ H _ _ v u Q I rx ry ⟨rfl, ?_⟩
      cases p with
      | non => cases hp; cases e; exact k
      | tup ps => obtain ⟨_, _, rfl, _⟩ := hp; cases e; exact k
      | obj i => obtain ⟨_, rfl⟩ := hp; cases e; exact k
      | _ => cases hp; cases e; exact k
    · cases e
  | inn =>
    intro pins s σ H x y v u Q I rx ry h
    obtain ⟨S, io, p, q, rel, hp, hq, post⟩ := h
    exact post.elim
  | notin =>
    intro pins s σ H x y v u Q I rx ry h
    obtain ⟨S, io, p, q, rel, hp, hq, post⟩ := h
    exact post.elim
end
end TM

/-! TM: sorting. -/
namespace TM
open PySem PySem.Spec PyProof.Rows L2 PySem.W

section
variable {α : Type} {le : α → α → Bool}
theorem insV_mem {x y : α} : ∀ {l : List α}, y ∈ insV le x l → y = x ∨ y ∈ l
  | [], h => by simp [insV] at h; exact .inl h
  | z :: zs, h => by
    unfold insV at h
    split at h
    · rcases List.mem_cons.mp h with h | h
      · exact .inl h
      · exact .inr h
    · rcases List.mem_cons.mp h with h | h
      · exact .inr (by simp [h])
      · rcases insV_mem h with h | h
        · exact .inl h
        · exact .inr (by simp [h])
theorem insV_pair (h : TotalLe le) {x : α} : ∀ {l : List α}, l.Pairwise (fun a b => le a b = true) → (insV le x l).Pairwise (fun a b => le a b = true)
  | [], _ => by simp [insV]
  | z :: zs, p => by
    unfold insV
    have p' := List.pairwise_cons.mp p
    split
    · rename_i hx
      refine List.pairwise_cons.mpr ⟨fun b hb => ?_, p⟩
      rcases List.mem_cons.mp hb with rfl | hb
      · exact hx
      · exact h.trans _ _ _ hx (p'.1 b hb)
    · rename_i hx
      refine List.pairwise_cons.mpr ⟨fun b hb => ?_, insV_pair h p'.2⟩
      rcases insV_mem hb with rfl | hb
      · rcases h.total b z with q | q
        · exact absurd q hx
        · exact q
      · exact p'.1 b hb
theorem isort_pair (h : TotalLe le) : ∀ l : List α, (isort le l).Pairwise (fun a b => le a b = true)
  | [] => List.Pairwise.nil
  | x :: xs => insV_pair h (isort_pair h xs)
theorem insV_filter (h : TotalLe le) (c x : α) : ∀ l : List α, (insV le x l).filter (sameRank le c) = (x :: l).filter (sameRank le c)
  | [] => rfl
  | z :: zs => by
    unfold insV
    split
    · rfl
    · rename_i hx
      rw [List.filter_cons, insV_filter h c x zs, List.filter_cons, List.filter_cons, List.filter_cons]
      cases e1 : sameRank le c x with
      | false => simp
      | true =>
        cases e2 : sameRank le c z with
        | false => simp
        | true =>
          unfold sameRank at e1 e2
          rw [Bool.and_eq_true] at e1 e2
          exact absurd (h.trans _ _ _ e1.2 e2.1) hx
theorem isort_filter (h : TotalLe le) (c : α) : ∀ l : List α, (isort le l).filter (sameRank le c) = l.filter (sameRank le c)
  | [] => rfl
  | x :: xs => by
    unfold isort
    rw [insV_filter h, List.filter_cons, List.filter_cons, isort_filter h c xs]
theorem isort_eq (h : TotalLe le) (l : List α) : isort le l = l.mergeSort le := sort_unique h (isort_pair h l) fun c => isort_filter h c l
theorem insV_map {β : Type} {r : β → β → Bool} (f : α → β) (x : α) : ∀ l : List α, (∀ y ∈ l, le x y = r (f x) (f y)) → (insV le x l).map f = insV r (f x) (l.map f)
  | [], _ => rfl
  | y :: ys, h => by
    simp only [insV, List.map_cons]
    rw [h y (by simp)]
    split
    · rfl
    · rw [List.map_cons, insV_map f x ys fun z hz => h z (by simp [hz])]
theorem isort_mem {x : α} : ∀ {l : List α}, x ∈ isort le l → x ∈ l
  | [], h => h
  | y :: ys, h => by
    rcases insV_mem h with rfl | h
    · simp
    · have := isort_mem h
      simp [this]
theorem isort_map {β : Type} {r : β → β → Bool} (f : α → β) : ∀ l : List α, (∀ x ∈ l, ∀ y ∈ l, le x y = r (f x) (f y)) → (isort le l).map f = isort r (l.map f)
  | [], _ => rfl
  | x :: xs, h => by
    simp only [isort, List.map_cons]
    rw [insV_map f x _ fun y hy => h x (by simp) y (by simp [isort_mem hy]), isort_map f xs fun y hy z hz => h y (by simp [hy]) z (by simp [hz])]
theorem insV_len (x : α) : ∀ l : List α, (insV le x l).length = l.length + 1
  | [] => rfl
  | y :: ys => by
    unfold insV
    split
    · rfl
    · simp [insV_len x ys]
theorem isort_len : ∀ l : List α, (isort le l).length = l.length
  | [] => rfl
  | x :: xs => by simp [isort, insV_len, isort_len xs]
end

/-- what a value reads as, None where it is no datum -/
def encP (p : PV) : PyData := (dat p).getD .none
theorem encP_eq {p : PV} (h : pur p = true) : dat p = some (encP p) := by
  obtain ⟨d, e, _⟩ := dat_pur h
  unfold encP
  rw [e]; rfl
theorem reps_zip {K : PySem.W.Frag} {n : Nat} {io : Nat → Addr} {H : Hp} : ∀ {ps : List PV} {xs : List V}, Reps K n io H ps xs → ∀ b ∈ ps.zip xs, Rep K n io H b.1 b.2
  | [], _, h, b, hb => by simp at hb
  | p :: ps, _, h, b, hb => by
    obtain ⟨x, r, rfl, h1, h2⟩ := h
    rcases List.mem_cons.mp hb with rfl | hb
    · exact h1
    · exact reps_zip h2 b hb
theorem zip_reps {K : PySem.W.Frag} {n : Nat} {io : Nat → Addr} {H : Hp} : ∀ {bs : List (PV × V)}, (∀ b ∈ bs, Rep K n io H b.1 b.2) → Reps K n io H (bs.map (·.1)) (bs.map (·.2))
  | [], _ => rfl
  | b :: bs, h => ⟨_, _, rfl, h b (by simp), zip_reps fun c hc => h c (by simp [hc])⟩
theorem vals_zip : ∀ {ps : List PV} {xs : List V} {us : List Value}, ps.length = xs.length → Vals xs us → EachIs (fun u (b : PV × V) => RelV b.2 u) us (ps.zip xs)
  | [], [], _, _, h => by cases h; exact .nil
  | p :: ps, x :: xs, _, e, h => by
    cases h with
    | cons h1 h2 => exact .cons h1 (vals_zip (by simpa using e) h2)
  | [], _ :: _, _, e, _ => by simp at e
  | _ :: _, [], _, e, _ => by simp at e
theorem zip_vals : ∀ {bs : List (PV × V)} {us : List Value}, EachIs (fun u (b : PV × V) => RelV b.2 u) us bs → Vals (bs.map (·.2)) us
  | _, _, .nil => .nil
  | _, _, .cons h t => .cons h (zip_vals t)
theorem zip_reads {X : Cx} {pins : List (Addr × Obj)} {σ : L2.St} {H : Hp} {s : Shared} (I : Inv X pins σ H s) {n : Nat} {io : Nat → Addr} : ∀ {bs : List (PV × V)} {us : List Value}, (∀ b ∈ bs, Rep X.K n io H b.1 b.2 ∧ pur b.1 = true) → EachIs (fun u (b : PV × V) => RelV b.2 u) us bs →
    EachIs (fun u (b : PV × V) => ∃ as, Reads s.heap u (encP b.1) as) us bs
  | _, _, _, .nil => .nil
  | b :: bs, _, h, .cons r t => .cons (Dp.reads I _ _ _ (dat_dp (encP_eq (h b (by simp)).2) (h b (by simp)).1) r) (zip_reads I (fun c hc => h c (by simp [hc])) t)
theorem sortB_ok {ps : List PV} (h : sortB ps = true) : (∀ p ∈ ps, pur p = true) ∧ (∀ p ∈ ps, ∀ q ∈ ps, alk p q = true) ∧ (∀ p ∈ ps, dep p ≤ 60) ∧ ((∀ p ∈ ps, ntup p = true) ∨ ∀ p ∈ ps, stup p = true) ∧ ps.length ≤ sizeLine := by
  simp only [sortB, Bool.and_eq_true, Bool.or_eq_true, List.all_eq_true, decide_eq_true_eq] at h
  refine ⟨h.1.1.1.1, h.1.1.1.2, h.1.1.2, h.1.2, ?_⟩
  rw [line_eq]; exact h.2
theorem zip_fst_mem {α β : Type} {xs : List α} {ys : List β} {b : α × β} (h : b ∈ xs.zip ys) : b.1 ∈ xs := (List.of_mem_zip h).1
theorem zip_map_fst {α β : Type} : ∀ {xs : List α} {ys : List β}, xs.length = ys.length → (xs.zip ys).map (·.1) = xs
  | [], [], _ => rfl
  | x :: xs, y :: ys, h => by
    simp only [List.zip_cons_cons, List.map_cons]
    rw [zip_map_fst (by simpa using h)]
  | [], _ :: _, h => by simp at h
  | _ :: _, [], h => by simp at h
/-- what sorting data needs and gives -/
structure SortOk (A : Around) (K : PySem.W.Frag) (n : Nat) (io : Nat → Addr) (H : Hp) (ps : List PV) (bs : List (PV × V)) : Prop where
  al : AllAlike (bs.map fun b => encP b.1)
  sb : Sortable (bs.map fun b => encP b.1)
  ln : bs.length ≤ sizeLine
  dp : ∀ b, b ∈ bs → A.units + 2 + (encP b.1).depth < cLine
  out : Reps K n io H (isort leP ps) ((bs.mergeSort (dataLe false fun b => encP b.1)).map (·.2))
  ol : (bs.mergeSort (dataLe false fun b => encP b.1)).length ≤ sizeLine
theorem sort_ok {A : Around} (hu : A.units + 64 < cLine) {K : PySem.W.Frag} {n : Nat} {io : Nat → Addr} {H : Hp} {ps : List PV} {xs : List V} (hr : Reps K n io H ps xs) (hs : sortB ps = true) : SortOk A K n io H ps (ps.zip xs) := by
  obtain ⟨h1, h2, h3, h4, h5⟩ := sortB_ok hs
  have hl : ps.length = xs.length := hr.length.symm
  have hz : (ps.zip xs).length = ps.length := by rw [List.length_zip, hl, Nat.min_self]
  have e : ∀ b ∈ ps.zip xs, dat b.1 = some (encP b.1) := fun b hb => encP_eq (h1 _ (zip_fst_mem hb))
  have tot : TotalLe (dataLe false fun b : PV × V => encP b.1) := sortLe_total _ _ _
  refine ⟨?_, ?_, by rw [hz]; exact h5, fun b hb => ?_, ?_, by rw [List.length_mergeSort, hz]; exact h5⟩
  · intro d hd d' hd'
    obtain ⟨b, hb, rfl⟩ := List.mem_map.mp hd
    obtain ⟨c, hc, rfl⟩ := List.mem_map.mp hd'
    exact (alk_dat (e b hb) (e c hc) (h2 _ (zip_fst_mem hb) _ (zip_fst_mem hc))).1
  · rcases h4 with h4 | h4
    · refine .inl fun d hd => ?_
      obtain ⟨b, hb, rfl⟩ := List.mem_map.mp hd
      have q := h4 _ (zip_fst_mem hb)
      have w := e b hb
      cases hp : b.1 with
      | tup qs =>
        rw [hp] at q w
        cases qs with
        | nil => simp [ntup] at q
        | cons y ys =>
          simp only [dat, datL] at w
          split at w
          · simp at w
            exact ⟨_, _, w.symm⟩
          · simp at w
      | _ => rw [hp] at q; simp [ntup] at q
    · refine .inr fun d hd => ?_
      obtain ⟨b, hb, rfl⟩ := List.mem_map.mp hd
      have q := h4 _ (zip_fst_mem hb)
      have w := e b hb
      cases hp : b.1 with
      | non => rw [hp] at q; simp [stup] at q
      | tup _ => rw [hp] at q; simp [stup] at q
      | obj _ => rw [hp] at w; cases w
      | bl _ => rw [hp] at w; simp [dat] at w; rw [← w]; exact ⟨(fun z => by cases z), fun _ z => by cases z⟩
      | int _ => rw [hp] at w; simp [dat] at w; rw [← w]; exact ⟨(fun z => by cases z), fun _ z => by cases z⟩
      | str _ => rw [hp] at w; simp [dat] at w; rw [← w]; exact ⟨(fun z => by cases z), fun _ z => by cases z⟩
  · obtain ⟨d, e1, e2⟩ := dat_pur (h1 _ (zip_fst_mem hb))
    have := h3 _ (zip_fst_mem hb)
    rw [e b hb] at e1
    cases e1
    omega
  · have q := isort_map (le := dataLe false fun b : PV × V => encP b.1) (r := leP) (·.1) (ps.zip xs) fun b hb c hc => by
      show (!dataLt (encP c.1) (encP b.1)) = !ltP c.1 b.1
      rw [(alk_dat (e c hc) (e b hb) (h2 _ (zip_fst_mem hc) _ (zip_fst_mem hb))).2.2]
    rw [zip_map_fst hl] at q
    rw [← q, ← isort_eq tot]
    exact zip_reps fun b hb => reps_zip hr b (isort_mem hb)
end TM

/-! TM, part D: subscripts, built-ins, methods by values. -/
namespace TM
open PySem PySem.Spec PyProof.Rows L2
section
variable {X : Cx} {T : List Addr} {W : Wish} {S : Sto} {io : Nat → Addr} {H : Hp}
theorem atI_rep {K : PySem.W.Frag} {n : Nat} {ps : List PV} {vs : List V} {k : Int} {p : PV} (h : Reps K n io H ps vs) (e : atI ps k = some p) : ∃ v, atI vs k = some v ∧ Rep K n io H p v := by
  unfold atI at e ⊢
  rw [h.length]
  cases ej : ixN ps.length k with
  | none => rw [ej] at e; cases e
  | some j =>
    rw [ej] at e
    obtain ⟨v, h1, h2⟩ := h.get e
    exact ⟨v, h1, h2⟩
theorem ix_ok : IxR X (LR2 X.K T W (fun p q S => ofO (atV p q S) S)) := by
  intro value slice pins s σ H x y v u Q I rx ry h hs
  obtain ⟨S, io, p, q, rel, hp, hq, post⟩ := h
  have post : Post X.K T W (Rep X.K) S io H Q (ofO (atV p q S) S) := post
  cases ea : atV p q S with
  | none => rw [ea] at post; exact post.elim
  | some r =>
  rw [ea] at post
  have fin : ∀ w, Rep X.K S.length io H r w → Q w H := fun w rw => Post.val (T := T) (W := W) (S := S) (io := io) rel post rw
  clear post
  unfold atV at ea
  split at ea
  · rename_i i k
    obtain ⟨_, rfl⟩ := hp
    cases hq
    cases e : seqOf S i with
    | none => rw [e] at ea; cases ea
    | some xs =>
      rw [e] at ea
      obtain ⟨vs, h1, h2⟩ := rel.sq e
      obtain ⟨w, h3, h4⟩ := atI_rep h2 ea
      exact ix_list value slice pins s σ H _ _ v u Q I rx ry ⟨_, vs, k, w, rfl, rfl, h1, h3, fin _ h4⟩ hs
  · rename_i xs k
    obtain ⟨a, vs, rfl, h1, h2⟩ := hp
    cases hq
    obtain ⟨w, h3, h4⟩ := atI_rep h2 ea
    exact ix_tup value slice pins s σ H _ _ v u Q I rx ry ⟨_, vs, k, w, rfl, rfl, h1, h3, fin _ h4⟩ hs
  · rename_i cs k
    cases hp; cases hq
    split at ea
    · rename_i hl
      cases e2 : atI cs k with
      | none => rw [e2] at ea; cases ea
      | some c =>
        rw [e2] at ea
        cases ea
        exact ix_str value slice pins s σ H _ _ v u Q I rx ry ⟨_, k, c, rfl, rfl, by rw [mkS_len, line_eq]; exact hl, e2, fin _ rfl⟩ hs
    · cases ea
  · cases ea
/-- slices by pure values -/
def LRs (K : PySem.W.Frag) (T : List Addr) (W : Wish) : V → Option Int → Option Int → Hp → VK → Prop := fun x lo hi H Q =>
  ∃ S io p, Rel K T S io H ∧ Rep K S.length io H p x ∧ Post K T W (Rep K) S io H Q (cutP p lo hi S)
theorem cutL_rep {K : PySem.W.Frag} {n : Nat} {ps : List PV} {vs : List V} {lo hi : Option Int} (h : Reps K n io H ps vs) : Reps K n io H (cutL ps lo hi) (cutV vs lo hi) := by
  unfold cutL cutV
  rw [h.length]
  exact (h.drop _).take _
theorem sl_ok : SlR X (LRs X.K T W) := by
  intro pins s σ H x v vl vu lo hi sl Q I rx hs pl pu h
  obtain ⟨S, io, p, rel, hp, post⟩ := h
  unfold cutP at post
  split at post
  · rename_i i
    obtain ⟨_, rfl⟩ := hp
    split at post
    · rename_i xs e
      obtain ⟨vs, h1, h2⟩ := rel.sq e
      exact sl_list pins s σ H _ v vl vu lo hi sl Q I rx hs pl pu ⟨_, vs, rfl, h1, Post.lst rel post (cutL_rep h2)⟩
    · exact post.elim
  · rename_i xs
    obtain ⟨a, vs, rfl, h1, h2⟩ := hp
    refine sl_tupA pins s σ H _ v vl vu lo hi sl Q I rx hs pl pu ⟨a, vs, rfl, h1, fun e => ?_, fun _ => Post.tup rel post (cutL_rep h2)⟩
    refine post.val rel ⟨a, vs, rfl, h1, ?_⟩
    have : cutL xs lo hi = xs := by
      unfold cutL
      rw [← h2.length, e.1, e.2]
      simp [h2.length]
    rw [this]; exact h2
  · rename_i cs
    cases hp
    split at post
    · rename_i hl
      refine sl_str pins s σ H _ v vl vu lo hi sl Q I rx hs pl pu ⟨_, rfl, by rw [mkS_len, line_eq]; exact hl, ?_⟩
      have : cutS (mkS cs) lo hi = mkS (cutL cs lo hi) := by
        unfold cutS cutL
        rw [mkS_len]
        rfl
      rw [this]
      exact post.val rel rfl
    · exact post.elim
  · exact post.elim

/-! ### truth -/
theorem truth_ok {K : PySem.W.Frag} {p : PV} {v : V} {k : Bool} (rel : Rel K T S io H) (hp : Rep K S.length io H p v) (e : truth S p = some k) : TruV K v H k := by
  unfold truth at e
  cases p with
  | non => cases hp; cases e; rfl
  | bl b => cases hp; cases e; rfl
  | int i => cases hp; cases e; rfl
  | str cs =>
    cases hp
    simp only at e
    split at e
    · rename_i hl
      cases e
      refine ⟨by rw [mkS_len, line_eq]; exact hl, ?_⟩
      rw [mkS_len]
      cases cs <;> simp
      omega
    · cases e
  | tup ps =>
    obtain ⟨a, vs, rfl, h1, h2⟩ := hp
    cases e
    refine .inr (.inl ⟨vs, h1, ?_⟩)
    have := h2.length
    cases ps <;> cases vs <;> simp_all
  | obj i =>
    obtain ⟨_, rfl⟩ := hp
    have go : ∀ xs, seqOf S i = some xs → k = !xs.isEmpty → TruV K (.ref (io i)) H k := fun xs e2 e3 => by
      obtain ⟨vs, h1, h2⟩ := rel.sq e2
      refine .inl ⟨vs, h1, ?_⟩
      rw [e3]
      have := h2.length
      cases xs <;> cases vs <;> simp_all
    simp only at e
    split at e
    · rename_i xs e1
      cases e
      exact go xs (by unfold seqOf; rw [e1]) rfl
    · rename_i xs e1
      cases e
      exact go xs (by unfold seqOf; rw [e1]) rfl
    · cases e

/-! ### isinstance -/
def tyN : Ty → String
  | .int => "int" | .bool => "bool" | .str => "str" | .tuple => "tuple" | .list => "list"
/-- the type of a value, by its pure one -/
theorem typ_ok {K : PySem.W.Frag} {p : PV} {v : V} {t : Ty} {b : Bool} (rel : Rel K T S io H) (hp : Rep K S.length io H p v) (e : isiV S p t = some b) : ∃ u, TyX K H v (.type u) ∧ ∀ K' : PySem.W.Frag, PySem.W.kitOne K' (.type u) (.type (tyN t)) = some b := by
  unfold isiV at e
  cases p with
  | non => cases hp; cases e; exact ⟨_, .base .non, fun K' => by cases t <;> rfl⟩
  | bl c => cases hp; cases e; exact ⟨_, .base (.bl c), fun K' => by cases t <;> rfl⟩
  | int i => cases hp; cases e; exact ⟨_, .base (.int i), fun K' => by cases t <;> rfl⟩
  | str cs => cases hp; cases e; exact ⟨_, .base (.str _), fun K' => by cases t <;> rfl⟩
  | tup ps =>
    obtain ⟨a, vs, rfl, h1, h2⟩ := hp
    cases e
    rcases h1 with (h1 | ⟨o, h1⟩) | ⟨o, its, n, h1, h3, _⟩
    · exact ⟨_, .base (.tup h1), fun K' => by cases t <;> rfl⟩
    · exact ⟨_, .fTuple h1, fun K' => by cases t <;> rfl⟩
    · exact ⟨_, .kTuple h1 h3, fun K' => by cases t <;> rfl⟩
  | obj i =>
    obtain ⟨_, rfl⟩ := hp
    simp only at e
    split at e
    · rename_i xs e1
      cases e
      obtain ⟨vs, h1, h2⟩ := rel.lst e1
      exact ⟨_, .base (.lst h1), fun K' => by cases t <;> rfl⟩
    · cases e
    · cases e
end
end TM

/-! TM, part E: which expression of the text is which of the intermediate form. -/
namespace TM
open PySem PySem.Spec PyProof.Rows L2

/-- what a global name is -/
inductive GV where
  | blt | fn (f : Nat) | cst (g : Nat)
  deriving DecidableEq, Repr
abbrev GT := List (Str × GV)
def plainE : Expr → Bool
  | .Starred .. => false
  | .Slice .. => false
  | .Set .. => false
  | _ => true
def nsup : Expr → Bool
  | .Call (.Name _ _) [] [] _ => false
  | _ => true
def tstE : Expr → Bool
  | .UnaryOp .Not _ _ => false
  | .BoolOp .. => false
  | .IfExp .. => false
  | .Compare .. => false
  | _ => true
def noComp : Expr → Bool
  | .ListComp .. => false
  | .SetComp .. => false
  | .DictComp .. => false
  | _ => true
def opB (a b : Operator) : Bool := decide (a = b)
def visB (sc : Scope) (x : Str) : Bool := match sc.names.lookup x with
  | some .local => true
  | some .cell => true
  | some .free => true
  | _ => false
def locB (sc : Scope) (x : Str) : Bool := match sc.names.lookup x with
  | some .local => true
  | some .cell => true
  | _ => false
def glbB (sc : Scope) (x : Str) : Bool := match sc.names.lookup x with
  | some .globalImplicit => true
  | _ => false
def nameB (x : Str) : Bool := !decide (x = "__debug__") && !decide (x = "__classdict__") && !decide (x = "__name__")
def slotB (N : List Str) (x : Str) (i : Nat) : Bool := match N[i]? with
  | some y => decide (y = x)
  | none => false
def cstB : Const → PV → Bool
  | .none, .non => true
  | .bool a, .bl b => a == b
  | .int i, .int j => i == j
  | .str s, .str cs => decide (s = mkS cs)
  | _, _ => false
def gvB (G : GT) (x : Str) (v : GV) : Bool := match G.lookup x with
  | some u => decide (u = v)
  | none => false
def biS : BI → Str
  | .len => "len" | .int => "int" | .abs => "abs" | .min2 => "min" | .max2 => "max" | .tuple => "tuple" | .list => "list" | .sorted => "sorted" | .sum => "sum"
def meS : ME → Str
  | .append => "append" | .pop => "pop" | .index => "index"
def tyS : Ty → Str
  | .int => "int" | .bool => "bool" | .str => "str" | .tuple => "tuple" | .list => "list"
def isTyB (sc : Scope) (G : GT) : Expr → Ty → Bool
  | .Name x _, t => decide (x = tyS t) && glbB sc x && gvB G x .blt
  | _, _ => false
def isTysB (sc : Scope) (G : GT) : List Expr → List Ty → Bool
  | [], [] => true
  | a :: as, t :: ts => isTyB sc G a t && isTysB sc G as ts
  | _, _ => false
mutual
def ckE (N : List Str) (sc : Scope) (G : GT) : E → Expr → Bool
  | .never, _ => true
  | .var i, a => match a with
    | .Name x _ => slotB N x i && visB sc x && nameB x
    | _ => false
  | .cst p, a => match a with
    | .Constant c _ _ => cstB c p
    | _ => false
  | .glob g, a => match a with
    | .Name x _ => glbB sc x && gvB G x (.cst g) && nameB x
    | _ => false
  | .bin o p q, a => match a with
    | .BinOp x op y _ => opB op (toOp o) && ckE N sc G p x && ckE N sc G q y
    | _ => false
  | .neg p, a => match a with
    | .UnaryOp .USub x _ => ckE N sc G p x
    | _ => false
  | .idx p q, a => match a with
    | .Subscript x y _ => plainE y && ckE N sc G p x && ckE N sc G q y
    | _ => false
  | .slc p l h, a => match a with
    | .Subscript x (.Slice lo hi none _) _ => ckE N sc G p x && ckO N sc G l lo && ckO N sc G h hi
    | _ => false
  | .cmp o p q, a => match a with
    | .Compare x [op] [y] _ => decide (op = toCop o) && plainE y && ckE N sc G p x && ckE N sc G q y
    | _ => false
  | .chain o o2 p q r, a => match a with
    | .Compare x [op, op2] [y, z] _ => decide (op = toCop o) && decide (op2 = toCop o2) && plainE z && ckE N sc G p x && ckE N sc G q y && ckE N sc G r z
    | _ => false
  | .andv p q, a => match a with
    | .BoolOp .And [x, y] _ => ckE N sc G p x && ckE N sc G q y
    | .BoolOp .And (x :: y :: z :: r) pos => ckE N sc G p x && ckE N sc G q (.BoolOp .And (y :: z :: r) pos)
    | _ => false
  | .orv p q, a => match a with
    | .BoolOp .Or [x, y] _ => ckE N sc G p x && ckE N sc G q y
    | .BoolOp .Or (x :: y :: z :: r) pos => ckE N sc G p x && ckE N sc G q (.BoolOp .Or (y :: z :: r) pos)
    | _ => false
  | .notv p, a => match a with
    | .UnaryOp .Not x _ => ckE N sc G p x
    | _ => false
  | .ife t p q, a => match a with
    | .IfExp c x y _ => ckT N sc G t c && ckE N sc G p x && ckE N sc G q y
    | _ => false
  | .call f ps, a => match a with
    | .Call (.Name x _) xs [] _ => glbB sc x && gvB G x (.fn f) && nameB x && ckEs N sc G ps xs
    | _ => false
  | .bi b ps, a => match a with
    | .Call (.Name x _) (y :: ys) [] _ => glbB sc x && gvB G x .blt && decide (x = biS b) && ckEs N sc G ps (y :: ys)
    | _ => false
  | .isi p ts, a => match a with
    | .Call (.Name x _) [y, z] [] _ => glbB sc x && gvB G x .blt && decide (x = "isinstance") && plainE y && ckE N sc G p y && (match z with
      | .Tuple zs _ _ => isTysB sc G zs ts && decide (zs.length ≤ 100) && !ts.isEmpty
      | z => match ts with
        | [t] => isTyB sc G z t
        | _ => false)
    | _ => false
  | .me m o ps, a => match a with
    | .Call (.Attribute x name apos) xs [] cpos => decide (apos.endLine = cpos.line) && nsup x && decide (name = meS m) && decide (xs.length < 20) && ckE N sc G o x && ckEs N sc G ps xs
    | _ => false
  | .lst ps, a => match a with
    | .List xs _ => ckEs N sc G ps xs
    | _ => false
  | .tup ps, a => match a with
    | .Tuple xs _ _ => ckEs N sc G ps xs
    | _ => false
def ckEs (N : List Str) (sc : Scope) (G : GT) : List E → List Expr → Bool
  | [], xs => match xs with
    | [] => true
    | _ => false
  | p :: ps, xs => match xs with
    | x :: xs => plainE x && ckE N sc G p x && ckEs N sc G ps xs
    | _ => false
def ckO (N : List Str) (sc : Scope) (G : GT) : Option E → Option Expr → Bool
  | none, a => match a with
    | none => true
    | _ => false
  | some p, a => match a with
    | some x => ckE N sc G p x
    | _ => false
def ckT (N : List Str) (sc : Scope) (G : GT) : T → Expr → Bool
  | .e e, a => (tstE a && ckE N sc G e a) || (match e with
    | .cmp .. => ckE N sc G e a
    | .chain .. => ckE N sc G e a
    | _ => false)
  | .and p q, a => match a with
    | .BoolOp .And [x, y] _ => ckT N sc G p x && ckT N sc G q y
    | .BoolOp .And (x :: y :: z :: r) pos => ckT N sc G p x && ckT N sc G q (.BoolOp .And (y :: z :: r) pos)
    | _ => false
  | .or p q, a => match a with
    | .BoolOp .Or [x, y] _ => ckT N sc G p x && ckT N sc G q y
    | .BoolOp .Or (x :: y :: z :: r) pos => ckT N sc G p x && ckT N sc G q (.BoolOp .Or (y :: z :: r) pos)
    | _ => false
  | .not t, a => match a with
    | .UnaryOp .Not x _ => ckT N sc G t x
    | _ => false
end

/-! ### facts of the syntax -/
theorem star_cons {e : Expr} {es : List Expr} {env : PySem.Env} (h : plainE e = true) : starEach (e :: es) env = (false, eval e env) :: starEach es env := by
  cases e <;> first | rfl | cases h
def plainEs (es : List Expr) : Bool := es.all plainE
theorem star_any {pos : Pos} {env : PySem.Env} : ∀ {es : List Expr}, plainEs es = true → (backTo pos (starEach es env)).any (·.1) = false
  | [], _ => rfl
  | e :: es, h => by
    simp only [plainEs, List.all_cons, Bool.and_eq_true] at h
    rw [star_cons h.1]
    show (false || (backTo pos (starEach es env)).any (·.1)) = false
    rw [star_any (es := es) h.2]; rfl
theorem star_few {pos : Pos} {env : PySem.Env} : ∀ {es : List Expr}, plainEs es = true → (backTo pos (starEach es env)).all (fun x => !x.1) = true
  | [], _ => rfl
  | e :: es, h => by
    simp only [plainEs, List.all_cons, Bool.and_eq_true] at h
    rw [star_cons h.1]
    show (true && (backTo pos (starEach es env)).all (fun x => !x.1)) = true
    rw [star_few (es := es) h.2]; rfl
theorem plain_ix {b : Expr} (h : plainE b = true) : PlainIx b := by
  cases b <;> first | exact fun _ _ => rfl | cases h
theorem plain_mark {op : CmpOp} {b : Expr} (h : plainE b = true) : behindInMarks op b = false := by
  cases b <;> first | rfl | cases h
theorem nsup_base {o : Expr} {x : Str} {env : PySem.Env} {wh : Sem Value} (h : nsup o = true) : attributeBase o x env wh = wh := by
  unfold attributeBase
  split
  · cases h
  · rfl
theorem tst_truth {e : Expr} {env : PySem.Env} (h : tstE e = true) : ∀ whole, isTrue e env whole = (do let v ← whole; standAt e.pos; holding [v] (truthy v)) := by
  intro whole
  cases e with
  | UnaryOp op x pos => cases op <;> first | rfl | cases h
  | _ => first | rfl | cases h
theorem noComp_swap {e : Expr} {t : Option Expr} {l : Nat} {env : PySem.Env} (h : noComp e = true) : swapsWith e t l env = pure false := by
  cases e <;> first | rfl | cases h
theorem ckEs_plain {N : List Str} {sc : Scope} {G : GT} : ∀ {ps : List E} {xs : List Expr}, ckEs N sc G ps xs = true → plainEs xs = true
  | [], [], _ => rfl
  | [], _ :: _, h => by simp [ckEs] at h
  | _ :: _, [], h => by simp [ckEs] at h
  | p :: ps, x :: xs, h => by
    simp only [ckEs, Bool.and_eq_true] at h
    simp only [plainEs, List.all_cons, Bool.and_eq_true]
    exact ⟨h.1.1, ckEs_plain h.2⟩
end TM

/-! TM, part F: expressions are sound. -/
namespace TM
open PySem PySem.Spec PyProof.Rows L2

abbrev PXT := PX → Value → Option Addr → Hp → Prop
/-- a wish of exceptions as the hand layer says it -/
def EW (K : PySem.W.Frag) (T : List Addr) (R : PXT) (W : Wish) : XK := fun cls d H => ∃ x S io, Rel K T S io H ∧ R x cls d H ∧ W x S io H
def spOf (K : PySem.W.Frag) (T : List Addr) (R : PXT) (np : Nat) (c : List PV → Sto → Res PV) : Sp := fun vs H Q E =>
  vs.length = np ∧ ∃ S io ps, Rel K T S io H ∧ Reps K S.length io H ps vs ∧ Post K T (fun x S' io' H' => ∀ cls d, R x cls d H' → E cls d H') (Rep K) S io H Q (c ps S)
/-- the program's names: built-ins, defs at level k, constants -/
structure PG (P : Program) (w : World) (K : PySem.W.Frag) (mg : Str → Option Value) (base : Heap) (T : List Addr) (R : PXT) (k : Nat) (cf : Nat → List PV → Sto → Res PV) (gl : Nat → PV) (G : GT) : Prop where
  blt : ∀ x, gvB G x .blt = true → mg x = none
  fn : ∀ x f, gvB G x (.fn f) = true → ∃ fa fd ps, mg x = some (.ref fa) ∧ PySem.W.keepIn K (.ref fa) = true ∧ Binds K fd ps [] ∧ (∀ as S, cf f as S ≠ .bad → as.length = ps.length) ∧
    FnOk P w K mg base (L2.CX P w) k fa fd ps (spOf K T R ps.length (cf f))
  cst : ∀ x g, gvB G x (.cst g) = true → ∃ u v, mg x = some u ∧ RelV v u ∧ ∀ n io H, Rep K n io H (gl g) v
/-- what is known of a context -/
structure Cok (X : Cx) (k : Nat) (T : List Addr) (R : PXT) (W : Wish) (N : List Str) (sc : Scope) : Prop where
  calm : X.calm = true
  nd : N.Nodup
  hN : X.N = N
  hsc : X.env.scope = sc
  room : Room k X.A
  pass : Passes (L2.CX X.prog X.w) X (EW X.K T R W)
  own : PassesOwn (model X.prog X.w) X.A X.env X.xe
  fnl : ∀ x, X.fn x = true ∨ sc.names.lookup x = some .local
theorem PE.imp {X : Cx} {a : Expr} {t t' : TE} (h : PE X a t) (i : ∀ s H Q, t' s H Q → t s H Q) : PE X a t' := ⟨fun pins s σ H Q I q => h.run pins s σ H Q I (i _ _ _ q)⟩
theorem PT.imp {X : Cx} {a : Expr} {t t' : TT} (h : PT X a t) (i : ∀ s H Q, t' s H Q → t s H Q) : PT X a t' := ⟨fun pins s σ H Q I q => h.run pins s σ H Q I (i _ _ _ q)⟩
theorem PW.imp {X : Cx} {a : Expr} {t t' : TT} (h : PW X a t) (i : ∀ s H Q, t' s H Q → t s H Q) : PW X a t' := ⟨fun wh pins s σ H Q I q => h.run wh pins s σ H Q I (i _ _ _ q)⟩
theorem Post.wish {a b : Type} {K : PySem.W.Frag} {T : List Addr} {W W' : Wish} {R : Nat → (Nat → Addr) → Hp → a → b → Prop} {S : Sto} {io : Nat → Addr} {H : Hp} {Q : b → Hp → Prop} {r : Res a}
    (h : Post K T W R S io H Q r) (i : ∀ x S io H, Rel K T S io H → W x S io H → W' x S io H) : Post K T W' R S io H Q r := by
  cases r with
  | ok p S' => exact h
  | exc x S' => exact fun io' H' e l rel => i _ _ _ _ rel (h io' H' e l rel)
  | bad => exact h

section
variable {X : Cx} {k : Nat} {T : List Addr} {R : PXT} {W : Wish} {N : List Str} {sc : Scope} {cf : Nat → List PV → Sto → Res PV} {gl : Nat → PV} {G : GT}
/-- a reading lifted -/
abbrev LE (X : Cx) (T : List Addr) (W : Wish) (m : Env → Sto → Res PV) : TE := lift X.K T W (Rep X.K) m
abbrev LA (X : Cx) (T : List Addr) (W : Wish) (m : Env → Sto → Res (List PV)) : TA := lift X.K T W (Reps X.K) m
abbrev LT (X : Cx) (T : List Addr) (W : Wish) (m : Env → Sto → Res Bool) : TT := lift X.K T W (fun _ _ _ a b => b = a) m
abbrev LO (X : Cx) (T : List Addr) (W : Wish) (m : Env → Sto → Res (Option Int)) : TO := lift X.K T W (fun _ _ _ a b => b = a) m
theorem vis_of {x : Str} (h : visB sc x = true) : Vis sc x := by
  unfold visB at h
  unfold Vis
  split at h
  · exact .inl (by assumption)
  · exact .inr (.inl (by assumption))
  · exact .inr (.inr (by assumption))
  · cases h
theorem loc_of {x : Str} (h : locB sc x = true) : L2.Loc sc x := by
  unfold locB at h
  unfold L2.Loc
  split at h
  · exact .inl (by assumption)
  · exact .inr (by assumption)
  · cases h
theorem glb_of {x : Str} (C : Cok X k T R W N sc) (h : glbB sc x = true) : Gl X x := by
  unfold glbB at h
  unfold Gl Env.kindOf
  rw [C.hsc]
  split at h
  · assumption
  · cases h
theorem slot_of {x : Str} {i : Nat} (C : Cok X k T R W N sc) (h : slotB N x i = true) : X.N[i]? = some x := by
  unfold slotB at h
  rw [C.hN]
  split at h
  · rename_i y e
    rw [e, of_decide_eq_true h]
  · cases h
theorem name_of {x : Str} (h : nameB x = true) : (x == ("__debug__" : Str)) = false ∧ (x == ("__classdict__" : Str)) = false ∧ x ≠ ("__name__" : Str) := by
  unfold nameB at h
  simp only [Bool.and_eq_true, Bool.not_eq_true', decide_eq_false_iff_not] at h
  exact ⟨beq_eq_false_iff_ne.mpr h.1.1, beq_eq_false_iff_ne.mpr h.1.2, h.2⟩
theorem cst_rep {K : PySem.W.Frag} {n : Nat} {io : Nat → Addr} {H : Hp} {c : Const} {p : PV} (h : cstB c p = true) : ∃ v, Rep K n io H p v ∧ ∀ {j pos}, PE X (.Constant c j pos) (tC v) := by
  cases c <;> cases p <;> simp only [cstB, reduceCtorEq, Bool.false_eq_true] at h
  · exact ⟨.non, rfl, pe_non⟩
  · simp at h; subst h; exact ⟨.bl _, rfl, pe_bl⟩
  · simp at h; subst h; exact ⟨.int _, rfl, pe_int⟩
  · have e := of_decide_eq_true h
    subst e
    exact ⟨.str _, rfl, pe_str⟩
/-- a call by pure values -/
def LRb (K : PySem.W.Frag) (T : List Addr) (W : Wish) (f : List PV → Sto → Res PV) : List V → Hp → VK → Prop := fun xs H Q =>
  ∃ S io ps, Rel K T S io H ∧ Reps K S.length io H ps xs ∧ Post K T W (Rep K) S io H Q (f ps S)
def biF : BI → Value
  | .len => .builtin "len" | .int => .type "int" | .abs => .builtin "abs" | .min2 => .builtin "min" | .max2 => .builtin "max" | .tuple => .type "tuple" | .list => .type "list" | .sorted => .builtin "sorted" | .sum => .builtin "sum"
theorem rep1 {K : PySem.W.Frag} {n : Nat} {io : Nat → Addr} {H : Hp} {p : PV} {xs : List V} (h : Reps K n io H [p] xs) : ∃ x, xs = [x] ∧ Rep K n io H p x := by
  obtain ⟨x, r, rfl, h1, h2⟩ := h
  exact ⟨x, by rw [show r = [] from h2], h1⟩
theorem rep2 {K : PySem.W.Frag} {n : Nat} {io : Nat → Addr} {H : Hp} {p q : PV} {xs : List V} (h : Reps K n io H [p, q] xs) : ∃ x y, xs = [x, y] ∧ Rep K n io H p x ∧ Rep K n io H q y := by
  obtain ⟨x, r, rfl, h1, h2⟩ := h
  obtain ⟨y, rfl, h3⟩ := rep1 h2
  exact ⟨x, y, rfl, h1, h3⟩
theorem len_ok {S : Sto} {io : Nat → Addr} {H : Hp} {K : PySem.W.Frag} {p : PV} {x : V} {n : Int} (rel : Rel K T S io H) (hp : Rep K S.length io H p x) (h : lenV S p = some n) : ∃ m, LenV K x H m ∧ n = (m : Int) := by
  unfold lenV at h
  split at h
  · rename_i cs
    cases hp
    split at h
    · rename_i hl
      cases h
      exact ⟨cs.length, ⟨by rw [mkS_len, line_eq]; exact hl, (mkS_len cs).symm⟩, rfl⟩
    · cases h
  · rename_i xs
    obtain ⟨a, vs, rfl, h1, h2⟩ := hp
    cases h
    exact ⟨xs.length, .inr ⟨vs, h1, h2.length.symm⟩, rfl⟩
  · rename_i i
    obtain ⟨_, rfl⟩ := hp
    cases e : seqOf S i with
    | none => rw [e] at h; cases h
    | some xs =>
      rw [e] at h
      cases h
      obtain ⟨vs, h1, h2⟩ := rel.sq e
      exact ⟨xs.length, .inl ⟨vs, h1, h2.length.symm⟩, rfl⟩
  · cases h
theorem biV_ok (hu : X.A.units + 64 < cLine) (hc : X.calm = true) (b : BI) : CallR X (biF b) (LRb X.K T W (biV b)) := by
  intro pins s σ H xs us Q I r h
  obtain ⟨S, io, ps, rel, rp, post⟩ := h
  unfold biV at post
  split at post
  · rename_i p
    obtain ⟨x, rfl, hp⟩ := rep1 rp
    cases e : lenV S p with
    | none => rw [e] at post; exact post.elim
    | some n =>
      rw [e] at post
      obtain ⟨m, h1, rfl⟩ := len_ok rel hp e
      exact call_len pins s σ H _ us Q I r ⟨x, m, rfl, h1, post.val rel rfl⟩
  · obtain ⟨x, rfl, hp⟩ := rep1 rp
    cases hp
    exact call_int1 pins s σ H _ us Q I r (.inl ⟨_, rfl, post.val rel rfl⟩)
  · obtain ⟨x, rfl, hp⟩ := rep1 rp
    cases hp
    exact call_int1 pins s σ H _ us Q I r (.inr ⟨_, rfl, post.val rel rfl⟩)
  · obtain ⟨x, rfl, hp⟩ := rep1 rp
    cases hp
    exact call_abs pins s σ H _ us Q I r ⟨_, rfl, post.val rel rfl⟩
  · obtain ⟨x, y, rfl, hp, hq⟩ := rep2 rp
    cases hp; cases hq
    exact call_min2 hc pins s σ H _ us Q I r ⟨_, _, rfl, post.val rel rfl⟩
  · obtain ⟨x, y, rfl, hp, hq⟩ := rep2 rp
    cases hp; cases hq
    exact call_max2 hc pins s σ H _ us Q I r ⟨_, _, rfl, post.val rel rfl⟩
  · rename_i i
    obtain ⟨x, rfl, _, rfl⟩ := rep1 rp
    split at post
    · rename_i xs e
      obtain ⟨vs, h1, h2⟩ := rel.lst e
      exact call_tuple_of pins s σ H _ us Q I r ⟨_, vs, rfl, .inl ⟨.inl (.inl h1), Post.tup rel post h2⟩⟩
    · exact post.elim
  · rename_i xs
    obtain ⟨x, rfl, hp⟩ := rep1 rp
    obtain ⟨a, vs, rfl, h1, h2⟩ := hp
    exact call_tuple_of pins s σ H _ us Q I r ⟨_, vs, rfl, .inr ⟨h1, post.val rel ⟨a, vs, rfl, h1, h2⟩⟩⟩
  · rename_i i
    obtain ⟨x, rfl, _, rfl⟩ := rep1 rp
    split at post
    · rename_i xs e
      obtain ⟨vs, h1, h2⟩ := rel.sq e
      exact call_list_of pins s σ H _ us Q I r ⟨_, vs, rfl, .inl h1, Post.lst rel post h2⟩
    · exact post.elim
  · rename_i xs
    obtain ⟨x, rfl, a, vs, rfl, h1, h2⟩ := rep1 rp
    exact call_list_of pins s σ H _ us Q I r ⟨_, vs, rfl, .inr h1, Post.lst rel post h2⟩
  · rename_i i
    obtain ⟨x, rfl, _, rfl⟩ := rep1 rp
    split at post
    · rename_i xs e
      split at post
      · rename_i ys es
        obtain ⟨vs, h1, h2⟩ := rel.sq e
        unfold sortV at es
        split at es
        · rename_i hs
          cases es
          have sk := sort_ok hu h2 hs
          obtain ⟨its, rv, pl, _⟩ := I.list h1
          obtain ⟨u, rfl, rx⟩ := vals1 r
          cases rx
          refine PySem.W.sorted_data (R := fun u (b : PV × V) => RelV b.2 u) (bs := xs.zip vs) (enc := fun b => encP b.1) pl.isList (vals_zip h2.length.symm rv) (zip_reads I (fun b hb => ⟨reps_zip h2 b hb, (sortB_ok hs).1 _ (zip_fst_mem hb)⟩) (vals_zip h2.length.symm rv)) sk.al sk.sb sk.ln sk.dp fun out ho eo => ?_
          obtain ⟨ep, he'⟩ := PyProof.Rows.sortedAll_at s.heap its out.toArray
          exact ⟨.ref _, upd H (s.heap.objs.size + 1) (.lst _), I.laid (t' := s.toks) (fun _ _ => PyProof.Rows.sortedAll_old) (Nat.le_succ _) ⟨by rw [List.length_map]; exact sk.ol, out, ep, zip_vals eo, he'⟩, rfl, Post.lst rel post sk.out _ (I.hok.fresh (Nat.le_succ _))⟩
        · cases es
      · exact post.elim
    · exact post.elim
  · exact post.elim
/-- a call of a built-in by its name -/
theorem pe_bi {x : Str} {f : Value} {p pos : Pos} {e : Expr} {es : List Expr} {t : TA} {r : List V → Hp → VK → Prop} (hc : CallR X f r) (hg : Gl X x) (hm : X.mg x = none) (hv : bootBuiltins x = some f) (hf : (∃ id, f = .builtin id) ∨ ∃ id, f = .type id)
    (ha : PA X (e :: es) t) (hn : x ≠ ("__name__" : Str)) (hdb : (x == ("__debug__" : Str)) = false) (hp : plainEs (e :: es) = true) : PE X (.Call (.Name x p) (e :: es) [] pos) (tCB r t) := by
  simp only [plainEs, List.all_cons, Bool.and_eq_true] at hp
  rcases hf with ⟨id, rfl⟩ | ⟨id, rfl⟩
  · exact pe_callB hc hg hm hv ha hn hdb (star_cons hp.1) (star_any hp.2)
  · exact pe_callTy hc hg hm hv ha hn hdb (star_cons hp.1) (star_any hp.2)
theorem bi_boot (b : BI) : bootBuiltins (biS b) = some (biF b) := by
  cases b <;> first | exact PySem.boot_len | exact boot_int | exact PyProof.Rows.boot_int | exact boot_abs | exact PyProof.Rows.boot_tuple | exact PyProof.Rows.boot_list | exact PyProof.Rows.boot_sorted | exact PyProof.Rows.boot_max | exact PyProof.Rows.boot_min | exact PyProof.Rows.boot_sum | exact PyProof.Rows.boot_abs | exact boot_tuple | exact boot_list | decide +kernel
theorem bi_kind (b : BI) : (∃ id, biF b = .builtin id) ∨ ∃ id, biF b = .type id := by
  cases b <;> first | exact .inl ⟨_, rfl⟩ | exact .inr ⟨_, rfl⟩
theorem bi_name (b : BI) : biS b ≠ ("__name__" : Str) ∧ (biS b == ("__debug__" : Str)) = false := by
  cases b <;> exact ⟨by decide +kernel, by decide +kernel⟩
end
end TM

/-! TM, part G: expressions are sound, the theorem. -/
namespace TM
open PySem PySem.Spec PyProof.Rows L2
section
variable {X : Cx} {k : Nat} {T : List Addr} {R : PXT} {W : Wish} {N : List Str} {sc : Scope} {cf : Nat → List PV → Sto → Res PV} {gl : Nat → PV} {G : GT}
/-- o.m(..), m a built-in type's method, the type read off the value -/
theorem pe_me0 {o : Expr} {to : TE} {name : Str} {apos cpos : Pos} (ho : PE X o to) (hb : nsup o = true) (hline : apos.endLine = cpos.line) :
    PE X (.Call (.Attribute o name apos) [] [] cpos) (fun σ H Q => to σ H fun x H1 => ∃ T id r, PlainAttrs T ∧ Slot T name id ∧ typeOf (.builtin id) = pure (.type "method_descriptor") ∧ MtR X id r ∧ tyV X.K T x H1 ∧ r x [] H1 Q) := by
  refine ⟨fun pins s σ H Q I h => ?_⟩
  refine wpAny_Call_method0_late (nsup_base hb) (by simp [hline]) (thn (ho.run pins s σ H _ I h) fun v s1 ⟨x, H1, I1, r1, T, id, r, pa, slot, hty, hm, ty, q1⟩ => ?_)
  obtain ⟨h1, h2⟩ := tyV_is I1 r1 ty
  exact ⟨T, id, pa, slot, hty, h1, h2, Calls.callWith_builtin rfl (PySem.evalArgs_none (hm pins s1 σ H1 x [] v [] Q I1 r1 .nil q1))⟩
theorem pe_me {o e : Expr} {es : List Expr} {to : TE} {t : TA} {name : Str} {apos cpos : Pos}
    (ho : PE X o to) (ha : PA X (e :: es) t) (hb : nsup o = true) (hp : plainEs (e :: es) = true) (hl : (e :: es).length < 20) (hline : apos.endLine = cpos.line) :
    PE X (.Call (.Attribute o name apos) (e :: es) [] cpos) (fun σ H Q => to σ H fun x H1 => ∃ T id r, PlainAttrs T ∧ Slot T name id ∧ typeOf (.builtin id) = pure (.type "method_descriptor") ∧ MtR X id r ∧ tyV X.K T x H1 ∧ t σ H1 fun xs H2 => r x xs H2 Q) := by
  refine ⟨fun pins s σ H Q I h => ?_⟩
  have hfew : ((backTo cpos (starEach (e :: es) X.env)).all (fun x => !x.1) && (backToKw cpos (keywordEach [] X.env)).all (fun x => x.1.isSome)
      && decide ((e :: es).length + ([] : List Keyword).length + (if ([] : List Keyword).isEmpty then 0 else 1) < 30)) = true := by
    rw [star_few hp]
    have : (e :: es).length + ([] : List Keyword).length + (if ([] : List Keyword).isEmpty then 0 else 1) < 30 := by
      show (e :: es).length + 0 + 0 < 30
      omega
    rw [decide_eq_true this]
    rfl
  refine wpAny_Call_method_late (nsup_base hb) hfew (by simp [hline]) rfl (thn (ho.run pins s σ H _ I h) fun v s1 ⟨x, H1, I1, r1, T, id, r, pa, slot, hty, hm, ty, q1⟩ => ?_)
  obtain ⟨h1, h2⟩ := tyV_is I1 r1 ty
  refine ⟨T, id, pa, slot, hty, h1, h2, ?_⟩
  have hA := ha.run cpos pins s1 σ H1 _ I1 q1
  refine Calls.callWith_builtin (star_any hp) ?_
  simp only [plainEs, List.all_cons, Bool.and_eq_true] at hp
  rw [star_cons hp.1] at hA ⊢
  refine Calls.evalArgs_plain ?_
  exact thn hA fun us s2 ⟨vs, H2, I2, r2, q2⟩ => hm pins s2 σ H2 x vs v us Q I2 r1 r2 q2
theorem Lift2 {a b c a' b' c' : Type} {K : PySem.W.Frag} {R1 : Nat → (Nat → Addr) → Hp → a → a' → Prop} {R2 : Nat → (Nat → Addr) → Hp → b → b' → Prop} {R3 : Nat → (Nat → Addr) → Hp → c → c' → Prop}
    {m1 : Env → Sto → Res a} {m2 : Env → Sto → Res b} {f : a → b → Sto → Res c} {σ : L2.St} {H : Hp} {Q : c' → Hp → Prop} {N : a' → b' → Hp → Prop}
    (mono : ∀ {n n' io io' H H' p v}, Ex n io H io' H' → n ≤ n' → R1 n io H p v → R1 n' io' H' p v)
    (h : lift K T W R3 (fun env S => (m1 env S).bind fun p S => (m2 env S).bind fun q S => f p q S) σ H Q)
    (k : ∀ S io H p q v w, Rel K T S io H → R1 S.length io H p v → R2 S.length io H q w → Post K T W R3 S io H Q (f p q S) → N v w H) :
    lift K T W R1 m1 σ H fun v H1 => lift K T W R2 m2 σ H1 fun w H2 => N v w H2 := by
  obtain ⟨S, io, env, rel, er, post⟩ := h
  refine ⟨S, io, env, rel, er, post.bind fun p S1 io1 H1 v e1 l1 rel1 rp post1 => ?_⟩
  refine ⟨S1, io1, env, rel1, er.mono e1 l1, post1.bind fun q S2 io2 H2 w e2 l2 rel2 rq post2 => ?_⟩
  exact k S2 io2 H2 p q v w rel2 (mono e2 l2 rp) rq post2
theorem Lift1 {a c a' c' : Type} {K : PySem.W.Frag} {R1 : Nat → (Nat → Addr) → Hp → a → a' → Prop} {R3 : Nat → (Nat → Addr) → Hp → c → c' → Prop}
    {m1 : Env → Sto → Res a} {f : a → Sto → Res c} {σ : L2.St} {H : Hp} {Q : c' → Hp → Prop} {N : a' → Hp → Prop}
    (h : lift K T W R3 (fun env S => (m1 env S).bind fun p S => f p S) σ H Q)
    (k : ∀ S io H p v, Rel K T S io H → R1 S.length io H p v → Post K T W R3 S io H Q (f p S) → N v H) :
    lift K T W R1 m1 σ H N := by
  obtain ⟨S, io, env, rel, er, post⟩ := h
  exact ⟨S, io, env, rel, er, post.bind fun p S1 io1 H1 v e1 l1 rel1 rp post1 => k S1 io1 H1 p v rel1 rp post1⟩
theorem rmono {K : PySem.W.Frag} {n n' : Nat} {io io' : Nat → Addr} {H H' : Hp} {p : PV} {v : V} (e : Ex n io H io' H') (l : n ≤ n') (h : Rep K n io H p v) : Rep K n' io' H' p v := h.mono e l

theorem op_of {o : Op2} {op : Operator} (h : opB op (toOp o) = true) : op = toOp o := of_decide_eq_true h
/-- a method by pure values -/
def LRm (K : PySem.W.Frag) (T : List Addr) (W : Wish) (m : ME) (t : MTy) : V → List V → Hp → VK → Prop := fun x xs H Q =>
  ∃ S io p ps, Rel K T S io H ∧ Rep K S.length io H p x ∧ Reps K S.length io H ps xs ∧ Post K T W (Rep K) S io H Q (meV m t p ps S)
theorem rep0 {K : PySem.W.Frag} {n : Nat} {io : Nat → Addr} {H : Hp} {xs : List V} (h : Reps K n io H [] xs) : xs = [] := h
theorem me_append : MtR X "list.append" (LRm X.K T W .append .lst) := by
  intro pins s σ H x xs v us Q I rx r h
  obtain ⟨S, io, p, ps, rel, hp, rp, post⟩ := h
  have post : Post X.K T W (Rep X.K) S io H Q (meAppend p ps S) := post
  unfold meAppend at post
  split at post
  · rename_i i p
    obtain ⟨_, rfl⟩ := hp
    obtain ⟨y, rfl, hy⟩ := rep1 rp
    split at post
    · rename_i zs e
      split at post
      · rename_i hl
        obtain ⟨vs, h1, h2⟩ := rel.lst e
        refine mt_append pins s σ H _ _ v us Q I rx r ⟨_, vs, y, rfl, rfl, h1, by rw [h2.length, line_eq]; exact hl, ?_⟩
        exact Post.putL rel e post (h2.append (.cons hy .nil)) rfl
      · exact post.elim
    · exact post.elim
  · exact post.elim
theorem me_pop : MtR X "list.pop" (LRm X.K T W .pop .lst) := by
  intro pins s σ H x xs v us Q I rx r h
  obtain ⟨S, io, p, ps, rel, hp, rp, post⟩ := h
  have post : Post X.K T W (Rep X.K) S io H Q (mePop p ps S) := post
  unfold mePop at post
  split at post
  · rename_i i
    obtain ⟨_, rfl⟩ := hp
    have := rep0 rp
    subst this
    split at post
    · rename_i zs e
      split at post
      · rename_i y ey
        obtain ⟨vs, h1, h2⟩ := rel.lst e
        obtain ⟨w, h3, h4⟩ := h2.get ey
        refine mt_pop pins s σ H _ _ v us Q I rx r ⟨_, vs, w, rfl, rfl, h1, by rw [h2.length]; exact h3, ?_⟩
        exact Post.putL rel e post h2.dropLast h4
      · exact post.elim
    · exact post.elim
  · exact post.elim
theorem me_ok {m : ME} {t : MTy} (h : meOk m t = true) :
    ∃ T' id, PlainAttrs T' ∧ Slot T' (meS m) id ∧ typeOf (.builtin id) = pure (.type "method_descriptor") ∧ MtR X id (LRm X.K T W m t) ∧
      ∀ S io H p x, Rel X.K T S io H → Rep X.K S.length io H p x → mty S p = some t → tyV X.K T' x H := by
  have lst : ∀ S io H p x, Rel X.K T S io H → Rep X.K S.length io H p x → mty S p = some .lst → tyV X.K "list" x H := fun S io H p x rel hp e => by
    unfold mty at e
    split at e
    · cases e
    · rename_i i
      obtain ⟨_, rfl⟩ := hp
      have go : ∀ zs, seqOf S i = some zs → tyV X.K "list" (.ref (io i)) H := fun zs e2 => by
        obtain ⟨vs, h1, _⟩ := rel.sq e2
        exact .inl ⟨rfl, vs, h1⟩
      split at e
      · rename_i zs e2; exact go zs (by unfold seqOf; rw [e2])
      · rename_i zs e2; exact go zs (by unfold seqOf; rw [e2])
      · cases e
    · cases e
  cases m <;> cases t <;> first
    | exact ⟨"list", "list.append", PySem.F.plainAttrs_list, PySem.F.slot_list_append, PySem.F.type_list_append, me_append, lst⟩
    | exact ⟨"list", "list.pop", PySem.F.plainAttrs_list, PySem.F.slot_list_pop, PySem.F.type_list_pop, me_pop, lst⟩
    | cases h
end
end TM

/-! TM, part H: expressions are sound, the theorem. -/
namespace TM
open PySem PySem.Spec PyProof.Rows L2
section
variable {X : Cx} {k : Nat} {T : List Addr} {R : PXT} {W : Wish} {N : List Str} {sc : Scope} {cf : Nat → List PV → Sto → Res PV} {gl : Nat → PV} {G : GT}
theorem Post.bind2 {a b c a' b' c' : Type} {K : PySem.W.Frag} {R1 : Nat → (Nat → Addr) → Hp → a → a' → Prop} {R2 : Nat → (Nat → Addr) → Hp → b → b' → Prop} {R3 : Nat → (Nat → Addr) → Hp → c → c' → Prop}
    {m1 : Env → Sto → Res a} {m2 : Env → Sto → Res b} {f : a → b → Sto → Res c} {σ : L2.St} {S : Sto} {io : Nat → Addr} {H : Hp} {env : Env} {Q : c' → Hp → Prop} {N : a' → b' → Hp → Prop}
    (mono : ∀ {n n' io io' H H' p v}, Ex n io H io' H' → n ≤ n' → R1 n io H p v → R1 n' io' H' p v)
    (rel : Rel K T S io H) (er : EnvR K S.length io H env σ) (post : Post K T W R3 S io H Q ((m1 env S).bind fun p S => (m2 env S).bind fun q S => f p q S))
    (k : ∀ S io H p q v w, Rel K T S io H → R1 S.length io H p v → R2 S.length io H q w → Post K T W R3 S io H Q (f p q S) → N v w H) :
    lift K T W R1 m1 σ H fun v H1 => lift K T W R2 m2 σ H1 fun w H2 => N v w H2 :=
  Lift2 mono ⟨S, io, env, rel, er, post⟩ k
/-- the bind's head, lifted -/
theorem Post.head {a b a' b' : Type} {K : PySem.W.Frag} {R1 : Nat → (Nat → Addr) → Hp → a → a' → Prop} {R3 : Nat → (Nat → Addr) → Hp → b → b' → Prop}
    {m1 : Env → Sto → Res a} {f : a → Sto → Res b} {σ : L2.St} {S : Sto} {io : Nat → Addr} {H : Hp} {env : Env} {Q : b' → Hp → Prop} {N : a' → Hp → Prop}
    (rel : Rel K T S io H) (er : EnvR K S.length io H env σ) (post : Post K T W R3 S io H Q ((m1 env S).bind f))
    (k : ∀ S io H p v, Rel K T S io H → EnvR K S.length io H env σ → R1 S.length io H p v → Post K T W R3 S io H Q (f p S) → N v H) : lift K T W R1 m1 σ H N :=
  ⟨S, io, env, rel, er, post.bind fun p S1 io1 H1 v e1 l1 rel1 rp post1 => k S1 io1 H1 p v rel1 (er.mono e1 l1) rp post1⟩
theorem sNever {a : Expr} : PE X a (LE X T W (fun _ _ => .bad)) := ⟨fun _ _ _ _ _ _ h => by obtain ⟨_, _, _, _, _, h⟩ := h; exact h.elim⟩
theorem sVar {x : Str} {pos : Pos} {i : Nat} {c : Ctx} (C : Cok X k T R W N sc) (h1 : slotB N x i = true) (h2 : visB sc x = true) (h3 : nameB x = true) : PE X (.Name x pos) (LE X T W (ev c (.var i))) := by
  refine PE.imp (pe_var (slot_of C h1) (by rw [C.hsc]; exact vis_of h2) (name_of h3).1 (name_of h3).2.1) fun σ H Q h => ?_
  obtain ⟨S, io, env, rel, er, post⟩ := h
  simp only [ev] at post
  split at post
  · rename_i p e
    obtain ⟨v, h1, h2⟩ := er.2 i p e
    exact ⟨v, h1, post.val rel h2⟩
  · exact post.elim
theorem sCst {cc : Const} {j : Nat} {pos : Pos} {p : PV} {c : Ctx} (h : cstB cc p = true) : PE X (.Constant cc j pos) (LE X T W (ev c (.cst p))) := by
  refine ⟨fun pins s σ H Q I hh => ?_⟩
  obtain ⟨S, io, env, rel, er, post⟩ := hh
  obtain ⟨v, h1, h2⟩ := cst_rep (X := X) (K := X.K) (n := S.length) (io := io) (H := H) h
  exact h2.run pins s σ H Q I (post.val rel h1)
theorem sGlob {x : Str} {pos : Pos} {g : Nat} (C : Cok X k T R W N sc) (P : PG X.prog X.w X.K X.mg X.base T R k cf gl G) (h1 : glbB sc x = true) (h2 : gvB G x (.cst g) = true) (h3 : nameB x = true) : PE X (.Name x pos) (LE X T W (ev ⟨cf, gl⟩ (.glob g))) := by
  obtain ⟨u, v, hm, rv, rp⟩ := P.cst x g h2
  refine PE.imp (pe_glob (glb_of C h1) hm rv (name_of h3).1) fun σ H Q h => ?_
  obtain ⟨S, io, env, rel, er, post⟩ := h
  exact post.val rel (rp _ _ _)
theorem sBin {x y : Expr} {pos : Pos} {o : Op2} {p q : E} {c : Ctx} (hx : PE X x (LE X T W (ev c p))) (hy : PE X y (LE X T W (ev c q))) : PE X (.BinOp x (toOp o) y pos) (LE X T W (ev c (.bin o p q))) := by
  refine PE.imp (pe_op (binV_ok (T := T) (W := W) o) hx hy) fun σ H Q h => ?_
  obtain ⟨S, io, env, rel, er, post⟩ := h
  simp only [ev] at post
  exact Post.bind2 rmono rel er post fun S io H p q v w rel rp rq post => ⟨S, io, p, q, rel, rp, rq, post⟩
theorem sNeg {x : Expr} {pos : Pos} {p : E} {c : Ctx} (hx : PE X x (LE X T W (ev c p))) : PE X (.UnaryOp .USub x pos) (LE X T W (ev c (.neg p))) := by
  refine PE.imp (pe_un un_neg hx) fun σ H Q h => ?_
  obtain ⟨S, io, env, rel, er, post⟩ := h
  simp only [ev] at post
  refine Post.head rel er post fun S io H p v rel er rp post => ?_
  split at post
  · cases rp
    exact ⟨_, rfl, post.val rel rfl⟩
  · exact post.elim
theorem sIdx {x y : Expr} {pos : Pos} {p q : E} {c : Ctx} (hp : plainE y = true) (hx : PE X x (LE X T W (ev c p))) (hy : PE X y (LE X T W (ev c q))) : PE X (.Subscript x y pos) (LE X T W (ev c (.idx p q))) := by
  refine PE.imp (pe_ix (ix_ok (T := T) (W := W)) hx hy (plain_ix hp)) fun σ H Q h => ?_
  obtain ⟨S, io, env, rel, er, post⟩ := h
  simp only [ev] at post
  exact Post.bind2 rmono rel er post fun S io H p q v w rel rp rq post => ⟨S, io, p, q, rel, rp, rq, post⟩
theorem sSlc {x : Expr} {lo hi : Option Expr} {p2 pos : Pos} {p : E} {l u : Option E} {c : Ctx} (hx : PE X x (LE X T W (ev c p))) (hl : L2.PO X lo (LO X T W (evO c l))) (hu : L2.PO X hi (LO X T W (evO c u))) :
    PE X (.Subscript x (.Slice lo hi none p2) pos) (LE X T W (ev c (.slc p l u))) := by
  refine PE.imp (pe_slice (sl_ok (T := T) (W := W)) hx hl hu) fun σ H Q h => ?_
  obtain ⟨S, io, env, rel, er, post⟩ := h
  simp only [ev] at post
  refine ⟨S, io, env, rel, er, post.bind fun p S1 io1 H1 v e1 l1 rel1 rp post1 => ?_⟩
  refine ⟨S1, io1, env, rel1, er.mono e1 l1, post1.bind fun a S2 io2 H2 w e2 l2 rel2 ea post2 => ?_⟩
  refine ⟨S2, io2, env, rel2, (er.mono e1 l1).mono e2 l2, post2.bind fun b S3 io3 H3 w3 e3 l3 rel3 eb post3 => ?_⟩
  have ea : w = a := ea
  have eb : w3 = b := eb
  subst ea; subst eb
  exact ⟨S3, io3, p, rel3, (rp.mono e2 l2).mono e3 l3, post3⟩
theorem cmp_fin {o : Cop} {S : Sto} {io : Nat → Addr} {H : Hp} {p q : PV} {v w : V} {Q : VK} (rel : Rel X.K T S io H) (rp : Rep X.K S.length io H p v) (rq : Rep X.K S.length io H q w) (post : Post X.K T W (Rep X.K) S io H Q (ofO ((cmpV o p q S).map PV.bl) S)) :
    LRc X.K T W (cmpV o) v w H Q := ⟨S, io, p, q, rel, rp, rq, post⟩
theorem iCmp {o : Cop} {p q : E} {c : Ctx} {σ : L2.St} {H : Hp} {Q : VK} (h : LE X T W (ev c (.cmp o p q)) σ H Q) : tOp (LRc X.K T W (cmpV o)) (LE X T W (ev c p)) (LE X T W (ev c q)) σ H Q := by
  obtain ⟨S, io, env, rel, er, post⟩ := h
  simp only [ev] at post
  exact Post.bind2 rmono rel er post fun S io H p q v w rel rp rq post => cmp_fin rel rp rq post
theorem sCmp {x y : Expr} {pos : Pos} {o : Cop} {p q : E} {c : Ctx} (C : Cok X k T R W N sc) (hp : plainE y = true) (hx : PE X x (LE X T W (ev c p))) (hy : PE X y (LE X T W (ev c q))) : PE X (.Compare x [toCop o] [y] pos) (LE X T W (ev c (.cmp o p q))) :=
  PE.imp (pe_cmpR (cmpV_ok (T := T) (W := W) C.room.units o) hx hy (plain_mark hp)) fun σ H Q h => iCmp h
/-- a test whose value is a bool -/
theorem lt_le {m : E} {c : Ctx} {σ : L2.St} {H : Hp} {Q : Bool → Hp → Prop} (hb : ∀ env S p S', ev c m env S = .ok p S' → ∃ b, p = .bl b) (h : LT X T W (evT c (.e m)) σ H Q) : LE X T W (ev c m) σ H (fun x H' => ∃ k, x = .bl k ∧ Q k H') := by
  obtain ⟨S, io, env, rel, er, post⟩ := h
  refine ⟨S, io, env, rel, er, ?_⟩
  simp only [evT] at post
  cases e1 : ev c m env S with
  | bad => rw [e1] at post; exact post.elim
  | exc x S' => rw [e1] at post; exact post
  | ok p S1 =>
    rw [e1] at post
    obtain ⟨b, rfl⟩ := hb _ _ _ _ e1
    intro io1 H1 v ex1 l1 rel1 rp
    cases rp
    exact ⟨b, rfl, post io1 H1 b ex1 l1 rel1 rfl⟩
theorem bl_cmp {o : Cop} {p q : E} {c : Ctx} : ∀ env S r S', ev c (.cmp o p q) env S = .ok r S' → ∃ b, r = .bl b := by
  intro env S r S' h
  simp only [ev] at h
  cases e1 : ev c p env S with
  | bad => rw [e1] at h; cases h
  | exc x S' => rw [e1] at h; cases h
  | ok p1 S1 =>
    rw [e1, Res.bind_ok] at h
    cases e2 : ev c q env S1 with
    | bad => rw [e2] at h; cases h
    | exc x S' => rw [e2] at h; cases h
    | ok q1 S2 =>
      rw [e2, Res.bind_ok] at h
      cases e3 : cmpV o p1 q1 S2 with
      | none => rw [e3] at h; cases h
      | some b => rw [e3] at h; cases h; exact ⟨b, rfl⟩
theorem tCmp {x y : Expr} {pos : Pos} {o : Cop} {p q : E} {c : Ctx} (C : Cok X k T R W N sc) (hp : plainE y = true) (hx : PE X x (LE X T W (ev c p))) (hy : PE X y (LE X T W (ev c q))) : PT X (.Compare x [toCop o] [y] pos) (LT X T W (evT c (.e (.cmp o p q)))) :=
  PT.imp (pt_cmpR (cmpV_ok (T := T) (W := W) C.room.units o) hx hy (plain_mark hp)) fun σ H Q h => iCmp (lt_le bl_cmp h)
theorem iChain {o o2 : Cop} {p q r : E} {c : Ctx} {σ : L2.St} {H : Hp} {Q : VK} (h : LE X T W (ev c (.chain o o2 p q r)) σ H Q) :
    tChain (LRc X.K T W (cmpV o)) (LRc X.K T W (cmpV o2)) (LE X T W (ev c p)) (LE X T W (ev c q)) (LE X T W (ev c r)) σ H Q := by
  obtain ⟨S, io, env, rel, er, post⟩ := h
  simp only [ev] at post
  refine Post.head rel er post fun S io H p v rel er rp post => ?_
  refine ⟨S, io, env, rel, er, post.bind fun q S2 io2 H2 w e2 l2 rel2 rq post2 => ?_⟩
  have rp2 := rp.mono e2 l2
  have er2 := er.mono e2 l2
  cases e3 : cmpV o p q S2 with
  | none => rw [e3] at post2; exact post2.elim
  | some b =>
    rw [e3] at post2
    simp only [ofO_some, Res.bind_ok] at post2
    refine ⟨S2, io2, p, q, rel2, rp2, rq, ?_⟩
    show Post X.K T W (Rep X.K) S2 io2 H2 _ (ofO ((cmpV o p q S2).map PV.bl) S2)
    rw [e3]
    intro io3 H3 z ex3 l3 rel3 rz
    cases rz
    refine ⟨b, rfl, ?_⟩
    have post3 := Post.start ex3 l3 post2
    cases b with
    | false => exact iteF (post3.val rel3 rfl)
    | true =>
      refine iteT ?_
      simp only [if_true] at post3
      refine ⟨S2, io3, env, rel3, er2.mono ex3 l3, post3.bind fun r S4 io4 H4 u e4 l4 rel4 ru post4 => ?_⟩
      exact cmp_fin rel4 ((rq.mono ex3 l3).mono e4 l4) ru post4
theorem plain_last {op op' : CmpOp} {b c : Expr} (h : plainE c = true) : lastMarks [op, op'] [b, c] = false := by
  show behindInMarks op' c = false
  exact plain_mark h
theorem sChain {x y z : Expr} {pos : Pos} {o o2 : Cop} {p q r : E} {c : Ctx} (C : Cok X k T R W N sc) (hp : plainE z = true) (hx : PE X x (LE X T W (ev c p))) (hy : PE X y (LE X T W (ev c q))) (hz : PE X z (LE X T W (ev c r))) :
    PE X (.Compare x [toCop o, toCop o2] [y, z] pos) (LE X T W (ev c (.chain o o2 p q r))) :=
  PE.imp (pe_chain (cmpV_ok (T := T) (W := W) C.room.units o) (cmpV_ok (T := T) (W := W) C.room.units o2) hx hy hz (plain_last hp)) fun σ H Q h => iChain h
theorem bl_chain {o o2 : Cop} {p q r : E} {c : Ctx} : ∀ env S v S', ev c (.chain o o2 p q r) env S = .ok v S' → ∃ b, v = .bl b := by
  intro env S v S' h
  simp only [ev] at h
  cases e1 : ev c p env S with
  | bad => rw [e1] at h; cases h
  | exc x S' => rw [e1] at h; cases h
  | ok p1 S1 =>
    rw [e1, Res.bind_ok] at h
    cases e2 : ev c q env S1 with
    | bad => rw [e2] at h; cases h
    | exc x S' => rw [e2] at h; cases h
    | ok q1 S2 =>
      rw [e2, Res.bind_ok] at h
      cases e3 : cmpV o p1 q1 S2 with
      | none => rw [e3] at h; cases h
      | some b =>
        rw [e3] at h
        simp only [ofO_some, Res.bind_ok] at h
        cases b with
        | false => cases h; exact ⟨_, rfl⟩
        | true =>
          simp only [if_true] at h
          cases e4 : ev c r env S2 with
          | bad => rw [e4] at h; cases h
          | exc x S' => rw [e4] at h; cases h
          | ok r1 S3 =>
            rw [e4, Res.bind_ok] at h
            cases e5 : cmpV o2 q1 r1 S3 with
            | none => rw [e5] at h; cases h
            | some b => rw [e5] at h; cases h; exact ⟨b, rfl⟩
theorem tChain' {x y z : Expr} {pos : Pos} {o o2 : Cop} {p q r : E} {c : Ctx} (C : Cok X k T R W N sc) (hp : plainE z = true) (hx : PE X x (LE X T W (ev c p))) (hy : PE X y (LE X T W (ev c q))) (hz : PE X z (LE X T W (ev c r))) :
    PT X (.Compare x [toCop o, toCop o2] [y, z] pos) (LT X T W (evT c (.e (.chain o o2 p q r)))) :=
  PT.imp (pt_chain (cmpV_ok (T := T) (W := W) C.room.units o) (cmpV_ok (T := T) (W := W) C.room.units o2) hx hy hz (plain_last hp)) fun σ H Q h => iChain (lt_le bl_chain h)
/-! ### and, or, not -/
theorem iAnd {p q : E} {c : Ctx} {σ : L2.St} {H : Hp} {Q : VK} (h : LE X T W (ev c (.andv p q)) σ H Q) : tAndT X.K (LE X T W (ev c p)) (LE X T W (ev c q)) σ H Q := by
  obtain ⟨S, io, env, rel, er, post⟩ := h
  simp only [ev] at post
  refine Post.head rel er post fun S io H p v rel er rp post => ?_
  cases e : truth S p with
  | none => rw [e] at post; exact post.elim
  | some b =>
    rw [e] at post
    simp only [ofO_some, Res.bind_ok] at post
    refine ⟨b, truth_ok rel rp e, ?_⟩
    cases b with
    | true => exact iteT ⟨S, io, env, rel, er, post⟩
    | false => exact iteF (post.val rel rp)
theorem iOr {p q : E} {c : Ctx} {σ : L2.St} {H : Hp} {Q : VK} (h : LE X T W (ev c (.orv p q)) σ H Q) : tOrT X.K (LE X T W (ev c p)) (LE X T W (ev c q)) σ H Q := by
  obtain ⟨S, io, env, rel, er, post⟩ := h
  simp only [ev] at post
  refine Post.head rel er post fun S io H p v rel er rp post => ?_
  cases e : truth S p with
  | none => rw [e] at post; exact post.elim
  | some b =>
    rw [e] at post
    simp only [ofO_some, Res.bind_ok] at post
    refine ⟨b, truth_ok rel rp e, ?_⟩
    cases b with
    | true => exact iteT (post.val rel rp)
    | false => exact iteF ⟨S, io, env, rel, er, post⟩
theorem sNot {x : Expr} {pos : Pos} {p : E} {c : Ctx} (hx : PE X x (LE X T W (ev c p))) : PE X (.UnaryOp .Not x pos) (LE X T W (ev c (.notv p))) := by
  refine PE.imp (pe_notT hx) fun σ H Q h => ?_
  obtain ⟨S, io, env, rel, er, post⟩ := h
  simp only [ev] at post
  refine Post.head rel er post fun S io H p v rel er rp post => ?_
  cases e : truth S p with
  | none => rw [e] at post; exact post.elim
  | some b =>
    rw [e] at post
    exact ⟨b, truth_ok rel rp e, post.val rel rfl⟩
theorem tTru {x : Expr} {p : E} {c : Ctx} (ht : tstE x = true) (hx : PE X x (LE X T W (ev c p))) : PT X x (LT X T W (evT c (.e p))) := by
  refine PT.imp (pt_truth hx (tst_truth ht)) fun σ H Q h => ?_
  obtain ⟨S, io, env, rel, er, post⟩ := h
  simp only [evT] at post
  refine Post.head rel er post fun S io H p v rel er rp post => ?_
  cases e : truth S p with
  | none => rw [e] at post; exact post.elim
  | some b =>
    rw [e] at post
    exact ⟨b, truth_ok rel rp e, Post.val (R := fun _ _ _ a b => b = a) rel post rfl⟩
theorem iTAnd {p q : TM.T} {c : Ctx} {σ : L2.St} {H : Hp} {Q : Bool → Hp → Prop} (h : LT X T W (evT c (.and p q)) σ H Q) : tAnd (LT X T W (evT c p)) (LT X T W (evT c q)) σ H Q := by
  obtain ⟨S, io, env, rel, er, post⟩ := h
  simp only [evT] at post
  refine Post.head rel er post fun S io H b v rel er rp post => ?_
  have rp : v = b := rp
  subst rp
  cases v with
  | true => exact iteT ⟨S, io, env, rel, er, post⟩
  | false => exact iteF (Post.val (R := fun _ _ _ a b => b = a) rel post rfl)
theorem iTOr {p q : TM.T} {c : Ctx} {σ : L2.St} {H : Hp} {Q : Bool → Hp → Prop} (h : LT X T W (evT c (.or p q)) σ H Q) : tOr (LT X T W (evT c p)) (LT X T W (evT c q)) σ H Q := by
  obtain ⟨S, io, env, rel, er, post⟩ := h
  simp only [evT] at post
  refine Post.head rel er post fun S io H b v rel er rp post => ?_
  have rp : v = b := rp
  subst rp
  cases v with
  | true => exact iteT (Post.val (R := fun _ _ _ a b => b = a) rel post rfl)
  | false => exact iteF ⟨S, io, env, rel, er, post⟩
theorem tNotT' {x : Expr} {pos : Pos} {p : TM.T} {c : Ctx} (hx : PT X x (LT X T W (evT c p))) : PT X (.UnaryOp .Not x pos) (LT X T W (evT c (.not p))) := by
  refine PT.imp (pt_not hx) fun σ H Q h => ?_
  obtain ⟨S, io, env, rel, er, post⟩ := h
  simp only [evT] at post
  refine Post.head rel er post fun S io H b v rel er rp post => ?_
  have rp : v = b := rp
  subst rp
  exact Post.val (R := fun _ _ _ a b => b = a) rel post rfl
theorem sIfe {t x y : Expr} {pos : Pos} {tt : TM.T} {p q : E} {c : Ctx} (ht : PT X t (LT X T W (evT c tt))) (hx : PE X x (LE X T W (ev c p))) (hy : PE X y (LE X T W (ev c q))) : PE X (.IfExp t x y pos) (LE X T W (ev c (.ife tt p q))) := by
  refine PE.imp (pe_ifExp ht hx hy) fun σ H Q h => ?_
  obtain ⟨S, io, env, rel, er, post⟩ := h
  simp only [ev] at post
  refine Post.head rel er post fun S io H b v rel er rp post => ?_
  have rp : v = b := rp
  subst rp
  cases v with
  | true => exact iteT ⟨S, io, env, rel, er, post⟩
  | false => exact iteF ⟨S, io, env, rel, er, post⟩
/-! ### arguments, displays -/
theorem aNil {c : Ctx} : PA X [] (LA X T W (evs c [])) := by
  refine ⟨fun pos pins s σ H Q I h => pa_nil.run pos pins s σ H Q I ?_⟩
  obtain ⟨S, io, env, rel, er, post⟩ := h
  exact Post.val (R := Reps X.K) rel post Reps.nil
theorem aCons {x : Expr} {xs : List Expr} {p : E} {ps : List E} {c : Ctx} (hp : plainE x = true) (hx : PE X x (LE X T W (ev c p))) (hr : PA X xs (LA X T W (evs c ps))) : PA X (x :: xs) (LA X T W (evs c (p :: ps))) := by
  refine ⟨fun pos pins s σ H Q I h => (pa_cons hx hr (star_cons hp)).run pos pins s σ H Q I ?_⟩
  obtain ⟨S, io, env, rel, er, post⟩ := h
  simp only [evs] at post
  refine Post.head rel er post fun S io H p v rel er rp post => ?_
  refine ⟨S, io, env, rel, er, post.bind fun ps S2 io2 H2 vs e2 l2 rel2 rps post2 => ?_⟩
  exact Post.val (R := Reps X.K) rel2 post2 (Reps.cons (rp.mono e2 l2) rps)
theorem sLst {xs : List Expr} {pos : Pos} {ps : List E} {c : Ctx} (hx : PA X xs (LA X T W (evs c ps))) : PE X (.List xs pos) (LE X T W (ev c (.lst ps))) := by
  refine PE.imp (pe_lst hx) fun σ H Q h => ?_
  obtain ⟨S, io, env, rel, er, post⟩ := h
  simp only [ev] at post
  refine Post.head rel er post fun S io H ps vs rel er rps post => ?_
  split at post
  · rename_i hl
    exact ⟨by rw [rps.length, line_eq]; exact hl, Post.lst rel post rps⟩
  · exact post.elim
theorem sTup {xs : List Expr} {j : Nat} {pos : Pos} {ps : List E} {c : Ctx} (hx : PA X xs (LA X T W (evs c ps))) : PE X (.Tuple xs j pos) (LE X T W (ev c (.tup ps))) := by
  refine PE.imp (pe_tup hx) fun σ H Q h => ?_
  obtain ⟨S, io, env, rel, er, post⟩ := h
  simp only [ev] at post
  refine Post.head rel er post fun S io H ps vs rel er rps post => ?_
  split at post
  · rename_i hl
    exact ⟨by rw [rps.length, line_eq]; exact hl, Post.tup rel post rps⟩
  · exact post.elim
theorem sCall {x : Str} {p pos : Pos} {xs : List Expr} {f : Nat} {ps : List E} (C : Cok X k T R W N sc) (P : PG X.prog X.w X.K X.mg X.base T R k cf gl G) (h1 : glbB sc x = true) (h2 : gvB G x (.fn f) = true) (h3 : nameB x = true) (hpl : plainEs xs = true) (h0 : xs = [] → ps = [])
    (hx : PA X xs (LA X T W (evs ⟨cf, gl⟩ ps))) : PE X (.Call (.Name x p) xs [] pos) (LE X T W (ev ⟨cf, gl⟩ (.call f ps))) := by
  obtain ⟨fa, fd, pn, hm, hk, hb, hlen, F⟩ := P.fn x f h2
  have key : ∀ σ H Q, LE X T W (ev ⟨cf, gl⟩ (.call f ps)) σ H Q → tCall (spOf X.K T R pn.length (cf f)) [] (EW X.K T R W) (LA X T W (evs ⟨cf, gl⟩ ps)) σ H Q := by
    intro σ H Q h
    obtain ⟨S, io, env, rel, er, post⟩ := h
    simp only [ev] at post
    refine Post.head rel er post fun S io H ps vs rel er rps post => ?_
    rw [List.append_nil]
    refine ⟨?_, S, io, ps, rel, rps, post.wish fun x S io H rel w cls d hr => ⟨x, S, io, rel, hr, w⟩⟩
    rw [rps.length]
    exact hlen ps S fun z => by rw [show cf f ps S = .bad from z] at post; exact post.elim
  cases xs with
  | nil =>
    refine ⟨fun pins s σ H Q I h => (pe_call0 F C.room (glb_of C h1) hm hk hb .nil C.pass (name_of h3).1).run pins s σ H Q I ?_⟩
    have q := key σ H Q h
    obtain ⟨S, io, env, rel, er, post⟩ := h
    simp only [ev] at post
    have e := h0 rfl
    subst e
    simp only [evs, Res.bind_ok] at post
    refine ⟨?_, S, io, [], rel, Reps.nil, post.wish fun x S io H rel w cls d hr => ⟨x, S, io, rel, hr, w⟩⟩
    have := hlen [] S fun z => by rw [show cf f [] S = .bad from z] at post; exact post.elim
    exact this
  | cons e es =>
    simp only [plainEs, List.all_cons, Bool.and_eq_true] at hpl
    exact PE.imp (pe_call F C.room (glb_of C h1) hm hk hb .nil C.pass hx (name_of h3).1 (star_cons hpl.1) (star_any hpl.2)) key
theorem sBi {x : Str} {p pos : Pos} {y : Expr} {ys : List Expr} {b : BI} {ps : List E} {c : Ctx} (C : Cok X k T R W N sc) (P : PG X.prog X.w X.K X.mg X.base T R k cf gl G) (h1 : glbB sc x = true) (h2 : gvB G x .blt = true) (h3 : x = biS b) (hpl : plainEs (y :: ys) = true)
    (hx : PA X (y :: ys) (LA X T W (evs c ps))) : PE X (.Call (.Name x p) (y :: ys) [] pos) (LE X T W (ev c (.bi b ps))) := by
  subst h3
  refine PE.imp (pe_bi (biV_ok (T := T) (W := W) C.room.units C.calm b) (glb_of C h1) (P.blt _ h2) (bi_boot b) (bi_kind b) hx (bi_name b).1 (bi_name b).2 hpl) fun σ H Q h => ?_
  obtain ⟨S, io, env, rel, er, post⟩ := h
  simp only [ev] at post
  exact Post.head rel er post fun S io H ps vs rel er rps post => ⟨S, io, ps, rel, rps, post⟩
theorem ty_boot (t : Ty) : bootBuiltins (tyS t) = some (.type (tyN t)) ∧ tyS t ≠ ("__name__" : Str) ∧ (tyS t == ("__debug__" : Str)) = false := by
  cases t <;> exact ⟨by first | exact boot_int | exact boot_bool | exact boot_str | exact boot_tuple | exact boot_list, by decide +kernel, by decide +kernel⟩
theorem isTy_pe {z : Expr} {t : Ty} (C : Cok X k T R W N sc) (P : PG X.prog X.w X.K X.mg X.base T R k cf gl G) (h : isTyB sc G z t = true) : PE X z (tC (.ty (tyN t))) ∧ plainE z = true := by
  unfold isTyB at h
  split at h
  · simp only [Bool.and_eq_true, decide_eq_true_eq] at h
    obtain ⟨⟨rfl, h2⟩, h3⟩ := h
    obtain ⟨b1, b2, b3⟩ := ty_boot t
    exact ⟨pe_bltn (glb_of C h2) (P.blt _ h3) b1 rfl b2 b3, rfl⟩
  · cases h
theorem isTys_pa (C : Cok X k T R W N sc) (P : PG X.prog X.w X.K X.mg X.base T R k cf gl G) : ∀ {zs : List Expr} {ts : List Ty}, isTysB sc G zs ts = true → PA X zs (fun σ H Q => Q (ts.map fun t => V.ty (tyN t)) H) ∧ zs.length = ts.length
  | [], [], _ => ⟨⟨fun pos pins s σ H Q I h => pa_nil.run pos pins s σ H Q I h⟩, rfl⟩
  | z :: zs, t :: ts, h => by
    simp only [isTysB, Bool.and_eq_true] at h
    obtain ⟨h1, h2⟩ := isTy_pe C P h.1
    obtain ⟨h3, h4⟩ := isTys_pa C P h.2
    exact ⟨⟨fun pos pins s σ H Q I h => (pa_cons h1 h3 (star_cons h2)).run pos pins s σ H Q I h⟩, by simp [h4]⟩
  | [], _ :: _, h => by cases h
  | _ :: _, [], h => by cases h
theorem clsV_all : ∀ ts : List Ty, Paired ClsV (ts.map fun t => V.ty (tyN t)) (ts.map fun t => Value.type (tyN t))
  | [] => .nil
  | t :: ts => .cons (.ty _) (clsV_all ts)
/-- one type for all the classes asked -/
theorem typ_all {K : PySem.W.Frag} {S : Sto} {io : Nat → Addr} {H : Hp} {p : PV} {v : V} (rel : Rel K T S io H) (hp : Rep K S.length io H p v) (h0 : ∃ t b, isiV S p t = some b) :
    ∃ u, TyX K H v (.type u) ∧ ∀ (K' : PySem.W.Frag) t b, isiV S p t = some b → PySem.W.kitOne K' (.type u) (.type (tyN t)) = some b := by
  obtain ⟨t0, b0, h0⟩ := h0
  unfold isiV at h0
  cases p with
  | non => cases hp; exact ⟨_, .base .non, fun K' t b e => by cases e; cases t <;> rfl⟩
  | bl c => cases hp; exact ⟨_, .base (.bl c), fun K' t b e => by cases e; cases t <;> rfl⟩
  | int i => cases hp; exact ⟨_, .base (.int i), fun K' t b e => by cases e; cases t <;> rfl⟩
  | str cs => cases hp; exact ⟨_, .base (.str _), fun K' t b e => by cases e; cases t <;> rfl⟩
  | tup ps =>
    obtain ⟨a, vs, rfl, h1, h2⟩ := hp
    rcases h1 with (h1 | ⟨o, h1⟩) | ⟨o, its, n, h1, h3, _⟩
    · exact ⟨_, .base (.tup h1), fun K' t b e => by cases e; cases t <;> rfl⟩
    · exact ⟨_, .fTuple h1, fun K' t b e => by cases e; cases t <;> rfl⟩
    · exact ⟨_, .kTuple h1 h3, fun K' t b e => by cases e; cases t <;> rfl⟩
  | obj i =>
    obtain ⟨_, rfl⟩ := hp
    simp only at h0
    split at h0
    · rename_i xs e1
      obtain ⟨vs, h1, h2⟩ := rel.lst e1
      refine ⟨_, .base (.lst h1), fun K' t b e => ?_⟩
      simp only [isiV, e1] at e
      cases e
      cases t <;> rfl
    · cases h0
    · cases h0
theorem isiL_any {K' : PySem.W.Frag} {S : Sto} {p : PV} {u : String} (h : ∀ t b, isiV S p t = some b → PySem.W.kitOne K' (.type u) (.type (tyN t)) = some b) : ∀ {ts : List Ty} {b : Bool}, isiL S p ts = some b → PySem.W.kitAny K' (.type u) (ts.map fun t => Value.type (tyN t)) = some b
  | [], _, e => by cases e; rfl
  | t :: ts, b, e => by
    unfold isiL at e
    split at e
    · rename_i a b' e1 e2
      cases e
      show (match PySem.W.kitOne K' (.type u) (.type (tyN t)) with | some true => some true | some false => PySem.W.kitAny K' (.type u) (ts.map fun t => Value.type (tyN t)) | none => none) = _
      rw [h t a e1]
      cases a with
      | true => rfl
      | false => simpa using isiL_any h e2
    · cases e
theorem isiL_some {S : Sto} {p : PV} : ∀ {ts : List Ty} {b : Bool}, isiL S p ts = some b → ts ≠ [] → ∃ t b, isiV S p t = some b
  | [], _, _, h => absurd rfl h
  | t :: ts, b, e, _ => by
    unfold isiL at e
    split at e
    · rename_i a b' e1 e2
      exact ⟨t, a, e1⟩
    · cases e
theorem sIsi1 {x : Str} {p pos : Pos} {y z : Expr} {t : Ty} {q : E} {c : Ctx} (C : Cok X k T R W N sc) (P : PG X.prog X.w X.K X.mg X.base T R k cf gl G) (h1 : glbB sc x = true) (h2 : gvB G x .blt = true) (h3 : x = "isinstance") (hpl : plainE y = true) (hz : isTyB sc G z t = true)
    (hy : PE X y (LE X T W (ev c q))) : PE X (.Call (.Name x p) [y, z] [] pos) (LE X T W (ev c (.isi q [t]))) := by
  subst h3
  obtain ⟨z1, z2⟩ := isTy_pe C P hz
  refine PE.imp (pe_bi (f := .builtin "isinstance") call_isi (glb_of C h1) (P.blt _ h2) PyProof.Rows.boot_isinstance (.inl ⟨_, rfl⟩) (pa_cons hy (pa_cons z1 pa_nil (star_cons z2)) (star_cons hpl)) (by decide +kernel) (by decide +kernel) (by simp [plainEs, hpl, z2])) fun σ H Q h => ?_
  obtain ⟨S, io, env, rel, er, post⟩ := h
  simp only [ev] at post
  refine Post.head rel er post fun S io H p v rel er rp post => ?_
  cases e : isiL S p [t] with
  | none => rw [e] at post; exact post.elim
  | some b =>
    rw [e] at post
    obtain ⟨u, hu, hk⟩ := typ_all rel rp (isiL_some e (by simp))
    have e' : isiV S p t = some b := by
      unfold isiL at e
      split at e
      · rename_i a b' e1 e2
        cases e
        cases e2
        rw [e1, Bool.or_false]
      · cases e
    exact ⟨v, .ty (tyN t), .type u, .type (tyN t), b, rfl, .ty _, hu, hk X.K t b e', post.val rel rfl⟩
theorem sIsiT {x : Str} {p pos tp : Pos} {y : Expr} {zs : List Expr} {j : Nat} {ts : List Ty} {q : E} {c : Ctx} (C : Cok X k T R W N sc) (P : PG X.prog X.w X.K X.mg X.base T R k cf gl G) (h1 : glbB sc x = true) (h2 : gvB G x .blt = true) (h3 : x = "isinstance") (hpl : plainE y = true) (hz : isTysB sc G zs ts = true) (hzl : zs.length ≤ 100) (hts : ts ≠ [])
    (hy : PE X y (LE X T W (ev c q))) : PE X (.Call (.Name x p) [y, .Tuple zs j tp] [] pos) (LE X T W (ev c (.isi q ts))) := by
  subst h3
  obtain ⟨z1, z2⟩ := isTys_pa C P hz
  refine PE.imp (pe_bi (f := .builtin "isinstance") call_isiT (glb_of C h1) (P.blt _ h2) PyProof.Rows.boot_isinstance (.inl ⟨_, rfl⟩) (pa_cons hy (pa_cons (pe_tup z1) pa_nil (star_cons rfl)) (star_cons hpl)) (by decide +kernel) (by decide +kernel) (by simp only [plainEs, List.all_cons, hpl, List.all_nil]; rfl)) fun σ H Q h => ?_
  obtain ⟨S, io, env, rel, er, post⟩ := h
  simp only [ev] at post
  refine Post.head rel er post fun S io H p v rel er rp post => ?_
  refine ⟨by rw [List.length_map, ← z2, line_eq]; unfold LINE; omega, fun a na => ?_⟩
  cases e : isiL S p ts with
  | none => rw [e] at post; exact post.elim
  | some b =>
    rw [e] at post
    obtain ⟨rel', ex⟩ := rel.fresh (o := .tup (ts.map fun t => V.ty (tyN t))) na
    have rp' := rp.mono ex (Nat.le_refl _)
    have fin : Q (.bl b) (upd H a (.tup (ts.map fun t => V.ty (tyN t)))) := post io _ _ ex (Nat.le_refl _) rel' rfl
    obtain ⟨u, hu, hk⟩ := typ_all rel' rp' (isiL_some e hts)
    exact ⟨v, a, _, .type u, _, b, rfl, upd_same, clsV_all ts, hu, isiL_any (hk X.K) e, fin⟩
theorem sMe {x : Expr} {name : Str} {apos cpos : Pos} {xs : List Expr} {m : ME} {o : E} {ps : List E} {c : Ctx} (h1 : apos.endLine = cpos.line) (h2 : nsup x = true) (h3 : name = meS m) (h4 : xs.length < 20) (hpl : plainEs xs = true) (h0 : xs = [] → ps = [])
    (hx : PE X x (LE X T W (ev c o))) (ha : PA X xs (LA X T W (evs c ps))) : PE X (.Call (.Attribute x name apos) xs [] cpos) (LE X T W (ev c (.me m o ps))) := by
  subst h3
  cases xs with
  | nil =>
    have e := h0 rfl
    subst e
    refine PE.imp (pe_me0 hx h2 h1) fun σ H Q h => ?_
    obtain ⟨S, io, env, rel, er, post⟩ := h
    simp only [ev] at post
    refine Post.head rel er post fun S io H p v rel er rp post => ?_
    cases e1 : mty S p with
    | none => rw [e1] at post; exact post.elim
    | some t =>
      simp only [e1] at post
      cases e2 : meOk m t with
      | false => rw [e2] at post; exact post.elim
      | true =>
        rw [e2] at post
        simp only [if_true, evs, Res.bind_ok] at post
        obtain ⟨T', id, f1, f2, f3, f4, f5⟩ := me_ok (X := X) (T := T) (W := W) e2
        exact ⟨T', id, _, f1, f2, f3, f4, f5 S io H p v rel rp e1, S, io, p, [], rel, rp, Reps.nil, post⟩
  | cons y ys =>
    refine PE.imp (pe_me hx ha h2 hpl h4 h1) fun σ H Q h => ?_
    obtain ⟨S, io, env, rel, er, post⟩ := h
    simp only [ev] at post
    refine Post.head rel er post fun S io H p v rel er rp post => ?_
    cases e1 : mty S p with
    | none => rw [e1] at post; exact post.elim
    | some t =>
      simp only [e1] at post
      cases e2 : meOk m t with
      | false => rw [e2] at post; exact post.elim
      | true =>
        rw [e2] at post
        simp only [if_true] at post
        obtain ⟨T', id, f1, f2, f3, f4, f5⟩ := me_ok (X := X) (T := T) (W := W) e2
        refine ⟨T', id, _, f1, f2, f3, f4, f5 S io H p v rel rp e1, S, io, env, rel, er, post.bind fun ps S2 io2 H2 vs ex2 l2 rel2 rps post2 => ?_⟩
        exact ⟨S2, io2, p, ps, rel2, rp.mono ex2 l2, rps, post2⟩
theorem ckEs_nil {ps : List E} {xs : List Expr} (h : ckEs N sc G ps xs = true) (e : xs = []) : ps = [] := by
  subst e
  cases ps with
  | nil => rfl
  | cons _ _ => simp [ckEs] at h
mutual
theorem sE (C : Cok X k T R W N sc) (P : PG X.prog X.w X.K X.mg X.base T R k cf gl G) : ∀ (e : E) (a : Expr), ckE N sc G e a = true → PE X a (LE X T W (ev ⟨cf, gl⟩ e))
  | .never, a, _ => PE.imp sNever fun σ H Q h => h
  | .var i, a, h => by
    simp only [ckE] at h
    split at h
    · simp only [Bool.and_eq_true] at h
      exact sVar C h.1.1 h.1.2 h.2
    · cases h
  | .cst p, a, h => by
    simp only [ckE] at h
    split at h
    · exact sCst h
    · cases h
  | .glob g, a, h => by
    simp only [ckE] at h
    split at h
    · simp only [Bool.and_eq_true] at h
      exact sGlob C P h.1.1 h.1.2 h.2
    · cases h
  | .bin o p q, a, h => by
    simp only [ckE] at h
    split at h
    · simp only [Bool.and_eq_true] at h
      rw [op_of h.1.1]
      exact sBin (sE C P p _ h.1.2) (sE C P q _ h.2)
    · cases h
  | .neg p, a, h => by
    simp only [ckE] at h
    split at h
    · exact sNeg (sE C P p _ h)
    · cases h
  | .idx p q, a, h => by
    simp only [ckE] at h
    split at h
    · simp only [Bool.and_eq_true] at h
      exact sIdx h.1.1 (sE C P p _ h.1.2) (sE C P q _ h.2)
    · cases h
  | .slc p l u, a, h => by
    simp only [ckE] at h
    split at h
    · simp only [Bool.and_eq_true] at h
      exact sSlc (sE C P p _ h.1.1) (sO C P l _ h.1.2) (sO C P u _ h.2)
    · cases h
  | .cmp o p q, a, h => by
    simp only [ckE] at h
    split at h
    · simp only [Bool.and_eq_true, decide_eq_true_eq] at h
      rw [h.1.1.1]
      exact sCmp C h.1.1.2 (sE C P p _ h.1.2) (sE C P q _ h.2)
    · cases h
  | .chain o o2 p q r, a, h => by
    simp only [ckE] at h
    split at h
    · simp only [Bool.and_eq_true, decide_eq_true_eq] at h
      rw [h.1.1.1.1.1, h.1.1.1.1.2]
      exact sChain C h.1.1.1.2 (sE C P p _ h.1.1.2) (sE C P q _ h.1.2) (sE C P r _ h.2)
    · cases h
  | .andv p q, a, h => by
    simp only [ckE] at h
    split at h
    · simp only [Bool.and_eq_true] at h
      exact PE.imp (pe_andT (sE C P p _ h.1) (pe_one (sE C P q _ h.2))) fun σ H Q h => iAnd h
    · simp only [Bool.and_eq_true] at h
      exact PE.imp (pe_andT (sE C P p _ h.1) (sE C P q _ h.2)) fun σ H Q h => iAnd h
    · cases h
  | .orv p q, a, h => by
    simp only [ckE] at h
    split at h
    · simp only [Bool.and_eq_true] at h
      exact PE.imp (pe_orT (sE C P p _ h.1) (pe_one (sE C P q _ h.2))) fun σ H Q h => iOr h
    · simp only [Bool.and_eq_true] at h
      exact PE.imp (pe_orT (sE C P p _ h.1) (sE C P q _ h.2)) fun σ H Q h => iOr h
    · cases h
  | .notv p, a, h => by
    simp only [ckE] at h
    split at h
    · exact sNot (sE C P p _ h)
    · cases h
  | .ife t p q, a, h => by
    simp only [ckE] at h
    split at h
    · simp only [Bool.and_eq_true] at h
      exact sIfe (sT C P t _ h.1.1) (sE C P p _ h.1.2) (sE C P q _ h.2)
    · cases h
  | .call f ps, a, h => by
    simp only [ckE] at h
    split at h
    · simp only [Bool.and_eq_true] at h
      exact sCall C P h.1.1.1 h.1.1.2 h.1.2 (ckEs_plain h.2) (ckEs_nil h.2) (sA C P ps _ h.2)
    · cases h
  | .bi b ps, a, h => by
    simp only [ckE] at h
    split at h
    · simp only [Bool.and_eq_true, decide_eq_true_eq] at h
      exact sBi C P h.1.1.1 h.1.1.2 h.1.2 (ckEs_plain h.2) (sA C P ps _ h.2)
    · cases h
  | .isi p ts, a, h => by
    simp only [ckE] at h
    split at h
    · simp only [Bool.and_eq_true, decide_eq_true_eq] at h
      obtain ⟨⟨⟨⟨⟨h1, h2⟩, h3⟩, h4⟩, h5⟩, h6⟩ := h
      split at h6
      · simp only [Bool.and_eq_true, decide_eq_true_eq, Bool.not_eq_true', List.isEmpty_eq_false_iff] at h6
        exact sIsiT C P h1 h2 h3 h4 h6.1.1 h6.1.2 h6.2 (sE C P p _ h5)
      · split at h6
        · exact sIsi1 C P h1 h2 h3 h4 h6 (sE C P p _ h5)
        · cases h6
    · cases h
  | .me m o ps, a, h => by
    simp only [ckE] at h
    split at h
    · simp only [Bool.and_eq_true, decide_eq_true_eq] at h
      obtain ⟨⟨⟨⟨⟨h1, h2⟩, h3⟩, h4⟩, h5⟩, h6⟩ := h
      exact sMe h1 h2 h3 h4 (ckEs_plain h6) (ckEs_nil h6) (sE C P o _ h5) (sA C P ps _ h6)
    · cases h
  | .lst ps, a, h => by
    simp only [ckE] at h
    split at h
    · exact sLst (sA C P ps _ h)
    · cases h
  | .tup ps, a, h => by
    simp only [ckE] at h
    split at h
    · exact sTup (sA C P ps _ h)
    · cases h
theorem sA (C : Cok X k T R W N sc) (P : PG X.prog X.w X.K X.mg X.base T R k cf gl G) : ∀ (ps : List E) (xs : List Expr), ckEs N sc G ps xs = true → PA X xs (LA X T W (evs ⟨cf, gl⟩ ps))
  | [], [], _ => aNil
  | [], _ :: _, h => by simp [ckEs] at h
  | _ :: _, [], h => by simp [ckEs] at h
  | p :: ps, x :: xs, h => by
    simp only [ckEs, Bool.and_eq_true] at h
    exact aCons h.1.1 (sE C P p _ h.1.2) (sA C P ps _ h.2)
theorem sO (C : Cok X k T R W N sc) (P : PG X.prog X.w X.K X.mg X.base T R k cf gl G) : ∀ (p : Option E) (x : Option Expr), ckO N sc G p x = true → L2.PO X x (LO X T W (evO ⟨cf, gl⟩ p))
  | none, none, _ => ⟨fun pins s σ H Q I h => po_none.run pins s σ H Q I (by
      obtain ⟨S, io, env, rel, er, post⟩ := h
      exact Post.val (R := fun _ _ _ a b => b = a) rel post rfl)⟩
  | none, some _, h => by simp [ckO] at h
  | some _, none, h => by simp [ckO] at h
  | some p, some x, h => by
    simp only [ckO] at h
    refine ⟨fun pins s σ H Q I hh => (po_some (sE C P p x h)).run pins s σ H Q I ?_⟩
    obtain ⟨S, io, env, rel, er, post⟩ := hh
    simp only [evO] at post
    refine Post.head rel er post fun S io H p v rel er rp post => ?_
    split at post
    · cases rp
      exact ⟨_, rfl, Post.val (R := fun _ _ _ a b => b = a) rel post rfl⟩
    · exact post.elim
theorem sT (C : Cok X k T R W N sc) (P : PG X.prog X.w X.K X.mg X.base T R k cf gl G) : ∀ (t : TM.T) (a : Expr), ckT N sc G t a = true → PT X a (LT X T W (evT ⟨cf, gl⟩ t))
  | .e e, a, h => by
    simp only [ckT, Bool.or_eq_true, Bool.and_eq_true] at h
    rcases h with h | h
    · exact tTru h.1 (sE C P e a h.2)
    · split at h
      · rename_i o p q
        simp only [ckE] at h
        split at h
        · simp only [Bool.and_eq_true, decide_eq_true_eq] at h
          rw [h.1.1.1]
          exact tCmp C h.1.1.2 (sE C P p _ h.1.2) (sE C P q _ h.2)
        · cases h
      · rename_i o o2 p q r
        simp only [ckE] at h
        split at h
        · simp only [Bool.and_eq_true, decide_eq_true_eq] at h
          rw [h.1.1.1.1.1, h.1.1.1.1.2]
          exact tChain' C h.1.1.1.2 (sE C P p _ h.1.1.2) (sE C P q _ h.1.2) (sE C P r _ h.2)
        · cases h
      · cases h
  | .and p q, a, h => by
    simp only [ckT] at h
    split at h
    · simp only [Bool.and_eq_true] at h
      exact PT.imp (PW.pt (pw_and (sT C P p _ h.1) (pw_and1 (sT C P q _ h.2)))) fun σ H Q h => iTAnd h
    · simp only [Bool.and_eq_true] at h
      exact PT.imp (PW.pt (pw_and (sT C P p _ h.1) (sW C P q _ _ _ h.2))) fun σ H Q h => iTAnd h
    · cases h
  | .or p q, a, h => by
    simp only [ckT] at h
    split at h
    · simp only [Bool.and_eq_true] at h
      exact PT.imp (PW.pt (pw_or (sT C P p _ h.1) (pw_or1 (sT C P q _ h.2)))) fun σ H Q h => iTOr h
    · simp only [Bool.and_eq_true] at h
      exact PT.imp (PW.pt (pw_or (sT C P p _ h.1) (sW C P q _ _ _ h.2))) fun σ H Q h => iTOr h
    · cases h
  | .not t, a, h => by
    simp only [ckT] at h
    split at h
    · exact tNotT' (sT C P t _ h)
    · cases h
theorem sW (C : Cok X k T R W N sc) (P : PG X.prog X.w X.K X.mg X.base T R k cf gl G) : ∀ (t : TM.T) (op : PySem.BoolOp) (vs : List Expr) (pos : Pos), ckT N sc G t (.BoolOp op vs pos) = true → PW X (.BoolOp op vs pos) (LT X T W (evT ⟨cf, gl⟩ t))
  | .e e, op, vs, pos, h => by
    simp only [ckT, tstE, Bool.false_and, Bool.false_or] at h
    split at h
    · simp [ckE] at h
    · simp [ckE] at h
    · cases h
  | .and p q, op, vs, pos, h => by
    simp only [ckT] at h
    split at h
    · rename_i e
      cases e
      simp only [Bool.and_eq_true] at h
      exact PW.imp (pw_and (sT C P p _ h.1) (pw_and1 (sT C P q _ h.2))) fun σ H Q h => iTAnd h
    · rename_i e
      cases e
      simp only [Bool.and_eq_true] at h
      exact PW.imp (pw_and (sT C P p _ h.1) (sW C P q _ _ _ h.2)) fun σ H Q h => iTAnd h
    · cases h
  | .or p q, op, vs, pos, h => by
    simp only [ckT] at h
    split at h
    · rename_i e
      cases e
      simp only [Bool.and_eq_true] at h
      exact PW.imp (pw_or (sT C P p _ h.1) (pw_or1 (sT C P q _ h.2))) fun σ H Q h => iTOr h
    · rename_i e
      cases e
      simp only [Bool.and_eq_true] at h
      exact PW.imp (pw_or (sT C P p _ h.1) (sW C P q _ _ _ h.2)) fun σ H Q h => iTOr h
    · cases h
  | .not t, op, vs, pos, h => by simp [ckT] at h
end
end
end TM

/-! TM, part I: statements. -/
namespace TM
open PySem PySem.Spec PyProof.Rows L2
mutual
def ckP (N : List Str) (sc : Scope) : Pat → Expr → Bool
  | .nm i, a => match a with
    | .Name x _ => slotB N x i && locB sc x
    | _ => false
  | .tup ps, a => match a with
    | .Tuple es _ _ => ckPs N sc ps es
    | _ => false
def ckPs (N : List Str) (sc : Scope) : List Pat → List Expr → Bool
  | [], es => match es with
    | [] => true
    | _ => false
  | p :: ps, es => match es with
    | e :: es => ckP N sc p e && ckPs N sc ps es
    | [] => false
end
def notTup : Expr → Bool
  | .Tuple .. => false
  | .List .. => false
  | _ => true
def ckI (N : List Str) (sc : Scope) (G : GT) : It → Expr → Bool
  | .e e, a => ckE N sc G e a && plainE a
  | .rng1 e, a => match a with
    | .Call (.Name x _) [y] [] _ => glbB sc x && gvB G x .blt && decide (x = "range") && plainE y && ckE N sc G e y
    | _ => false
  | .rng2 e f, a => match a with
    | .Call (.Name x _) [y, z] [] _ => glbB sc x && gvB G x .blt && decide (x = "range") && plainE y && plainE z && ckE N sc G e y && ckE N sc G f z
    | _ => false
mutual
def ckS (N : List Str) (sc : Scope) (G : GT) : TM.S → Stmt → Bool
  | .never, _ => true
  | .pass, a => match a with
    | .Pass _ => true
    | _ => false
  | .brk, a => match a with
    | .Break _ => true
    | _ => false
  | .cnt, a => match a with
    | .Continue _ => true
    | _ => false
  | .set p e, a => match a with
    | .Assign [t] v _ => noComp v && (notTup t || notTup v) && ckP N sc p t && ckE N sc G e v
    | _ => false
  | .seti o i e, a => match a with
    | .Assign [.Subscript x y _] v _ => noComp v && plainE y && ckE N sc G o x && ckE N sc G i y && ckE N sc G e v
    | _ => false
  | .aug i o e, a => match a with
    | .AugAssign (.Name x _) op v _ => decide (op = toOp o) && slotB N x i && locB sc x && ckE N sc G e v
    | _ => false
  | .expr e, a => match a with
    | .Expr v _ => noComp v && ckE N sc G e v
    | _ => false
  | .ret e, a => match a with
    | .Return (some v) _ => ckE N sc G e v
    | _ => false
  | .retn, a => match a with
    | .Return none _ => true
    | _ => false
  | .ite t p q, a => match a with
    | .If c x y _ => ckT N sc G t c && ckB N sc G p x && ckB N sc G q y
    | _ => false
  | .whl t p, a => match a with
    | .While c x [] _ => ckT N sc G t c && ckB N sc G p x
    | _ => false
  | .for p it b, a => match a with
    | .For t i x [] _ => ckP N sc p t && ckI N sc G it i && ckB N sc G b x
    | _ => false
def ckB (N : List Str) (sc : Scope) (G : GT) : List TM.S → List Stmt → Bool
  | [], as => match as with
    | [] => true
    | _ => false
  | s :: ss, as => match as with
    | a :: as => ckS N sc G s a && ckB N sc G ss as
    | [] => false
end
section
variable {X : Cx} {k : Nat} {T : List Addr} {R : PXT} {W : Wish} {N : List Str} {sc : Scope} {cf : Nat → List PV → Sto → Res PV} {gl : Nat → PV} {G : GT}
/-! ### targets -/
def gL (K : PySem.W.Frag) (T : List Addr) (m : PV → Env → Option Env) : TG := fun v σ H Q =>
  ∃ S io env p env', Rel K T S io H ∧ EnvR K S.length io H env σ ∧ Rep K S.length io H p v ∧ m p env = some env' ∧ ∀ σ' : L2.St, EnvR K S.length io H env' σ' → Q σ' H
def gLs (K : PySem.W.Frag) (T : List Addr) (m : List PV → Env → Option Env) : TGs := fun vs σ H Q =>
  ∃ S io env ps env', Rel K T S io H ∧ EnvR K S.length io H env σ ∧ Reps K S.length io H ps vs ∧ m ps env = some env' ∧ ∀ σ' : L2.St, EnvR K S.length io H env' σ' → Q σ' H
theorem PG.imp {X : Cx} {a : Expr} {t t' : TG} (h : L2.PG X a t) (i : ∀ v s H Q, t' v s H Q → t v s H Q) : L2.PG X a t' := ⟨fun pins s σ H v u Q I r q => h.run pins s σ H v u Q I r (i _ _ _ _ q)⟩
theorem PGs.imp {X : Cx} {a : List Expr} {t t' : TGs} (h : PGs X a t) (i : ∀ v s H Q, t' v s H Q → t v s H Q) : PGs X a t' := ⟨fun pins s σ H v u Q I r q => h.run pins s σ H v u Q I r (i _ _ _ _ q)⟩
theorem tgt_cons {e : Expr} {es : List Expr} {env : PySem.Env} {p : Pat} (h : ckP N sc p e = true) : (assignEach (e :: es) env).map (·.2) = assign e env :: (assignEach es env).map (·.2) ∧ (assignEach (e :: es) env).length = (assignEach es env).length + 1 ∧
    ((assignEach es env).findIdx? (·.1) = none → (assignEach (e :: es) env).findIdx? (·.1) = none) := by
  have key : assignEach (e :: es) env = (false, assign e env) :: assignEach es env := by
    cases e <;> first | rfl | (cases p <;> simp [ckP] at h)
  rw [key]
  refine ⟨rfl, rfl, fun hn => ?_⟩
  rw [List.findIdx?_cons]
  simp [hn]
theorem tgt_all {env : PySem.Env} : ∀ {ps : List Pat} {es : List Expr}, ckPs N sc ps es = true → (assignEach es env).length = ps.length ∧ (assignEach es env).findIdx? (·.1) = none
  | [], [], _ => ⟨rfl, rfl⟩
  | [], _ :: _, h => by simp [ckPs] at h
  | _ :: _, [], h => by simp [ckPs] at h
  | p :: ps, e :: es, h => by
    simp only [ckPs, Bool.and_eq_true] at h
    obtain ⟨h1, h2⟩ := tgt_all (env := env) h.2
    obtain ⟨h3, h4, h5⟩ := tgt_cons (es := es) (env := env) h.1
    exact ⟨by rw [h4, h1]; rfl, h5 h2⟩
theorem bindPs_len : ∀ {ps : List Pat} {xs : List PV} {env env' : Env}, bindPs ps xs env = some env' → xs.length = ps.length
  | [], [], _, _, _ => rfl
  | [], _ :: _, _, _, h => by simp [bindPs] at h
  | _ :: _, [], _, _, h => by simp [bindPs] at h
  | p :: ps, x :: xs, env, env', h => by
    simp only [bindPs] at h
    split at h
    · simp [bindPs_len h]
    · cases h
mutual
theorem sP (C : Cok X k T R W N sc) : ∀ (p : Pat) (a : Expr), ckP N sc p a = true → L2.PG X a (gL X.K T (bindP p))
  | .nm i, a, h => by
    simp only [ckP] at h
    split at h
    · simp only [Bool.and_eq_true] at h
      refine PG.imp (pg_name (by rw [C.hN]; exact C.nd) (slot_of C h.1) (by rw [C.hsc]; exact loc_of h.2) (by rw [C.hsc]; exact C.fnl _)) fun v σ H Q hq => ?_
      obtain ⟨S, io, env, p, env', rel, er, rp, hb, q⟩ := hq
      simp only [bindP] at hb
      split at hb
      · cases hb
        exact q _ (er.set rp)
      · cases hb
    · cases h
  | .tup ps, a, h => by
    simp only [ckP] at h
    split at h
    · rename_i es k2 p2
      obtain ⟨h1, h2⟩ := tgt_all (env := X.env) h
      refine PG.imp (pg_tup C.calm (sPs C ps es h) h1 h2) fun v σ H Q hq => ?_
      obtain ⟨S, io, env, p, env', rel, er, rp, hb, q⟩ := hq
      simp only [bindP] at hb
      split at hb
      · rename_i xs
        obtain ⟨a, vs, rfl, h3, h4⟩ := rp
        exact ⟨a, vs, rfl, h3, by rw [h4.length]; exact bindPs_len hb, S, io, env, xs, env', rel, er, h4, hb, q⟩
      · cases hb
    · cases h
theorem sPs (C : Cok X k T R W N sc) : ∀ (ps : List Pat) (es : List Expr), ckPs N sc ps es = true → PGs X es (gLs X.K T (bindPs ps))
  | [], [], _ => PGs.imp pgs_nil fun vs σ H Q hq => by
      obtain ⟨S, io, env, ps, env', rel, er, rp, hb, q⟩ := hq
      cases ps with
      | nil =>
        cases hb
        exact ⟨rp, q σ er⟩
      | cons _ _ => simp [bindPs] at hb
  | [], _ :: _, h => by simp [ckPs] at h
  | _ :: _, [], h => by simp [ckPs] at h
  | p :: ps, e :: es, h => by
    simp only [ckPs, Bool.and_eq_true] at h
    refine PGs.imp (pgs_cons (sP C p e h.1) (sPs C ps es h.2) (tgt_cons h.1).1) fun vs σ H Q hq => ?_
    obtain ⟨S, io, env, qs, env', rel, er, rp, hb, q⟩ := hq
    cases qs with
    | nil => simp [bindPs] at hb
    | cons x xs =>
      obtain ⟨y, ys, rfl, h1, h2⟩ := rp
      simp only [bindPs] at hb
      split at hb
      · rename_i env1 e1
        exact ⟨y, ys, rfl, S, io, env, x, env1, rel, er, h1, e1, fun σ1 er1 => ⟨S, io, env1, xs, env', rel, er1, h2, hb, q⟩⟩
      · cases hb
end
/-! ### what is walked -/
def JR (K : PySem.W.Frag) (n : Nat) (io : Nat → Addr) (H : Hp) : Wk → L2.It → Prop
  | .obj i, J => i < n ∧ J = Itl K (io i)
  | .seq xs, J => (∃ a vs, J = Itt K a ∧ SqT K H a vs ∧ Reps K n io H xs vs) ∨ (∃ cs : List Nat, J = Its (mkS cs) ∧ xs = cs.map fun c => .str [c])
  | .rng lo m, J => J = Itr lo m
theorem JR.mono {K : PySem.W.Frag} {n n' : Nat} {io io' : Nat → Addr} {H H' : Hp} {w : Wk} {J : L2.It} (e : Ex n io H io' H') (l : n ≤ n') (h : JR K n io H w J) : JR K n' io' H' w J := by
  cases w with
  | obj i => exact ⟨Nat.lt_of_lt_of_le h.1 l, by rw [e.io i h.1]; exact h.2⟩
  | seq xs =>
    rcases h with ⟨a, vs, h1, h2, h3⟩ | h
    · exact .inl ⟨a, vs, h1, e.sqT h2, h3.mono e l⟩
    · exact .inr h
  | rng lo m => exact h
theorem PI.imp {X : Cx} {tg a : Expr} {t t' : TI} (h : PI X tg a t) (i : ∀ s H Q, t' s H Q → t s H Q) : PI X tg a t' := ⟨fun pins s σ H Q I q => h.run pins s σ H Q I (i _ _ _ q)⟩
theorem pi_any {tg e : Expr} {te : TE} (he : PE X e te) : PI X tg e (fun σ H Q => te σ H fun x H1 => (∃ a, x = .ref a ∧ (∃ xs, SqL X.K H1 a xs) ∧ Q (Itl X.K a) H1) ∨ (∃ a, x = .ref a ∧ (∃ xs, SqT X.K H1 a xs) ∧ Q (Itt X.K a) H1) ∨ (∃ z, x = .str z ∧ Q (Its z) H1)) := by
  refine ⟨fun pins s σ H R I h => ?_⟩
  refine thn (he.run pins s σ H _ I h) fun v s1 ⟨x, H1, I1, r1, q1⟩ => ?_
  rcases q1 with ⟨a, e, ⟨xs, hq⟩, q⟩ | ⟨a, e, ⟨xs, hq⟩, q⟩ | ⟨z, e, q⟩
  · subst e
    cases r1
    obtain ⟨its, rv, p, hz⟩ := I1.list hq
    refine wpAny_pyIter_list p.isList ?_
    refine ⟨s1.heap.objs.size, [s1.heap.objs.size], _, _, H1, rfl, I1.kept (t' := s1.toks) fun b o e => Heap.get?_push_of_some _ e, turn_list a _, ⟨_, Heap.get?_push_size _ rfl, rfl, rfl⟩, fun b hb => ?_, q⟩
    have e : b = s1.heap.objs.size := by simpa using hb
    subst e
    exact I1.fpOk (Nat.le_refl _) (I1.hok.fresh (Nat.le_refl _))
  · subst e
    cases r1
    obtain ⟨its, rv, p, hz⟩ := I1.tuple hq
    refine wpAny_pyIter_tuple (show s1.heap.IsTuple a its.toArray from p) ?_
    refine ⟨s1.heap.objs.size, [s1.heap.objs.size], _, _, H1, rfl, I1.kept (t' := s1.toks) fun b o e => Heap.get?_push_of_some _ e, turn_tuple a _, ⟨_, Heap.get?_push_size _ rfl, rfl, rfl⟩, fun b hb => ?_, q⟩
    have e : b = s1.heap.objs.size := by simpa using hb
    subst e
    exact I1.fpOk (Nat.le_refl _) (I1.hok.fresh (Nat.le_refl _))
  · subst e
    obtain ⟨t, rfl⟩ := r1
    cases ha : z.cps.all (· < 128)
    · exact wpAny_pyIter_wide ha (pi_one (tk := s1.toks) I1 _ (turn_str _ z t "str_iterator" (.inr rfl)) ⟨_, Heap.get?_push_size _ rfl, rfl, rfl⟩ q)
    · exact wpAny_pyIter_ascii ha (pi_one (tk := s1.toks) I1 _ (turn_str _ z t "str_ascii_iterator" (.inl rfl)) ⟨_, Heap.get?_push_size _ rfl, rfl, rfl⟩ q)
abbrev LI (X : Cx) (T : List Addr) (W : Wish) (m : Env → Sto → Res Wk) : TI := lift X.K T W (JR X.K) m
theorem sIE {tg a : Expr} {e : E} {c : Ctx} (he : PE X a (LE X T W (ev c e))) : PI X tg a (LI X T W (evI c (.e e))) := by
  refine PI.imp (pi_any he) fun σ H Q h => ?_
  obtain ⟨S, io, env, rel, er, post⟩ := h
  simp only [evI] at post
  refine Post.head rel er post fun S io H p v rel er rp post => ?_
  split at post
  · rename_i xs
    obtain ⟨a, vs, rfl, h1, h2⟩ := rp
    exact .inr (.inl ⟨a, rfl, ⟨vs, h1⟩, post io H _ .refl (Nat.le_refl _) rel (.inl ⟨a, vs, rfl, h1, h2⟩)⟩)
  · rename_i i
    obtain ⟨hi, rfl⟩ := rp
    split at post
    · rename_i xs e
      obtain ⟨vs, h1, h2⟩ := rel.sq e
      exact .inl ⟨_, rfl, ⟨vs, h1⟩, post io H _ .refl (Nat.le_refl _) rel ⟨hi, rfl⟩⟩
    · exact post.elim
  · rename_i cs
    cases rp
    exact .inr (.inr ⟨_, rfl, post io H _ .refl (Nat.le_refl _) rel (.inr ⟨cs, rfl, rfl⟩)⟩)
  · exact post.elim
theorem sI (C : Cok X k T R W N sc) (P : PG X.prog X.w X.K X.mg X.base T R k cf gl G) {tg a : Expr} {it : TM.It} (h : ckI N sc G it a = true) : PI X tg a (LI X T W (evI ⟨cf, gl⟩ it)) := by
  cases it with
  | e e =>
    simp only [ckI, Bool.and_eq_true] at h
    exact sIE (sE C P e a h.1)
  | rng1 e =>
    simp only [ckI] at h
    split at h
    · simp only [Bool.and_eq_true, decide_eq_true_eq] at h
      obtain ⟨⟨⟨⟨h1, h2⟩, rfl⟩, h4⟩, h5⟩ := h
      refine PI.imp (pi_range1 (glb_of C h1) (P.blt _ h2) (pa_cons (sE C P e _ h5) pa_nil (star_cons h4)) (star_cons h4)) fun σ H Q h => ?_
      obtain ⟨S, io, env, rel, er, post⟩ := h
      simp only [evI] at post
      refine Post.head rel er post fun S io H p v rel er rp post => ?_
      split at post
      · split at post
        · rename_i hb
          simp only [Bool.and_eq_true, decide_eq_true_eq] at hb
          unfold P62 at hb
          cases rp
          exact ⟨_, rfl, by omega, by omega, post io H _ .refl (Nat.le_refl _) rel rfl⟩
        · exact post.elim
      · exact post.elim
    · cases h
  | rng2 e f =>
    simp only [ckI] at h
    split at h
    · simp only [Bool.and_eq_true, decide_eq_true_eq] at h
      obtain ⟨⟨⟨⟨⟨⟨h1, h2⟩, rfl⟩, h4⟩, h5⟩, h6⟩, h7⟩ := h
      refine PI.imp (pi_range2 (glb_of C h1) (P.blt _ h2) (pa_cons (sE C P e _ h6) (pa_cons (sE C P f _ h7) pa_nil (star_cons h5)) (star_cons h4)) (by rw [star_cons h4, star_cons h5]; rfl) (star_cons h5)) fun σ H Q h => ?_
      obtain ⟨S, io, env, rel, er, post⟩ := h
      simp only [evI] at post
      refine Post.head rel er post fun S io H p v rel er rp post => ?_
      refine ⟨S, io, env, rel, er, post.bind fun q S2 io2 H2 w ex2 l2 rel2 rq post2 => ?_⟩
      split at post2
      · split at post2
        · rename_i hb
          simp only [Bool.and_eq_true, decide_eq_true_eq] at hb
          unfold P62 at hb
          cases rp; cases rq
          exact ⟨_, _, rfl, by omega, post2 io2 H2 _ .refl (Nat.le_refl _) rel2 rfl⟩
        · exact post2.elim
      · exact post2.elim
    · cases h
end
end TM

/-! TM, part J: statements are sound. -/
namespace TM
open PySem PySem.Spec PyProof.Rows L2
def PostS (K : PySem.W.Frag) (T : List Addr) (W : Wish) (D : Ends) (S : Sto) (io : Nat → Addr) (H : Hp) : Out → Prop
  | .nx env S' => ∀ io' H' (σ' : L2.St), Ex S.length io H io' H' → S.length ≤ S'.length → Rel K T S' io' H' → EnvR K S'.length io' H' env σ' → D.nx σ' H'
  | .brk env S' => ∀ io' H' (σ' : L2.St), Ex S.length io H io' H' → S.length ≤ S'.length → Rel K T S' io' H' → EnvR K S'.length io' H' env σ' → D.bk σ' H'
  | .cnt env S' => ∀ io' H' (σ' : L2.St), Ex S.length io H io' H' → S.length ≤ S'.length → Rel K T S' io' H' → EnvR K S'.length io' H' env σ' → D.ct σ' H'
  | .ret p S' => ∀ io' H' v, Ex S.length io H io' H' → S.length ≤ S'.length → Rel K T S' io' H' → Rep K S'.length io' H' p v → D.rt v H'
  | .exc x S' => ∀ io' H', Ex S.length io H io' H' → S.length ≤ S'.length → Rel K T S' io' H' → W x S' io' H'
  | .bad => False
theorem PostS.start {K : PySem.W.Frag} {T : List Addr} {W : Wish} {D : Ends} {S S1 : Sto} {io io1 : Nat → Addr} {H H1 : Hp} {r : Out} (e : Ex S.length io H io1 H1) (l : S.length ≤ S1.length) (h : PostS K T W D S io H r) : PostS K T W D S1 io1 H1 r := by
  cases r with
  | nx env S' => exact fun io' H' σ' e' l' => h io' H' σ' (e.trans l e') (Nat.le_trans l l')
  | brk env S' => exact fun io' H' σ' e' l' => h io' H' σ' (e.trans l e') (Nat.le_trans l l')
  | cnt env S' => exact fun io' H' σ' e' l' => h io' H' σ' (e.trans l e') (Nat.le_trans l l')
  | ret p S' => exact fun io' H' v e' l' => h io' H' v (e.trans l e') (Nat.le_trans l l')
  | exc x S' => exact fun io' H' e' l' => h io' H' (e.trans l e') (Nat.le_trans l l')
  | bad => exact h
/-- the value's computation, then what follows -/
theorem PostS.out {a b : Type} {K : PySem.W.Frag} {T : List Addr} {W : Wish} {R1 : Nat → (Nat → Addr) → Hp → a → b → Prop} {D : Ends} {S : Sto} {io : Nat → Addr} {H : Hp} {N : b → Hp → Prop} {r : Res a} {f : a → Sto → Out}
    (h : PostS K T W D S io H (r.out f)) (k : ∀ p S1 io1 H1 v, Ex S.length io H io1 H1 → S.length ≤ S1.length → Rel K T S1 io1 H1 → R1 S1.length io1 H1 p v → PostS K T W D S1 io1 H1 (f p S1) → N v H1) : Post K T W R1 S io H N r := by
  cases r with
  | ok p S1 => exact fun io1 H1 v e l rel rp => k p S1 io1 H1 v e l rel rp (PostS.start e l h)
  | exc x S1 => exact h
  | bad => exact h
def LS (K : PySem.W.Frag) (T : List Addr) (W : Wish) (m : Env → Sto → Out) : TS := fun D σ H => ∃ S io env, Rel K T S io H ∧ EnvR K S.length io H env σ ∧ PostS K T W D S io H (m env S)
theorem PS.imp {X : Cx} {a : Stmt} {t t' : TS} (h : L2.PS X a t) (i : ∀ D s H, t' D s H → t D s H) : L2.PS X a t' := ⟨fun pins s σ H D I q => h.run pins s σ H D I (i _ _ _ q)⟩
theorem PSs.imp {X : Cx} {a : List Stmt} {t t' : TS} (h : L2.PSs X a t) (i : ∀ D s H, t' D s H → t D s H) : L2.PSs X a t' := ⟨fun pins s σ H D I q => h.run pins s σ H D I (i _ _ _ q)⟩
section
variable {X : Cx} {k : Nat} {T : List Addr} {R : PXT} {W : Wish} {N : List Str} {sc : Scope} {cf : Nat → List PV → Sto → Res PV} {gl : Nat → PV} {G : GT}
/-- the head of a statement -/
theorem PostS.head {a b : Type} {K : PySem.W.Frag} {R1 : Nat → (Nat → Addr) → Hp → a → b → Prop} {D : Ends} {m1 : Env → Sto → Res a} {f : a → Sto → Out} {σ : L2.St} {S : Sto} {io : Nat → Addr} {H : Hp} {env : Env} {N : b → Hp → Prop}
    (rel : Rel K T S io H) (er : EnvR K S.length io H env σ) (post : PostS K T W D S io H ((m1 env S).out f))
    (k : ∀ S io H p v, Rel K T S io H → EnvR K S.length io H env σ → R1 S.length io H p v → PostS K T W D S io H (f p S) → N v H) : lift K T W R1 m1 σ H N :=
  ⟨S, io, env, rel, er, post.out fun p S1 io1 H1 v e1 l1 rel1 rp post1 => k S1 io1 H1 p v rel1 (er.mono e1 l1) rp post1⟩
theorem sole_swap {t v : Expr} {l : Nat} {env : PySem.Env} (h : noComp v = true) : swapsWithSole [t] v l env = pure false := noComp_swap h
theorem sole_stores {t v : Expr} {env : PySem.Env} (h : (notTup t || notTup v) = true) : swappedStores [t] v env = pure none := by
  cases t <;> first | rfl | (cases v <;> first | rfl | cases h)
theorem sole_each {t : Expr} {env : PySem.Env} {p : Pat} (h : ckP N sc p t = true) : (assignEach [t] env).map (·.2) = [assign t env] := by
  rw [(tgt_cons h).1]
  rfl
theorem iSet {p : Pat} {e : E} {c : Ctx} {D : Ends} {σ : L2.St} {H : Hp} (h : LS X.K T W (evS c (.set p e)) D σ H) : tAsg (LE X T W (ev c e)) (gL X.K T (bindP p)) D σ H := by
  obtain ⟨S, io, env, rel, er, post⟩ := h
  simp only [evS] at post
  refine PostS.head rel er post fun S io H x v rel er rp post => ?_
  split at post
  · rename_i env' e
    exact ⟨S, io, env, x, env', rel, er, rp, e, fun σ' er' => post io H σ' .refl (Nat.le_refl _) rel er'⟩
  · exact post.elim
theorem sub_assign {x y : Expr} {pos : Pos} {env : PySem.Env} (h : plainE y = true) : ∀ v, assign (.Subscript x y pos) env v = (do
      let ov ← holding [v] (eval x env)
      let iv ← holding [v, ov] (eval y env)
      standAt pos
      holding [v, ov, iv] (setItem ov iv v)
      release [v, ov, iv] []) := by
  intro v
  cases y <;> first | rfl | cases h
theorem iSeti {o i e : E} {c : Ctx} {D : Ends} {σ : L2.St} {H : Hp} (h : LS X.K T W (evS c (.seti o i e)) D σ H) : tAsg (LE X T W (ev c e)) (gSub (LE X T W (ev c o)) (LE X T W (ev c i)) rSetL) D σ H := by
  obtain ⟨S, io, env, rel, er, post⟩ := h
  simp only [evS] at post
  refine PostS.head rel er post fun S io H x v rel er rp post => ?_
  refine ⟨S, io, env, rel, er, post.out fun p S1 io1 H1 w ex1 l1 rel1 rq post1 => ?_⟩
  refine ⟨S1, io1, env, rel1, er.mono ex1 l1, post1.out fun q S2 io2 H2 u ex2 l2 rel2 rs post2 => ?_⟩
  have rp2 := (rp.mono ex1 l1).mono ex2 l2
  have rq2 := rq.mono ex2 l2
  have er2 := (er.mono ex1 l1).mono ex2 l2
  split at post2
  · rename_i a kk
    obtain ⟨_, rfl⟩ := rq2
    cases rs
    split at post2
    · rename_i xs e1
      split at post2
      · rename_i j e2
        obtain ⟨vs, h1, h2⟩ := rel2.lst e1
        obtain ⟨rel3, ex3⟩ := rel2.put (o := .lst (vs.set j v)) (q := .lst (xs.set j x)) e1 rfl rfl fun ex => ⟨_, upd_same, (h2.set rp2 j).mono ex (Nat.le_refl _)⟩
        refine ⟨_, vs, kk, j, rfl, rfl, h1, by rw [h2.length]; exact e2, post2 io2 _ σ ex3 (by simp) rel3 ?_⟩
        rw [List.length_set]
        exact er2.mono ex3 (Nat.le_refl _)
      · exact post2.elim
    · exact post2.elim
  · exact post2.elim
/-- x op= y by pure values -/
theorem aug_ok (o : Op2) : PIp X (toOp o) (fun x y H Q => ∃ S io p q z, Rel X.K T S io H ∧ Rep X.K S.length io H p x ∧ Rep X.K S.length io H q y ∧ augV o p q = some z ∧ ∀ v, Rep X.K S.length io H z v → Q v H) := by
  intro pins s σ H x y v u Q I rx ry h
  obtain ⟨S, io, p, q, z, rel, hp, hq, e, k⟩ := h
  unfold augV at e
  split at e
  · cases hp; cases hq; cases e
    exact iop_add pins s σ H _ _ v u Q I rx ry ⟨_, _, rfl, rfl, k _ rfl⟩
  · cases hp; cases hq; cases e
    exact iop_sub pins s σ H _ _ v u Q I rx ry ⟨_, _, rfl, rfl, k _ rfl⟩
  · cases hp; cases hq
    split at e
    · rename_i hm
      cases e
      exact iop_mul pins s σ H _ _ v u Q I rx ry ⟨_, _, rfl, rfl, mul_ok hm, k _ rfl⟩
    · cases e
  · cases hp; cases hq
    split at e
    · rename_i hl
      cases e
      refine iop_add_str pins s σ H _ _ v u Q I rx ry ⟨_, _, rfl, rfl, by rw [mkS_len, mkS_len, line_eq]; exact hl, ?_⟩
      rw [mkS_app]
      exact k _ rfl
    · cases e
  · cases e
theorem iAug {i : Nat} {o : Op2} {e : E} {c : Ctx} {D : Ends} {σ : L2.St} {H : Hp} (h : LS X.K T W (evS c (.aug i o e)) D σ H) :
    tAug i (LE X T W (ev c e)) (fun x y H Q => ∃ S io p q z, Rel X.K T S io H ∧ Rep X.K S.length io H p x ∧ Rep X.K S.length io H q y ∧ augV o p q = some z ∧ ∀ v, Rep X.K S.length io H z v → Q v H) D σ H := by
  obtain ⟨S, io, env, rel, er, post⟩ := h
  simp only [evS] at post
  split at post
  · rename_i p e1
    obtain ⟨x, h1, h2⟩ := er.2 i p e1
    refine ⟨x, h1, S, io, env, rel, er, post.out fun q S1 io1 H1 w ex1 l1 rel1 rq post1 => ?_⟩
    split at post1
    · rename_i z e2
      refine ⟨S1, io1, p, q, z, rel1, h2.mono ex1 l1, rq, e2, fun v rv => ?_⟩
      exact post1 io1 H1 _ .refl (Nat.le_refl _) rel1 ((er.mono ex1 l1).set rv)
    · exact post1.elim
  · exact post.elim
theorem iWhile {t : TM.T} {b : List TM.S} {c : Ctx} {D : Ends} {σ : L2.St} {H : Hp} (h : LS X.K T W (evS c (.whl t b)) D σ H) : tWhile (LT X T W (evT c t)) (LS X.K T W (evB c b)) D σ H := by
  obtain ⟨S, io, env, rel, er, post⟩ := h
  simp only [evS] at post
  refine ⟨fun m σ H => ∃ S io env, Rel X.K T S io H ∧ EnvR X.K S.length io H env σ ∧ PostS X.K T W D S io H (whlN (evT c t) (evB c b) m env S), ⟨FU, S, io, env, rel, er, post⟩, fun m σ H hW => ?_⟩
  clear post rel er
  obtain ⟨S, io, env, rel, er, post⟩ := hW
  cases m with
  | zero => exact post.elim
  | succ m =>
    simp only [whlN] at post
    refine PostS.head rel er post fun S io H b' v rel er rp post => ?_
    have rp : v = b' := rp
    subst rp
    cases v with
    | false =>
      refine iteF ?_
      simp only [Bool.false_eq_true, if_false] at post
      exact post io H σ .refl (Nat.le_refl _) rel er
    | true =>
      refine iteT ?_
      simp only [if_true] at post
      refine ⟨fun σ' H' => ∃ S io env, Rel X.K T S io H' ∧ EnvR X.K S.length io H' env σ' ∧ PostS X.K T W D S io H' (whlN (evT c t) (evB c b) m env S), fun σ' H' hN => ⟨m, Nat.lt_succ_self m, hN⟩, S, io, env, rel, er, ?_⟩
      cases e1 : evB c b env S with
      | nx env' S' =>
        rw [e1] at post
        exact fun io' H' σ' ex l rel' er' => ⟨S', io', env', rel', er', post.start ex l⟩
      | cnt env' S' =>
        rw [e1] at post
        exact fun io' H' σ' ex l rel' er' => ⟨S', io', env', rel', er', post.start ex l⟩
      | brk env' S' =>
        rw [e1] at post
        exact post
      | ret p S' =>
        rw [e1] at post
        exact post
      | exc x S' =>
        rw [e1] at post
        exact post
      | bad =>
        rw [e1] at post
        exact post
/-- a turn of what is walked -/
theorem walk_turn {w : Wk} {S : Sto} {io : Nat → Addr} {H : Hp} {i : Nat} {J : L2.It} (rel : Rel X.K T S io H) (hj : JR X.K S.length io H w J) :
    (w.at i S = some none → J.stop i H) ∧ ∀ x, w.at i S = some (some x) → J.go i H ∧ ∀ v H', J.yld i H v H' → H' = H ∧ Rep X.K S.length io H x v := by
  cases w with
  | obj j =>
    obtain ⟨hl, rfl⟩ := hj
    simp only [Wk.at]
    split
    · rename_i xs e
      obtain ⟨vs, h1, h2⟩ := rel.sq e
      refine ⟨fun hh => ?_, fun x hx => ?_⟩
      · refine ⟨vs, h1, ?_⟩
        have := List.getElem?_eq_none_iff.mp (Option.some.inj hh)
        rw [h2.length]; exact this
      · obtain ⟨v, h3, h4⟩ := h2.get (Option.some.inj hx)
        refine ⟨⟨vs, v, h1, h3⟩, fun v' H' hy => ?_⟩
        obtain ⟨rfl, hy⟩ := hy
        have := hy vs h1
        rw [h3] at this
        cases this
        exact ⟨rfl, h4⟩
    · exact ⟨fun hh => by simp at hh, fun x hx => by simp at hx⟩
  | seq xs =>
    simp only [Wk.at]
    rcases hj with ⟨a, vs, rfl, h1, h2⟩ | ⟨cs, rfl, rfl⟩
    · refine ⟨fun hh => ?_, fun x hx => ?_⟩
      · refine ⟨vs, h1, ?_⟩
        have := List.getElem?_eq_none_iff.mp (Option.some.inj hh)
        rw [h2.length]; exact this
      · obtain ⟨v, h3, h4⟩ := h2.get (Option.some.inj hx)
        refine ⟨⟨vs, v, h1, h3⟩, fun v' H' hy => ?_⟩
        obtain ⟨rfl, hy⟩ := hy
        have := hy vs h1
        rw [h3] at this
        cases this
        exact ⟨rfl, h4⟩
    · have sz : (mkS cs).cps.size = cs.length := by simp [mkS]
      refine ⟨fun hh => ?_, fun x hx => ?_⟩
      · have := List.getElem?_eq_none_iff.mp (Option.some.inj hh)
        show (mkS cs).cps.size ≤ i
        rw [sz]
        simpa using this
      · have hx := Option.some.inj hx
        rw [List.getElem?_map] at hx
        cases e : cs[i]? with
        | none => rw [e] at hx; cases hx
        | some cc =>
          rw [e] at hx
          cases hx
          have hl := (List.getElem?_eq_some_iff.mp e).1
          refine ⟨by show i < (mkS cs).cps.size; rw [sz]; exact hl, fun v' H' hy => ?_⟩
          obtain ⟨rfl, c2, hc, rfl⟩ := hy
          refine ⟨rfl, ?_⟩
          have : (mkS cs).cps[i]? = some cc := by simpa [mkS] using e
          rw [this] at hc
          cases hc
          rfl
  | rng lo m =>
    have hj : J = Itr lo m := hj
    subst hj
    simp only [Wk.at]
    refine ⟨fun hh => ?_, fun x hx => ?_⟩
    · split at hh
      · simp at hh
      · show m ≤ i; omega
    · split at hx
      · rename_i hl
        simp only [Option.some.injEq] at hx
        subst hx
        refine ⟨hl, fun v' H' hy => ?_⟩
        obtain ⟨rfl, rfl⟩ := hy
        exact ⟨rfl, rfl⟩
      · simp at hx
theorem iFor {p : Pat} {it : TM.It} {b : List TM.S} {c : Ctx} {D : Ends} {σ : L2.St} {H : Hp} (h : LS X.K T W (evS c (.for p it b)) D σ H) : tFor (LI X T W (evI c it)) (gL X.K T (bindP p)) (LS X.K T W (evB c b)) D σ H := by
  obtain ⟨S, io, env, rel, er, post⟩ := h
  simp only [evS] at post
  refine PostS.head rel er post fun S io H w J rel er hj post => ?_
  refine ⟨fun i m σ H => ∃ S io env, Rel X.K T S io H ∧ EnvR X.K S.length io H env σ ∧ JR X.K S.length io H w J ∧ PostS X.K T W D S io H (forN w p (evB c b) m i env S), ⟨FU, S, io, env, rel, er, hj, post⟩, fun i m σ H hW => ?_⟩
  clear post rel er hj
  obtain ⟨S, io, env, rel, er, hj, post⟩ := hW
  cases m with
  | zero => exact post.elim
  | succ m =>
    simp only [forN] at post
    obtain ⟨t1, t2⟩ := walk_turn (i := i) rel hj
    cases e0 : w.at i S with
    | none => rw [e0] at post; exact post.elim
    | some o =>
      rw [e0] at post
      cases o with
      | none => exact .inl ⟨t1 e0, post io H σ .refl (Nat.le_refl _) rel er⟩
      | some x =>
        obtain ⟨g1, g2⟩ := t2 x e0
        refine .inr ⟨g1, fun σ' H' => ∃ S io env, Rel X.K T S io H' ∧ EnvR X.K S.length io H' env σ' ∧ JR X.K S.length io H' w J ∧ PostS X.K T W D S io H' (forN w p (evB c b) m (i + 1) env S), fun σ' H' hN => ⟨m, Nat.lt_succ_self m, hN⟩, fun v H' hy => ?_⟩
        obtain ⟨rfl, rv⟩ := g2 v H' hy
        simp only at post
        split at post
        · exact post.elim
        · rename_i env1 e1
          refine ⟨S, io, env, x, env1, rel, er, rv, e1, fun σ1 er1 => ⟨S, io, env1, rel, er1, ?_⟩⟩
          cases e2 : evB c b env1 S with
          | nx env' S' =>
            rw [e2] at post
            exact fun io' H' σ' ex l rel' er' => ⟨S', io', env', rel', er', hj.mono ex l, post.start ex l⟩
          | cnt env' S' =>
            rw [e2] at post
            exact fun io' H' σ' ex l rel' er' => ⟨S', io', env', rel', er', hj.mono ex l, post.start ex l⟩
          | brk env' S' => rw [e2] at post; exact post
          | ret p S' => rw [e2] at post; exact post
          | exc x S' => rw [e2] at post; exact post
          | bad => rw [e2] at post; exact post
theorem iSeq {s : TM.S} {ss : List TM.S} {c : Ctx} {D : Ends} {σ : L2.St} {H : Hp} (h : LS X.K T W (evB c (s :: ss)) D σ H) : tSeq (LS X.K T W (evS c s)) (LS X.K T W (evB c ss)) D σ H := by
  obtain ⟨S, io, env, rel, er, post⟩ := h
  simp only [evB] at post
  refine ⟨S, io, env, rel, er, ?_⟩
  cases e : evS c s env S with
  | nx env' S' =>
    rw [e] at post
    exact fun io' H' σ' ex l rel' er' => ⟨S', io', env', rel', er', post.start ex l⟩
  | brk env' S' => rw [e] at post; exact post
  | cnt env' S' => rw [e] at post; exact post
  | ret p S' => rw [e] at post; exact post
  | exc x S' => rw [e] at post; exact post
  | bad => rw [e] at post; exact post
mutual
theorem sS (C : Cok X k T R W N sc) (P : PG X.prog X.w X.K X.mg X.base T R k cf gl G) : ∀ (s : TM.S) (a : Stmt), ckS N sc G s a = true → L2.PS X a (LS X.K T W (evS ⟨cf, gl⟩ s))
  | .never, a, _ => ⟨fun _ _ _ _ _ _ h => by obtain ⟨_, _, _, _, _, h⟩ := h; exact h.elim⟩
  | .pass, a, h => by
    simp only [ckS] at h
    split at h
    · refine PS.imp ps_pass fun D σ H h => ?_
      obtain ⟨S, io, env, rel, er, post⟩ := h
      exact post io H σ .refl (Nat.le_refl _) rel er
    · cases h
  | .brk, a, h => by
    simp only [ckS] at h
    split at h
    · refine PS.imp ps_break fun D σ H h => ?_
      obtain ⟨S, io, env, rel, er, post⟩ := h
      exact post io H σ .refl (Nat.le_refl _) rel er
    · cases h
  | .cnt, a, h => by
    simp only [ckS] at h
    split at h
    · refine PS.imp ps_continue fun D σ H h => ?_
      obtain ⟨S, io, env, rel, er, post⟩ := h
      exact post io H σ .refl (Nat.le_refl _) rel er
    · cases h
  | .set p e, a, h => by
    simp only [ckS] at h
    split at h
    · simp only [Bool.and_eq_true] at h
      exact PS.imp (ps_asg (sE C P e _ h.2) (sP C p _ h.1.2) (sole_swap h.1.1.1) (sole_stores h.1.1.2) (sole_each h.1.2)) fun D σ H h => iSet h
    · cases h
  | .seti o i e, a, h => by
    simp only [ckS] at h
    split at h
    · simp only [Bool.and_eq_true] at h
      exact PS.imp (ps_asg (sE C P e _ h.2) (pg_sub (sE C P o _ h.1.1.2) (sE C P i _ h.1.2) set_list (sub_assign h.1.1.1.2)) (sole_swap h.1.1.1.1) (by rfl) (by rfl)) fun D σ H h => iSeti h
    · cases h
  | .aug i o e, a, h => by
    simp only [ckS] at h
    split at h
    · simp only [Bool.and_eq_true, decide_eq_true_eq] at h
      obtain ⟨⟨⟨rfl, h2⟩, h3⟩, h4⟩ := h
      exact PS.imp (ps_aug (by rw [C.hN]; exact C.nd) (slot_of C h2) (by rw [C.hsc]; exact loc_of h3) (sE C P e _ h4) (aug_ok (T := T) o) (by rw [C.hsc]; exact C.fnl _)) fun D σ H h => iAug h
    · cases h
  | .expr e, a, h => by
    simp only [ckS] at h
    split at h
    · simp only [Bool.and_eq_true] at h
      refine PS.imp (ps_expr (sE C P e _ h.2) (noComp_swap h.1)) fun D σ H h => ?_
      obtain ⟨S, io, env, rel, er, post⟩ := h
      simp only [evS] at post
      exact PostS.head rel er post fun S io H p v rel er rp post => post io H σ .refl (Nat.le_refl _) rel er
    · cases h
  | .ret e, a, h => by
    simp only [ckS] at h
    split at h
    · refine PS.imp (ps_ret (sE C P e _ h)) fun D σ H h => ?_
      obtain ⟨S, io, env, rel, er, post⟩ := h
      simp only [evS] at post
      exact PostS.head rel er post fun S io H p v rel er rp post => post io H v .refl (Nat.le_refl _) rel rp
    · cases h
  | .retn, a, h => by
    simp only [ckS] at h
    split at h
    · refine PS.imp ps_retN fun D σ H h => ?_
      obtain ⟨S, io, env, rel, er, post⟩ := h
      exact post io H .non .refl (Nat.le_refl _) rel rfl
    · cases h
  | .ite t p q, a, h => by
    simp only [ckS] at h
    split at h
    · simp only [Bool.and_eq_true] at h
      refine PS.imp (ps_if (sT C P t _ h.1.1) (sB C P p _ h.1.2) (sB C P q _ h.2)) fun D σ H h => ?_
      obtain ⟨S, io, env, rel, er, post⟩ := h
      simp only [evS] at post
      refine PostS.head rel er post fun S io H b v rel er rp post => ?_
      have rp : v = b := rp
      subst rp
      cases v with
      | true => exact iteT ⟨S, io, env, rel, er, post⟩
      | false => exact iteF ⟨S, io, env, rel, er, post⟩
    · cases h
  | .whl t b, a, h => by
    simp only [ckS] at h
    split at h
    · simp only [Bool.and_eq_true] at h
      exact PS.imp (ps_while C.own (sT C P t _ h.1) (sB C P b _ h.2)) fun D σ H h => iWhile h
    · cases h
  | .for p it b, a, h => by
    simp only [ckS] at h
    split at h
    · rename_i i x _
      simp only [Bool.and_eq_true] at h
      have hpl : ∀ v, foldedSetIterable i X.env v = pure v := by
        have h2 := h.1.2
        cases it with
        | e e =>
          simp only [ckI, Bool.and_eq_true] at h2
          intro v
          cases i <;> first | rfl | cases h2.2
        | rng1 e =>
          simp only [ckI] at h2
          split at h2
          · intro v; rfl
          · cases h2
        | rng2 e f =>
          simp only [ckI] at h2
          split at h2
          · intro v; rfl
          · cases h2
      exact PS.imp (ps_for C.own C.calm (sI C P h.1.2) (sP C p _ h.1.1) (sB C P b _ h.2) hpl) fun D σ H h => iFor h
    · cases h
theorem sB (C : Cok X k T R W N sc) (P : PG X.prog X.w X.K X.mg X.base T R k cf gl G) : ∀ (ss : List TM.S) (as : List Stmt), ckB N sc G ss as = true → L2.PSs X as (LS X.K T W (evB ⟨cf, gl⟩ ss))
  | [], [], _ => PSs.imp pss_nil fun D σ H h => by
      obtain ⟨S, io, env, rel, er, post⟩ := h
      exact post io H σ .refl (Nat.le_refl _) rel er
  | [], _ :: _, h => by simp [ckB] at h
  | _ :: _, [], h => by simp [ckB] at h
  | s :: ss, a :: as, h => by
    simp only [ckB, Bool.and_eq_true] at h
    exact PSs.imp (pss_cons (sS C P s a h.1) (sB C P ss as h.2)) fun D σ H h => iSeq h
end
end
end TM

/-! TM, part K: defs, the program, the law's end. -/
namespace TM
open PySem PySem.Spec PyProof.Rows L2
theorem env_start {K : PySem.W.Frag} {n : Nat} {io : Nat → Addr} {H : Hp} {N : List Str} {as : List PV} {vs : List V} {np nn : Nat} (r : Reps K n io H as vs) (h1 : as.length = np) (h2 : nn = N.length) (h3 : np ≤ nn) :
    EnvR K n io H (as.map some ++ List.replicate (nn - np) none) (L2.start N vs) := by
  have hl := r.length
  unfold L2.start
  refine ⟨by simp [hl]; omega, fun i p e => ?_⟩
  by_cases hi : i < as.length
  · rw [List.getElem?_append_left (by simpa using hi), List.getElem?_map] at e
    cases e2 : as[i]? with
    | none => rw [e2] at e; cases e
    | some q =>
      rw [e2] at e
      cases e
      obtain ⟨v, h4, h5⟩ := r.get e2
      refine ⟨v, ?_, h5⟩
      rw [List.getElem?_append_left (by simp [hl]; exact hi), List.getElem?_map, h4]
      rfl
  · rw [List.getElem?_append_right (by simpa using hi), List.getElem?_replicate] at e
    split at e <;> cases e
/-- what a def must be -/
structure DefOk (K : PySem.W.Frag) (mg : Str → Option Value) (fs : List Fn) (G : GT) (x : Str) (j : Nat) (fa : Addr) (fd : FuncData) (ps : List Str) : Prop where
  mg : mg x = some (.ref fa)
  bnd : Binds K fd ps []
  ex : ∃ nm qual st N fn, Fun K nm qual st fa fd ∧ FnScope N ps (defScope st) ∧ fs[j]? = some fn ∧ fn.np = ps.length ∧ fn.nn = N.length ∧ ckB N (defScope st) G fn.body (defBody st) = true
section
variable {P : Program} {w : World} {K : PySem.W.Frag} {mg : Str → Option Value} {base : Heap} {T : List Addr} {R : PXT} {fs : List Fn} {gl : Nat → PV} {G : GT}
theorem def_ok {x : Str} {j k : Nat} {fa : Addr} {fd : FuncData} {ps : List Str} (D : DefOk K mg fs G x j fa fd ps) (PP : PG P w K mg base T R k (callN fs gl k) gl G) : FnOk P w K mg base (L2.CX P w) (k + 1) fa fd ps (spOf K T R ps.length (callN fs gl (k + 1) j)) := by
  obtain ⟨nm, qual, st, N, fn, F, FS, hf, hnp, hnn, hck⟩ := D.ex
  refine F.okX FS (fun vs H Q E h => h.1) fun cdv A outer s H vs Q E hr h => ?_
  obtain ⟨hl, S, io, as, rel, rp, post⟩ := h
  have C : Cok (cxOf (L2.CX P w) P w K mg base N qual (defScope st) fa cdv A outer s H E) k T R (fun x S io H => ∀ cls d, R x cls d H → E cls d H) N (defScope st) := by
    refine ⟨rfl, FS.nd, rfl, rfl, hr, ?_, passes_of (X := cxOf (L2.CX P w) P w K mg base N qual (defScope st) fa cdv A outer s H E) (K := fun e s'' => L2.CX P w outer H s E e s'') rfl, fun _ => .inl rfl⟩
    exact passes_call (X := cxOf (L2.CX P w) P w K mg base N qual (defScope st) fa cdv A outer s H E) (takes_of rfl rfl rfl rfl) fun cls d σ H' ⟨x, S, io, rel, hx, hw⟩ => hw cls d hx
  refine ⟨_, sB C PP fn.body _ hck, ?_⟩
  have el : as.length = fn.np := by rw [hnp, ← hl, rp.length]
  have hle : fn.np ≤ fn.nn := by
    have := congrArg List.length FS.pre
    rw [List.length_take] at this
    omega
  refine ⟨S, io, _, rel, env_start rp el hnn hle, ?_⟩
  have post : Post K T (fun x S' io' H' => ∀ cls d, R x cls d H' → E cls d H') (Rep K) S io H Q (match fs[j]? with
    | some fn => runF ⟨callN fs gl k, gl⟩ fn as S
    | none => .bad) := post
  rw [hf] at post
  simp only [runF, if_pos el] at post
  cases e : evB ⟨callN fs gl k, gl⟩ fn.body (as.map some ++ List.replicate (fn.nn - fn.np) none) S with
  | nx env' S' =>
    rw [e] at post
    exact fun io' H' σ' ex l rel' er' => post io' H' .non ex l rel' rfl
  | ret p S' => rw [e] at post; exact post
  | exc x S' => rw [e] at post; exact post
  | brk env' S' => rw [e] at post; exact post.elim
  | cnt env' S' => rw [e] at post; exact post.elim
  | bad => rw [e] at post; exact post.elim
theorem fn_zero {f : Addr} {fd : FuncData} {ps : List Str} {np : Nat} {j : Nat} : FnOk P w K mg base (L2.CX P w) 0 f fd ps (spOf K T R np (callN fs gl 0 j)) :=
  ⟨fun vs H Q E h => by obtain ⟨_, _, _, _, _, _, h⟩ := h; exact h.elim, fun A outer s H args us vs Q E _ _ _ _ h => by obtain ⟨_, _, _, _, _, _, h⟩ := h; exact h.elim⟩
theorem callN_len {j k : Nat} {as : List PV} {S : Sto} {fn : Fn} (hf : fs[j]? = some fn) (h : callN fs gl k j as S ≠ .bad) : as.length = fn.np := by
  cases k with
  | zero => exact absurd rfl h
  | succ k =>
    apply Classical.byContradiction
    intro hn
    apply h
    simp only [callN, hf, runF, if_neg hn]
theorem prog_ok (hb : ∀ x, gvB G x .blt = true → mg x = none) (hf : ∀ x j, gvB G x (.fn j) = true → ∃ fa fd ps, DefOk K mg fs G x j fa fd ps)
    (hc : ∀ x g, gvB G x (.cst g) = true → ∃ u v, mg x = some u ∧ RelV v u ∧ ∀ n io H, Rep K n io H (gl g) v) : ∀ k, PG P w K mg base T R k (callN fs gl k) gl G := by
  intro k
  induction k with
  | zero =>
    refine ⟨hb, fun x j h => ?_, hc⟩
    obtain ⟨fa, fd, ps, D⟩ := hf x j h
    obtain ⟨nm, qual, st, N, fn, F, FS, hfn, hnp, hnn, hck⟩ := D.ex
    exact ⟨fa, fd, ps, D.mg, F.kp, D.bnd, fun as S hh => absurd rfl hh, fn_zero⟩
  | succ k ih =>
    refine ⟨hb, fun x j h => ?_, hc⟩
    obtain ⟨fa, fd, ps, D⟩ := hf x j h
    obtain ⟨nm, qual, st, N, fn, F, FS, hfn, hnp, hnn, hck⟩ := D.ex
    exact ⟨fa, fd, ps, D.mg, F.kp, D.bnd, fun as S hh => by rw [callN_len hfn hh, hnp], def_ok D ih⟩
/-- the law's promise, where the interpreter says True -/
theorem law_sp {j k : Nat} {H : Hp} {a : Addr} {ns : List Int} (hT : ∀ P ∈ T, GxR.TabG H P) (hS : SqL K H a (ns.map V.int)) (hA : ∀ xs, H a ≠ some (.lst xs)) (h : ∃ S', callN fs gl k j [.obj 0] [.ro (ns.map PV.int)] = .ok (.bl true) S') :
    spOf K T R 1 (callN fs gl k j) [.ref a] H (fun v _ => v = .bl true) fun _ _ _ => False := by
  obtain ⟨S', h⟩ := h
  have reps : ∀ (n : Nat) (io : Nat → Addr) (ms : List Int), Reps K n io H (ms.map PV.int) (ms.map V.int) := fun n io ms => by
    induction ms with
    | nil => rfl
    | cons m ms ih => exact Reps.cons rfl ih
  refine ⟨rfl, [.ro (ns.map PV.int)], fun _ => a, [.obj 0], ⟨fun i o e => ?_, fun i j o o' e1 e2 m1 => ?_, hT⟩, Reps.cons ⟨by simp, rfl⟩ Reps.nil, ?_⟩
  · cases i with
    | zero =>
      cases e
      refine ⟨ns.map V.int, ?_, reps _ _ _⟩
      rcases hS with (hS | ⟨o, hS⟩) | hS
      · exact absurd hS (hA _)
      · exact .inl ⟨o, hS⟩
      · exact .inr hS
    | succ i => simp at e
  · cases i with
    | zero => cases e1; cases m1
    | succ i => simp at e1
  · rw [h]
    intro io' H' v _ _ _ r
    exact r
end
theorem cx_none {P : Program} {w : World} {H : Hp} {s : Shared} {e : Value} {s' : Shared} (h : L2.CX P w [] H s (fun _ _ _ => False) e s') : False := by
  obtain ⟨_, _, _, _, _, _, _, _, _, _, _, _, z⟩ := h
  exact z
/-- the end without tables of code objects -/
theorem law_end {l : PySem.W.OpenLaw} {q : Program} {loose : List Str} {XP : (Str → Option Value) → Heap → Prop} {YP : World → Heap → Prop} {d : DefRec} {KP : Params → PySem.W.Frag} {k j : Nat} {fs : List Fn} {gl : Nat → PV} {x : Str} {R : PXT}
    (hn : l.most = some 63) (hdf : d.params.defaults = []) (hr : Room k callerA) (hY : ∀ (w : World) (h : Heap), YP w h → (KP w.params).In h)
    (F : ∀ (w : World) (mg : Str → Option Value) (fa : Addr) (h : Heap), (KP w.params).In h → h.Ns mainGlobals mg → mg d.name = some (.ref fa) →
      ∃ fd : FuncData, (∀ (s : Shared) (u : Value), BindsTo s fd ⟨[u], []⟩ [(x, u)]) ∧
        ∀ base : Heap, (KP w.params).In base → base.Ns mainGlobals mg → FnOk l.prog w (KP w.params) mg base (L2.CX l.prog w) k fa fd [x] (spOf (KP w.params) [] R 1 (callN fs gl k j)))
    (hl : ∀ ns : List Int, ns.length ≤ 63 → ∃ S', callN fs gl k j [.obj 0] [.ro (ns.map PV.int)] = .ok (.bl true) S') : PySem.W.WalkO q loose XP YP l.row.toRowW d [] (fun f vs => PySem.call f vs) := by
  refine walk_of (K := KP) (n := 63) (k := k) (x := x) (CX := fun w => L2.CX l.prog w) (sp := fun w => spOf (KP w.params) [] R 1 (callN fs gl k j)) hn (by decide) hdf hr hY F ?_ ?_
  · intro w H a ns hlen hO hS
    refine law_sp (fun P hP => absurd hP (by simp)) hS (fun xs e => ?_) (hl ns hlen)
    rcases hO a with h | ⟨o, ys, h⟩
    · rw [h] at e; cases e
    · rw [h] at e; cases e
  · intro w H s e s' h
    exact cx_none h
/-- the checks of a def's scope -/
def scopeB (N ps : List Str) (sc : Scope) : Bool :=
  decide (sc.kind = .function) && !sc.isCoroutine && !sc.isGenerator && decide (N.Nodup) && decide (N.take ps.length = ps) && ps.all (fun x => match sc.names.lookup x with | some .local => true | some .cell => true | _ => false) && sc.names.all (fun y => decide (y.2 ≠ .free))
theorem scope_of {N ps : List Str} {sc : Scope} (h : scopeB N ps sc = true) : FnScope N ps sc := by
  simp only [scopeB, Bool.and_eq_true, decide_eq_true_eq, Bool.not_eq_true', List.all_eq_true] at h
  obtain ⟨⟨⟨⟨⟨⟨h1, h2⟩, h3⟩, h4⟩, h5⟩, h6⟩, h7⟩ := h
  refine ⟨h1, h2, h3, h4, h5, fun x hx => ?_, fun y hy => h7 y hy⟩
  have := h6 x hx
  split at this
  · exact .inl (by assumption)
  · exact .inr (by assumption)
  · cases this
/-- all of a list -/
def AllP {a : Type} (p : a → Prop) : List a → Prop
  | [] => True
  | x :: xs => p x ∧ AllP p xs
theorem AllP.mem {a : Type} {p : a → Prop} : ∀ {l : List a}, AllP p l → ∀ x ∈ l, p x
  | [], _, _, h => absurd h (by simp)
  | y :: ys, ⟨h1, h2⟩, x, h => by
    rcases List.mem_cons.mp h with rfl | h
    · exact h1
    · exact AllP.mem h2 x h
theorem lookup_mem {x : Str} {v : GV} : ∀ {G : GT}, G.lookup x = some v → (x, v) ∈ G
  | [], h => by simp at h
  | (y, u) :: G, h => by
    rw [List.lookup_cons] at h
    split at h
    · rename_i e
      cases h
      rw [eq_of_beq e]
      exact List.mem_cons_self
    · exact List.mem_cons_of_mem _ (lookup_mem h)
theorem gvB_mem {G : GT} {x : Str} {v : GV} (h : gvB G x v = true) : (x, v) ∈ G := by
  unfold gvB at h
  split at h
  · rename_i u e
    rw [← of_decide_eq_true h]
    exact lookup_mem e
  · cases h
def GOk (K : PySem.W.Frag) (mg : Str → Option Value) (fs : List Fn) (gl : Nat → PV) (G : GT) (p : Str × GV) : Prop := match p.2 with
  | .blt => mg p.1 = none
  | .fn j => ∃ fa fd ps, DefOk K mg fs G p.1 j fa fd ps
  | .cst g => ∃ u v, mg p.1 = some u ∧ RelV v u ∧ ∀ n io H, Rep K n io H (gl g) v
theorem prog_all {P : Program} {w : World} {K : PySem.W.Frag} {mg : Str → Option Value} {base : Heap} {T : List Addr} {R : PXT} {fs : List Fn} {gl : Nat → PV} {G : GT} (h : AllP (GOk K mg fs gl G) G) (k : Nat) : PG P w K mg base T R k (callN fs gl k) gl G :=
  prog_ok (fun x hx => AllP.mem h _ (gvB_mem hx)) (fun x j hx => AllP.mem h _ (gvB_mem hx)) (fun x g hx => AllP.mem h _ (gvB_mem hx)) k
end TM

/-! TM, part P: how a run is told, and the givers of every law. -/
namespace TM
open L2
/-- how a run of statements ends -/
def Sat (r : Out) (N B : Env → Sto → Prop) (R : PV → Sto → Prop) : Prop := match r with
  | .nx e S => N e S
  | .brk e S => B e S
  | .cnt e S => N e S
  | .ret p S => R p S
  | _ => False
theorem Sat.imp {r : Out} {N B N' B' : Env → Sto → Prop} {R R' : PV → Sto → Prop} (h : Sat r N B R) (hn : ∀ e S, N e S → N' e S) (hb : ∀ e S, B e S → B' e S) (hr : ∀ p S, R p S → R' p S) : Sat r N' B' R' := by
  cases r <;> first | exact hn _ _ h | exact hb _ _ h | exact hr _ _ h | exact h
def NoB : Env → Sto → Prop := fun _ _ => False
/-- a for, by what holds ahead of each turn -/
theorem forN_rule {w : Wk} {p : Pat} {body : Env → Sto → Out} (m : Nat) (I : Nat → Env → Sto → Prop) {F B : Env → Sto → Prop} {R : PV → Sto → Prop}
    (turn : ∀ k env S, k < m → I k env S → ∃ x env1, w.at k S = some (some x) ∧ bindP p x env = some env1 ∧ Sat (body env1 S) (I (k + 1)) F R)
    (fin : ∀ env S, I m env S → w.at m S = some none ∧ F env S) :
    ∀ n k env S, k ≤ m → m - k < n → I k env S → Sat (forN w p body n k env S) F B R := by
  intro n
  induction n with
  | zero => intro k env S _ h; omega
  | succ n ih =>
    intro k env S hk hn hi
    unfold forN
    by_cases e : k = m
    · subst e
      obtain ⟨h1, h2⟩ := fin env S hi
      rw [h1]
      exact h2
    · obtain ⟨x, env1, h1, h2, h3⟩ := turn k env S (by omega) hi
      rw [h1]
      simp -implicitDefEqProofs only [h2]
      cases hb : body env1 S with
      | nx e1 S1 => rw [hb] at h3; exact ih (k + 1) e1 S1 (by omega) (by omega) h3
      | cnt e1 S1 => rw [hb] at h3; exact ih (k + 1) e1 S1 (by omega) (by omega) h3
      | brk e1 S1 => rw [hb] at h3; exact h3
      | ret q S1 => rw [hb] at h3; exact h3
      | exc q S1 => rw [hb] at h3; exact h3.elim
      | bad => rw [hb] at h3; exact h3.elim
theorem for_rule {w : Wk} {p : Pat} {body : Env → Sto → Out} {env : Env} {S : Sto} (m : Nat) (I : Nat → Env → Sto → Prop) {F B : Env → Sto → Prop} {R : PV → Sto → Prop} (hm : m < FU) (h0 : I 0 env S)
    (turn : ∀ k env S, k < m → I k env S → ∃ x env1, w.at k S = some (some x) ∧ bindP p x env = some env1 ∧ Sat (body env1 S) (I (k + 1)) F R)
    (fin : ∀ env S, I m env S → w.at m S = some none ∧ F env S) : Sat (forN w p body FU 0 env S) F B R :=
  forN_rule m I turn fin FU 0 env S (Nat.zero_le _) (by omega) h0
/-- a while, by what holds ahead of each turn and what shrinks -/
theorem whl_rule {t : Env → Sto → Res Bool} {body : Env → Sto → Out} {F B : Env → Sto → Prop} {R : PV → Sto → Prop} (I : Nat → Env → Sto → Prop)
    (turn : ∀ k env S, I k env S → ∃ b S1, t env S = .ok b S1 ∧ if b then Sat (body env S1) (fun e S => ∃ j, j < k ∧ I j e S) F R else F env S1) :
    ∀ n k env S, k < n → I k env S → Sat (whlN t body n env S) F B R := by
  intro n
  induction n with
  | zero => intro k env S h; omega
  | succ n ih =>
    intro k env S hk hi
    unfold whlN
    obtain ⟨b, S1, h1, h2⟩ := turn k env S hi
    rw [h1]
    cases b with
    | false => exact h2
    | true =>
      simp -implicitDefEqProofs only [if_true] at h2
      simp -implicitDefEqProofs only [Res.out_ok, if_true]
      cases hb : body env S1 with
      | nx e1 S2 =>
        rw [hb] at h2
        obtain ⟨j, hj, h2⟩ := h2
        exact ih j e1 S2 (by omega) h2
      | cnt e1 S2 =>
        rw [hb] at h2
        obtain ⟨j, hj, h2⟩ := h2
        exact ih j e1 S2 (by omega) h2
      | brk e1 S2 => rw [hb] at h2; exact h2
      | ret q S2 => rw [hb] at h2; exact h2
      | exc q S2 => rw [hb] at h2; exact h2.elim
      | bad => rw [hb] at h2; exact h2.elim
theorem sat_seq {r : Out} {f : Env → Sto → Out} {N B : Env → Sto → Prop} {R : PV → Sto → Prop} (h : Sat r (fun e S => Sat (f e S) N B R) B R) (hc : ∀ e S, r ≠ .cnt e S) : Sat (r.seq f) N B R := by
  cases r with
  | nx e S => exact h
  | brk e S => exact h
  | cnt e S => exact (hc e S rfl).elim
  | ret p S => exact h
  | exc x S => exact h.elim
  | bad => exact h.elim
theorem forN_nc {w : Wk} {p : Pat} {body : Env → Sto → Out} : ∀ n k env S e' S', forN w p body n k env S ≠ .cnt e' S'
  | 0, _, _, _, _, _ => fun z => by cases z
  | n + 1, k, env, S, e', S' => by
    intro z
    unfold forN at z
    split at z
    · cases z
    · cases z
    · split at z
      · cases z
      · split at z
        · exact forN_nc _ _ _ _ _ _ z
        · exact forN_nc _ _ _ _ _ _ z
        · cases z
        · rename_i r a b c
          exact b _ _ z
theorem whlN_nc {t : Env → Sto → Res Bool} {body : Env → Sto → Out} : ∀ n env S e' S', whlN t body n env S ≠ .cnt e' S'
  | 0, _, _, _, _ => fun z => by cases z
  | n + 1, env, S, e', S' => by
    intro z
    unfold whlN at z
    cases h : t env S with
    | ok b S1 =>
      rw [h] at z
      cases b with
      | false => cases z
      | true =>
        simp -implicitDefEqProofs only [Res.out_ok, if_true] at z
        split at z
        · exact whlN_nc _ _ _ _ _ z
        · exact whlN_nc _ _ _ _ _ z
        · cases z
        · rename_i r a b c
          exact b _ _ z
    | exc x S1 => rw [h] at z; cases z
    | bad => rw [h] at z; cases z

/-! ### the givers -/
def IR_numbers : Fn := ⟨1, 6, [(.set (.nm 1) (.lst [])), (.for (.nm 2) (.e (.slc (.var 0) none (some (.cst (.int 63))))) [(.ite (.e (.cmp .ge (.var 2) (.bin .pow (.cst (.int 10)) (.cst (.int 18))))) [(.set (.nm 3) (.var 2)), (.for (.nm 4) (.rng1 (.cst (.int 60))) [(.ite (.e (.cmp .eq (.var 3) (.cst (.int 0)))) [.brk] []), (.expr (.me .append (.var 1) [(.bin .mod (.bi .int [(.var 3)]) (.cst (.int 997)))])), (.set (.nm 3) (.bin .fdiv (.var 3) (.cst (.int 997))))])] [(.for (.nm 4) (.rng1 (.cst (.int 4))) [(.set (.nm 5) (.bin .mod (.bi .int [(.bin .add (.bin .add (.bin .mul (.var 2) (.cst (.int 48271))) (.bin .mul (.var 4) (.cst (.int 69621)))) (.cst (.int 11)))]) (.cst (.int 2147483647)))), (.expr (.me .append (.var 1) [(.bin .mod (.bi .int [(.bin .add (.bin .mul (.var 5) (.cst (.int 16807))) (.var 4))]) (.cst (.int 2147483629)))]))])])]), (.ite (.e (.cmp .eq (.bi .len [(.var 1)]) (.cst (.int 0)))) [(.expr (.me .append (.var 1) [(.cst (.int 0))]))] []), (.ret (.var 1))]⟩
def IR_draw : Fn := ⟨3, 4, [(.ite (.e (.cmp .lt (.var 1) (.bi .len [(.var 0)]))) [(.ret (.bin .mod (.bi .int [(.idx (.var 0) (.var 1))]) (.var 2)))] []), (.set (.nm 3) (.bin .mod (.bi .int [(.bin .add (.bin .add (.bin .mul (.idx (.var 0) (.bin .mod (.bi .int [(.var 1)]) (.bi .len [(.var 0)]))) (.cst (.int 40692))) (.bin .mul (.var 1) (.cst (.int 7919)))) (.cst (.int 3)))]) (.cst (.int 2147483399)))), (.ret (.bin .mod (.bi .int [(.bin .mod (.bi .int [(.bin .add (.bin .mul (.var 3) (.cst (.int 48271))) (.var 1))]) (.cst (.int 2147483647)))]) (.var 2)))]⟩
def IR_take (d : Nat) : Fn := ⟨3, 3, [(.seti (.var 1) (.cst (.int 0)) (.bin .add (.idx (.var 1) (.cst (.int 0))) (.cst (.int 1)))), (.ret (.call d [(.var 0), (.bin .sub (.idx (.var 1) (.cst (.int 0))) (.cst (.int 1))), (.var 2)]))]⟩
theorem mul_lit (a : Int) (b : Int) (h : (decide (-P64 < b) && decide (b < P64)) = true) : mulOk a b = true := by
  unfold mulOk
  rw [h, Bool.or_true]
/-- the rows' cells so far -/
def NI (ns : List Int) (c : List PV) (m : Nat) (env : Env) (S : Sto) : Prop :=
  (∃ x2 x3 x4 x5, env = [some (.obj 0), some (.obj 1), x2, x3, x4, x5]) ∧ ∃ xs : List Int, S = [.ro (ns.map PV.int), .lst (xs.map PV.int), .lst c] ∧ (∀ x ∈ xs, 0 ≤ x) ∧ xs.length ≤ m
theorem bindP_nm (i : Nat) (p : PV) (env : Env) : bindP (.nm i) p env = if i < env.length then some (env.set i (some p)) else none := by rw [bindP]
theorem app1 {S : Sto} {i : Nat} {xs : List PV} {p : PV} (h : S[i]? = some (.lst xs)) (l : xs.length < LINE) : meAppend (.obj i) [p] S = .ok .non (S.set i (.lst (xs ++ [p]))) := by
  unfold meAppend
  simp -implicitDefEqProofs only [h]
  rw [if_pos l]
theorem at_rng (lo : Int) (n k : Nat) (S : Sto) : (Wk.rng lo n).at k S = some (if k < n then some (.int (lo + k)) else none) := rfl
theorem fmod_nn (a : Int) {b : Int} (h : 0 < b) : 0 ≤ a.fmod b := Int.fmod_nonneg_of_pos a h
theorem e18 : binI .pow 10 18 = some 1000000000000000000 := by decide +kernel
theorem bV_add (i j : Int) (S : Sto) : binV .add (.int i) (.int j) S = .ok (.int (i + j)) S := by simp [binV, binI]
theorem bV_sub (i j : Int) (S : Sto) : binV .sub (.int i) (.int j) S = .ok (.int (i - j)) S := by simp [binV, binI]
theorem bV_mul (i j : Int) (S : Sto) (h : mulOk i j = true) : binV .mul (.int i) (.int j) S = .ok (.int (i * j)) S := by simp [binV, binI, h]
theorem bV_mulL (i j : Int) (S : Sto) (h : (decide (-P64 < j) && decide (j < P64)) = true) : binV .mul (.int i) (.int j) S = .ok (.int (i * j)) S := bV_mul i j S (mul_lit i j h)
theorem bV_mod (i j : Int) (S : Sto) (h : (j == 0) = false) : binV .mod (.int i) (.int j) S = .ok (.int (i.fmod j)) S := by simp [binV, binI, bne, h]
theorem bV_pow18 (S : Sto) : binV .pow (.int 10) (.int 18) S = .ok (.int 1000000000000000000) S := by simp -implicitDefEqProofs only [binV, e18, Option.map_some, ofO_some]
theorem bV_div (i j : Int) (S : Sto) (h : (j == 0) = false) (h2 : j.natAbs < 1073741824) : binV .fdiv (.int i) (.int j) S = .ok (.int (i.fdiv j)) S := by simp [binV, binI, bne, h, h2]
theorem one_nc {w : Wk} {p : Pat} {body : Env → Sto → Out} {f : Env → Sto → Out} {n k : Nat} {env : Env} {S : Sto} (hf : ∀ e T e' S', f e T ≠ .cnt e' S') : ∀ e' S', (forN w p body n k env S).seq f ≠ .cnt e' S' := by
  intro e' S' z
  cases h : forN w p body n k env S with
  | cnt a b => exact forN_nc _ _ _ _ _ _ h
  | nx a b => rw [h] at z; exact hf _ _ _ _ z
  | _ => rw [h] at z; simp [Out.seq] at z
theorem runF_sat {C : Ctx} {f : Fn} {as : List PV} {S : Sto} {R : PV → Sto → Prop} (hl : as.length = f.np) (h : Sat (evB C f.body (as.map some ++ List.replicate (f.nn - f.np) none) S) NoB NoB R) : ∃ p S', runF C f as S = .ok p S' ∧ R p S' := by
  unfold runF
  rw [if_pos hl]
  cases e : evB C f.body (as.map some ++ List.replicate (f.nn - f.np) none) S with
  | nx _ _ => rw [e] at h; exact h.elim
  | brk _ _ => rw [e] at h; exact h.elim
  | cnt _ _ => rw [e] at h; exact h.elim
  | ret p S' => rw [e] at h; exact ⟨p, S', rfl, h⟩
  | exc _ _ => rw [e] at h; exact h.elim
  | bad => rw [e] at h; exact h.elim
theorem cut_ints (ns : List Int) (lo hi : Option Int) : ∃ cs : List Int, cutL (ns.map PV.int) lo hi = cs.map PV.int ∧ cs.length ≤ ns.length := by
  refine ⟨cutL ns lo hi, ?_, ?_⟩
  · unfold cutL
    rw [List.length_map, ← List.map_drop, ← List.map_take]
  · unfold cutL
    rw [List.length_take, List.length_drop]
    omega
theorem ints_push {xs : List Int} {y : Int} : xs.map PV.int ++ [PV.int y] = (xs ++ [y]).map PV.int := by simp
theorem nn_push {xs : List Int} {y : Int} (h : ∀ x ∈ xs, 0 ≤ x) (hy : 0 ≤ y) : ∀ x ∈ xs ++ [y], 0 ≤ x := by
  intro x hx
  rcases List.mem_append.mp hx with hx | hx
  · exact h x hx
  · rw [List.mem_singleton.mp hx]; exact hy
theorem numbers_ok (C : Ctx) (ns : List Int) (hn : ns.length ≤ 63) :
    ∃ p S', runF C IR_numbers [.obj 0] [.ro (ns.map PV.int)] = .ok p S' ∧ ∃ xs : List Int, ∃ c, p = .obj 1 ∧ S' = [.ro (ns.map PV.int), .lst (xs.map PV.int), .lst c] ∧ xs ≠ [] ∧ (∀ x ∈ xs, 0 ≤ x) ∧ xs.length ≤ 3781 := by
  refine runF_sat rfl ?_
  obtain ⟨cs, hc, hcl⟩ := cut_ints ns none (some 63)
  have hcl : cs.length ≤ 63 := Nat.le_trans hcl hn
  simp -implicitDefEqProofs only [IR_numbers, List.map_cons, List.map_nil, List.replicate, List.cons_append, List.nil_append, evB, evS, ev, evs, evI, evO, Res.bind_ok, Res.out_ok, Out.seq_nx, List.length_nil, Nat.zero_le, if_true, bindP_nm, List.length_cons, List.set, Nat.reduceAdd, Nat.reduceLT, List.getElem?_cons_succ, List.getElem?_cons_zero, cutP, seqOf, hc]
  refine sat_seq ?_ fun e S => forN_nc _ _ _ _ _ _
  refine for_rule cs.length (fun k => NI ns (cs.map PV.int) (60 * k)) (by unfold FU; omega) ⟨⟨_, _, _, _, rfl⟩, [], rfl, by simp, by simp⟩ ?_ ?_
  · rintro k env S hk ⟨⟨x2, x3, x4, x5, rfl⟩, xs, rfl, h1, h2⟩
    refine ⟨.int cs[k], [some (.obj 0), some (.obj 1), some (.int cs[k]), x3, x4, x5], ?_, rfl, ?_⟩
    · simp [Wk.at, seqOf, hk]
    · simp -implicitDefEqProofs only [evT, ev, Res.bind_ok, Res.out_ok, List.getElem?_cons_succ, List.getElem?_cons_zero, bV_pow18, Option.map_some, ofO_some, cmpV, ordB, pur, alk, isNon, dep, Nat.zero_le, decide_true, Bool.true_and, Bool.and_true, Bool.not_false, if_true, truth, ltP]
      cases hcell : (!decide (cs[k] < 1000000000000000000)) with
      | true =>
        simp -implicitDefEqProofs only [if_true, evB, evS, ev, Res.bind_ok, Res.out_ok, List.getElem?_cons_succ, List.getElem?_cons_zero, bindP_nm, List.length_cons, List.length_nil, List.set, Nat.reduceAdd, Nat.reduceLT, Out.seq_nx, evI]
        rw [if_pos (by decide)]
        simp -implicitDefEqProofs only [Res.out_ok]
        refine sat_seq (sat_seq ?_ fun e S => forN_nc _ _ _ _ _ _) fun e S z => ?_
        refine for_rule 60 (fun j e T => (∃ l : Int, ∃ x4, e = [some (.obj 0), some (.obj 1), some (.int cs[k]), some (.int l), x4, x5]) ∧ ∃ xs : List Int, T = [.ro (ns.map PV.int), .lst (xs.map PV.int), .lst (cs.map PV.int)] ∧ (∀ x ∈ xs, 0 ≤ x) ∧ xs.length ≤ 60 * k + j) (by unfold FU; omega) ⟨⟨_, _, rfl⟩, xs, rfl, h1, h2⟩ ?_ ?_
        · rintro j e T hj ⟨⟨l, x4, rfl⟩, ys, rfl, g1, g2⟩
          refine ⟨.int (0 + (j : Int)), [some (.obj 0), some (.obj 1), some (.int cs[k]), some (.int l), some (.int (0 + (j : Int))), x5], ?_, rfl, ?_⟩
          · rw [at_rng]
            rw [if_pos (by exact hj)]
          · simp -implicitDefEqProofs only [evB, evS, evT, ev, evs, Res.bind_ok, Res.out_ok, List.getElem?_cons_succ, List.getElem?_cons_zero, cmpV, eqV, eqS, Option.map_some, ofO_some, truth]
            cases hl : (l == 0) with
            | true =>
              simp -implicitDefEqProofs only [if_true, Out.seq_brk, Sat]
              exact ⟨⟨_, _, _, _, rfl⟩, ys, rfl, g1, by omega⟩
            | false =>
              simp -implicitDefEqProofs only [Bool.false_eq_true, if_false, Out.seq_nx, biV, bV_mod _ 997 _ rfl, mty, meOk, meV, Res.bind_ok, ofO_some, Option.map_some, List.getElem?_cons_succ, List.getElem?_cons_zero, Res.out_ok, if_true]
              rw [app1 (xs := ys.map PV.int) rfl (by rw [List.length_map]; unfold LINE; omega)]
              simp -implicitDefEqProofs only [Res.out_ok, Res.bind_ok, Out.seq_nx, bV_div _ 997 _ rfl (by decide), bindP_nm, List.length_cons, List.length_nil, List.set, Nat.reduceAdd, Nat.reduceLT, if_true, ints_push, List.getElem?_cons_succ, List.getElem?_cons_zero, Sat]
              exact ⟨⟨_, _, rfl⟩, _, rfl, nn_push g1 (fmod_nn _ (by decide)), by rw [List.length_append]; simp -implicitDefEqProofs only [List.length_cons, List.length_nil]; omega⟩
        · rintro e T ⟨⟨l, x4, rfl⟩, ys, rfl, g1, g2⟩
          refine ⟨by rw [at_rng]; rfl, ?_⟩
          simp -implicitDefEqProofs only [Sat, evB]
          exact ⟨⟨_, _, _, _, rfl⟩, ys, rfl, g1, by omega⟩
        · exact one_nc (fun e T e' S' z => by simp [evB] at z) _ _ z
      | false =>
        simp -implicitDefEqProofs only [Bool.false_eq_true, if_false, evB, evS, ev, Res.bind_ok, Res.out_ok, List.getElem?_cons_succ, List.getElem?_cons_zero, Out.seq_nx, evI]
        rw [if_pos (by decide)]
        simp -implicitDefEqProofs only [Res.out_ok]
        refine sat_seq (sat_seq ?_ fun e S => forN_nc _ _ _ _ _ _) fun e S z => ?_
        refine for_rule 4 (fun j e T => (∃ x4 x5, e = [some (.obj 0), some (.obj 1), some (.int cs[k]), x3, x4, x5]) ∧ ∃ xs : List Int, T = [.ro (ns.map PV.int), .lst (xs.map PV.int), .lst (cs.map PV.int)] ∧ (∀ x ∈ xs, 0 ≤ x) ∧ xs.length ≤ 60 * k + j) (by unfold FU; omega) ⟨⟨_, _, rfl⟩, xs, rfl, h1, h2⟩ ?_ ?_
        · rintro j e T hj ⟨⟨x4, x5, rfl⟩, ys, rfl, g1, g2⟩
          refine ⟨.int (0 + (j : Int)), [some (.obj 0), some (.obj 1), some (.int cs[k]), x3, some (.int (0 + (j : Int))), x5], ?_, rfl, ?_⟩
          · rw [at_rng]
            rw [if_pos (by exact hj)]
          · generalize (0 + (j : Int)) = J
            simp -implicitDefEqProofs only [evB, evS, evT, ev, evs, Res.bind_ok, Res.out_ok, List.getElem?_cons_succ, List.getElem?_cons_zero, biV, bV_add, bV_mulL _ 48271 _ rfl, bV_mulL _ 69621 _ rfl, bV_mulL _ 16807 _ rfl, bV_mod _ 2147483647 _ rfl, bV_mod _ 2147483629 _ rfl, if_true, bindP_nm, List.length_cons, List.length_nil, List.set, Nat.reduceAdd, Nat.reduceLT, Out.seq_nx, mty, meOk, meV]
            rw [app1 (xs := ys.map PV.int) rfl (by rw [List.length_map]; unfold LINE; omega)]
            simp -implicitDefEqProofs only [Res.out_ok, Out.seq_nx, ints_push, List.set, Sat]
            exact ⟨⟨_, _, rfl⟩, _, rfl, nn_push g1 (fmod_nn _ (by decide)), by rw [List.length_append]; simp -implicitDefEqProofs only [List.length_cons, List.length_nil]; omega⟩
        · rintro e T ⟨⟨x4, x5, rfl⟩, ys, rfl, g1, g2⟩
          refine ⟨by rw [at_rng]; rfl, ?_⟩
          simp -implicitDefEqProofs only [Sat, evB]
          exact ⟨⟨_, _, _, _, rfl⟩, ys, rfl, g1, by omega⟩
        · exact one_nc (fun e T e' S' z => by simp [evB] at z) _ _ z
  · rintro env S ⟨⟨x2, x3, x4, x5, rfl⟩, xs, rfl, h1, h2⟩
    refine ⟨by simp [Wk.at, seqOf], ?_⟩
    simp -implicitDefEqProofs only [evT, ev, evs, evB, evS, Res.bind_ok, Res.out_ok, List.getElem?_cons_succ, List.getElem?_cons_zero, biV, lenV, seqOf, Option.map_some, ofO_some, cmpV, eqV, eqS, truth, List.length_map]
    cases xs with
    | nil =>
      simp [Sat, meV, meOk, mty, meAppend, evB, evS, LINE]
      exact ⟨[0], rfl, by simp, by simp, by simp⟩
    | cons y ys =>
      have : (((y :: ys).length : Int) == 0) = false := by
        rw [beq_eq_false_iff_ne]; simp; omega
      rw [this]
      simp -implicitDefEqProofs only [Bool.false_eq_true, if_false, Out.seq_nx, Sat]
      exact ⟨y :: ys, _, rfl, rfl, by simp, h1, by omega⟩
theorem bV_modS (i j : Int) (S : Sto) (h : j ≠ 0) : binV .mod (.int i) (.int j) S = .ok (.int (i.fmod j)) S := bV_mod i j S (by rw [beq_eq_false_iff_ne]; exact h)
theorem atV_nat {S : Sto} {i : Nat} {xs : List PV} {k : Nat} {p : PV} (h : seqOf S i = some xs) (e : xs[k]? = some p) : atV (.obj i) (.int (k : Int)) S = some p := by
  simp only [atV, h, Option.bind_some]
  exact atI_nat e
theorem cmp_lt (i j : Int) (S : Sto) : cmpV .lt (.int i) (.int j) S = some (decide (i < j)) := by
  simp [cmpV, ltV, ordB, pur, alk, isNon, dep, ltP]
theorem cmp_eq (i j : Int) (S : Sto) : cmpV .eq (.int i) (.int j) S = some (i == j) := by simp [cmpV, eqV, eqS]
theorem draw_ok {C : Ctx} {S : Sto} {i : Nat} {xs : List Int} {k : Nat} {lim : Int} (h : S[i]? = some (.lst (xs.map PV.int))) (hx : xs ≠ []) (hl : 0 < lim) :
    ∃ p S', runF C IR_draw [.obj i, .int k, .int lim] S = .ok p S' ∧ ∃ d : Int, p = .int d ∧ S' = S ∧ 0 ≤ d ∧ d < lim := by
  refine runF_sat rfl ?_
  have hs : seqOf S i = some (xs.map PV.int) := by simp [seqOf, h]
  have hln : 0 < xs.length := List.length_pos_iff.mpr hx
  simp -implicitDefEqProofs only [IR_draw, List.map_cons, List.map_nil, List.replicate, List.cons_append, List.nil_append, evB, evS, evT, ev, evs, Res.bind_ok, Res.out_ok, List.getElem?_cons_succ, List.getElem?_cons_zero, biV, lenV, hs, Option.map_some, ofO_some, List.length_map, cmp_lt, truth]
  by_cases hk : (k : Int) < (xs.length : Int)
  · have hk' : k < xs.length := by omega
    have ha : atV (.obj i) (.int (k : Int)) S = some (.int xs[k]) := atV_nat hs (by simp [hk'])
    simp -implicitDefEqProofs only [hk, decide_true, if_true, ha, ofO_some, Res.bind_ok, bV_modS _ lim _ (by omega), Res.out_ok, Out.seq_ret, Sat]
    exact ⟨_, rfl, trivial, Int.fmod_nonneg_of_pos _ hl, Int.fmod_lt_of_pos _ hl⟩
  · simp -implicitDefEqProofs only [hk, decide_false, Bool.false_eq_true, if_false, Out.seq_nx, Res.bind_ok, Res.out_ok, List.getElem?_cons_succ, List.getElem?_cons_zero, biV, lenV, hs, Option.map_some, ofO_some, List.length_map]
    have hm : 0 ≤ (k : Int).fmod (xs.length : Int) ∧ (k : Int).fmod (xs.length : Int) < xs.length := ⟨Int.fmod_nonneg_of_pos _ (by omega), Int.fmod_lt_of_pos _ (by omega)⟩
    rw [bV_modS _ _ _ (by omega)]
    generalize (k : Int).fmod (xs.length : Int) = m at hm
    obtain ⟨m, rfl⟩ := Int.eq_ofNat_of_zero_le hm.1
    have hm' : m < xs.length := by omega
    have ha : atV (.obj i) (.int (m : Int)) S = some (.int xs[m]) := atV_nat hs (by simp [hm'])
    simp -implicitDefEqProofs only [Res.bind_ok, ha, ofO_some, bV_add, bV_mulL _ 40692 _ rfl, bV_mulL _ 7919 _ rfl, bV_mulL _ 48271 _ rfl, bV_mod _ 2147483399 _ rfl, bV_mod _ 2147483647 _ rfl, bV_modS _ lim _ (show lim ≠ 0 by omega), Res.out_ok, bindP_nm, List.length_cons, List.length_nil, List.set, Nat.reduceAdd, Nat.reduceLT, if_true, Out.seq_nx, List.getElem?_cons_succ, List.getElem?_cons_zero, Out.seq_ret, Sat]
    exact ⟨_, rfl, trivial, Int.fmod_nonneg_of_pos _ hl, Int.fmod_lt_of_pos _ hl⟩
/-- the next number, below lim -/
theorem take_ok {C : Ctx} {S : Sto} {i j d : Nat} {xs : List Int} {k : Nat} {lim : Int} (hd : C.cf d = runF ⟨C.cf, C.gl⟩ IR_draw ∨ ∃ C', C.cf d = runF C' IR_draw) (h : S[i]? = some (.lst (xs.map PV.int))) (hj : S[j]? = some (.lst [.int k])) (hij : i ≠ j) (hx : xs ≠ []) (hl : 0 < lim) :
    ∃ p S', runF C (IR_take d) [.obj i, .obj j, .int lim] S = .ok p S' ∧ ∃ d : Int, p = .int d ∧ S' = S.set j (.lst [.int ((k + 1 : Nat) : Int)]) ∧ 0 ≤ d ∧ d < lim := by
  refine runF_sat rfl ?_
  have hs : seqOf S j = some [.int k] := by simp [seqOf, hj]
  have ha : atV (.obj j) (.int 0) S = some (.int (k : Int)) := by simp only [atV, hs]; rfl
  have hlt : j < S.length := (List.getElem?_eq_some_iff.mp hj).1
  have hs2 : seqOf (S.set j (.lst [.int ((k + 1 : Nat) : Int)])) j = some [.int ((k + 1 : Nat) : Int)] := by simp [seqOf, hlt]
  have hz2 : (S.set j (.lst [.int ((k + 1 : Nat) : Int)]))[i]? = some (.lst (xs.map PV.int)) := by rw [List.getElem?_set_ne (by omega)]; exact h
  have ha2 : atV (.obj j) (.int 0) (S.set j (.lst [.int ((k + 1 : Nat) : Int)])) = some (.int ((k + 1 : Nat) : Int)) := by simp only [atV, hs2]; rfl
  have hix : ixN [PV.int (k : Int)].length 0 = some 0 := rfl
  have hset : [PV.int (k : Int)].set 0 (.int ((k : Int) + 1)) = [.int ((k + 1 : Nat) : Int)] := by simp
  simp -implicitDefEqProofs only [IR_take, List.map_cons, List.map_nil, List.replicate, List.cons_append, List.nil_append, evB, evS, evT, ev, evs, Res.bind_ok, Res.out_ok, List.getElem?_cons_succ, List.getElem?_cons_zero, ha, ofO_some, bV_add, hj, hix, hset, Out.seq_nx, ha2, bV_sub]
  have e : ((k + 1 : Nat) : Int) - 1 = (k : Int) := by omega
  rw [e]
  have fin : ∀ C', Sat (((runF C' IR_draw [.obj i, .int k, .int lim] (S.set j (.lst [.int ((k + 1 : Nat) : Int)])))).out fun p S => .ret p S) NoB NoB (fun p S' => ∃ d : Int, p = .int d ∧ S' = S.set j (.lst [.int ((k + 1 : Nat) : Int)]) ∧ 0 ≤ d ∧ d < lim) := fun C' => by
    obtain ⟨p, S', h1, d, h2, h3, h4⟩ := draw_ok (C := C') hz2 hx hl
    rw [h1]
    exact ⟨d, h2, h3, h4⟩
  rcases hd with hd | ⟨C', hd⟩
  · rw [hd]
    have := fin ⟨C.cf, C.gl⟩
    revert this
    cases (runF ⟨C.cf, C.gl⟩ IR_draw [.obj i, .int k, .int lim] (S.set j (.lst [.int ((k + 1 : Nat) : Int)]))) <;> exact id
  · rw [hd]
    have := fin C'
    revert this
    cases (runF C' IR_draw [.obj i, .int k, .int lim] (S.set j (.lst [.int ((k + 1 : Nat) : Int)]))) <;> exact id
end TM

/-! TM, part Z: the same runs, laid for the kernel. -/
namespace TM
open L2

/-! ### lists and the store -/
noncomputable def znth {a : Type} (l : List a) : Nat → Option a := List.rec (motive := fun _ => Nat → Option a) (fun _ => none) (fun h _ ih n => Nat.rec (motive := fun _ => Option a) (some h) (fun m _ => ih m) n) l
noncomputable def zput {a : Type} (v : a) (l : List a) : Nat → List a := List.rec (motive := fun _ => Nat → List a) (fun _ => []) (fun h t ih n => Nat.rec (motive := fun _ => List a) (v :: t) (fun m _ => h :: ih m) n) l
noncomputable def zlen {a : Type} (l : List a) : Nat := List.rec (motive := fun _ => Nat) 0 (fun _ _ ih => Nat.succ ih) l
noncomputable def zapp {a : Type} (l m : List a) : List a := List.rec (motive := fun _ => List a) m (fun x _ ih => x :: ih) l
noncomputable def ztake {a : Type} (l : List a) : Nat → List a := List.rec (motive := fun _ => Nat → List a) (fun _ => []) (fun x _ ih n => Nat.rec (motive := fun _ => List a) [] (fun m _ => x :: ih m) n) l
noncomputable def zdrop {a : Type} (l : List a) : Nat → List a := List.rec (motive := fun _ => Nat → List a) (fun _ => []) (fun x t ih n => Nat.rec (motive := fun _ => List a) (x :: t) (fun m _ => ih m) n) l
/-- the place k of a list, by its tails (one place after another is quick) -/
noncomputable def ztl {a : Type} (l : List a) : List a := List.rec (motive := fun _ => List a) [] (fun _ t _ => t) l
noncomputable def zhd {a : Type} (l : List a) : Option a := List.rec (motive := fun _ => Option a) none (fun h _ _ => some h) l
noncomputable def ztls {a : Type} (l : List a) (k : Nat) : List a := Nat.rec (motive := fun _ => List a) l (fun _ ih => ztl ih) k
noncomputable def zget {a : Type} (l : List a) (k : Nat) : Option a := zhd (ztls l k)
theorem ztls_eq {a : Type} (l : List a) : ∀ k, ztls l k = l.drop k
  | 0 => rfl
  | k + 1 => by
    show ztl (ztls l k) = _
    rw [ztls_eq l k, ← List.tail_drop]
    cases l.drop k <;> rfl
theorem zget_eq {a : Type} (l : List a) (k : Nat) : zget l k = l[k]? := by
  unfold zget
  rw [ztls_eq]
  have : ∀ m : List a, zhd m = m[0]? := fun m => by cases m <;> rfl
  rw [this, List.getElem?_drop]
  rfl
theorem znth_eq {a : Type} : ∀ (l : List a) (i : Nat), znth l i = l[i]?
  | [], _ => by simp [znth]
  | _ :: _, 0 => rfl
  | x :: l, i + 1 => by
    have := znth_eq l i
    simpa [znth] using this
theorem zput_eq {a : Type} (v : a) : ∀ (l : List a) (i : Nat), zput v l i = l.set i v
  | [], _ => by simp [zput]
  | _ :: _, 0 => rfl
  | x :: l, i + 1 => by
    have := zput_eq v l i
    simpa [zput] using this
theorem zlen_eq {a : Type} : ∀ l : List a, zlen l = l.length
  | [] => rfl
  | x :: l => by
    show Nat.succ (zlen l) = _
    rw [zlen_eq l, List.length_cons]
theorem zapp_eq {a : Type} (m : List a) : ∀ l : List a, zapp l m = l ++ m
  | [] => rfl
  | x :: l => by
    show x :: zapp l m = _
    rw [zapp_eq m l]
    rfl
theorem ztake_eq {a : Type} : ∀ (l : List a) (n : Nat), ztake l n = l.take n
  | [], n => by simp [ztake]
  | x :: l, 0 => rfl
  | x :: l, n + 1 => by
    show x :: ztake l n = _
    rw [ztake_eq l n]
    rfl
theorem zdrop_eq {a : Type} : ∀ (l : List a) (n : Nat), zdrop l n = l.drop n
  | [], n => by simp [zdrop]
  | x :: l, 0 => rfl
  | x :: l, n + 1 => by
    show zdrop l n = _
    rw [zdrop_eq l n]
    rfl
/-- the value first -/
noncomputable def fN {b : Type} (n : Nat) (k : Nat → b) : b := Nat.rec (motive := fun _ => b) (k 0) (fun m _ => k (Nat.succ m)) n
theorem fN_eq {b : Type} (n : Nat) (k : Nat → b) : fN n k = k n := by cases n <;> rfl
noncomputable def fI {b : Type} (i : Int) (k : Int → b) : b := Int.rec (motive := fun _ => b) (fun n => fN n fun m => k (.ofNat m)) (fun n => fN n fun m => k (.negSucc m)) i
theorem fI_eq {b : Type} (i : Int) (k : Int → b) : fI i k = k i := by
  cases i with
  | ofNat n => exact fN_eq n fun m => k (.ofNat m)
  | negSucc n => exact fN_eq n fun m => k (.negSucc m)
inductive Tr where
  | e | n (o : Option PO) (l r : Tr)
noncomputable def fT {b : Type} (t : Tr) (k : Tr → b) : b := Tr.rec (motive := fun _ => b) (k .e) (fun o l r _ _ => k (.n o l r)) t
theorem fT_eq {b : Type} (t : Tr) (k : Tr → b) : fT t k = k t := by cases t <;> rfl
noncomputable def bC {b : Type} (c : Bool) (x y : b) : b := Bool.rec (motive := fun _ => b) y x c
theorem bC_eq {b : Type} (c : Bool) (x y : b) : bC c x y = if c then x else y := by cases c <;> rfl
/-- the place i: 0 here, odd to the left, even to the right -/
noncomputable def Tr.get (t : Tr) : Nat → Option PO := Tr.rec (motive := fun _ => Nat → Option PO) (fun _ => none) (fun o _ _ fl fr i => bC (Nat.beq i 0) o (bC (Nat.beq (i % 2) 1) (fN (i / 2) fl) (fN (i / 2 - 1) fr))) t
/-- to the place i of an empty tree -/
noncomputable def Tr.new (o : PO) (f : Nat) : Nat → Tr := Nat.rec (motive := fun _ => Nat → Tr) (fun _ => .e) (fun _ ih i => bC (Nat.beq i 0) (.n (some o) .e .e) (bC (Nat.beq (i % 2) 1) (fT (fN (i / 2) ih) fun t => .n none t .e) (fT (fN (i / 2 - 1) ih) fun t => .n none .e t))) f
noncomputable def Tr.put (o : PO) (t : Tr) : Nat → Tr := Tr.rec (motive := fun _ => Nat → Tr) (fun i => Tr.new o (i + 1) i) (fun x l r fl fr i => bC (Nat.beq i 0) (.n (some o) l r) (bC (Nat.beq (i % 2) 1) (fT (fN (i / 2) fl) fun t => .n x t r) (fT (fN (i / 2 - 1) fr) fun t => .n x l t))) t
theorem Tr.get_n (o : Option PO) (l r : Tr) (i : Nat) : (Tr.n o l r).get i = if i = 0 then o else if i % 2 = 1 then l.get (i / 2) else r.get (i / 2 - 1) := by
  show bC (Nat.beq i 0) o (bC (Nat.beq (i % 2) 1) (fN (i / 2) l.get) (fN (i / 2 - 1) r.get)) = _
  rw [bC_eq, bC_eq, fN_eq, fN_eq]
  simp only [Nat.beq_eq]
theorem Tr.new_s (o : PO) (f i : Nat) : Tr.new o (f + 1) i = if i = 0 then .n (some o) .e .e else if i % 2 = 1 then .n none (Tr.new o f (i / 2)) .e else .n none .e (Tr.new o f (i / 2 - 1)) := by
  show bC (Nat.beq i 0) _ (bC (Nat.beq (i % 2) 1) (fT (fN (i / 2) (Tr.new o f)) _) (fT (fN (i / 2 - 1) (Tr.new o f)) _)) = _
  rw [bC_eq, bC_eq, fN_eq, fN_eq, fT_eq, fT_eq]
  simp only [Nat.beq_eq]
theorem Tr.put_n (o : PO) (x : Option PO) (l r : Tr) (i : Nat) : (Tr.n x l r).put o i = if i = 0 then .n (some o) l r else if i % 2 = 1 then .n x (l.put o (i / 2)) r else .n x l (r.put o (i / 2 - 1)) := by
  show bC (Nat.beq i 0) _ (bC (Nat.beq (i % 2) 1) (fT (fN (i / 2) (l.put o)) _) (fT (fN (i / 2 - 1) (r.put o)) _)) = _
  rw [bC_eq, bC_eq, fN_eq, fN_eq, fT_eq, fT_eq]
  simp only [Nat.beq_eq]
theorem Tr.get_new (o : PO) : ∀ (f i j : Nat), i < f → (Tr.new o f i).get j = if j = i then some o else none
  | 0, i, j, h => by omega
  | f + 1, i, j, h => by
    rw [Tr.new_s]
    by_cases h0 : i = 0
    · rw [if_pos h0, Tr.get_n]
      by_cases hj : j = 0
      · rw [if_pos hj, if_pos (by omega)]
      · have hne : j ≠ i := by omega
        rw [if_neg hj, if_neg hne]
        split <;> rfl
    · rw [if_neg h0]
      by_cases h1 : i % 2 = 1
      · rw [if_pos h1, Tr.get_n]
        by_cases hj : j = 0
        · rw [if_pos hj, if_neg (by omega)]
        · rw [if_neg hj]
          by_cases hj1 : j % 2 = 1
          · rw [if_pos hj1, Tr.get_new o f _ _ (by omega)]
            by_cases e : j = i
            · rw [if_pos (by omega), if_pos e]
            · rw [if_neg (by omega), if_neg e]
          · rw [if_neg hj1, if_neg (by omega)]
            rfl
      · rw [if_neg h1, Tr.get_n]
        by_cases hj : j = 0
        · rw [if_pos hj, if_neg (by omega)]
        · rw [if_neg hj]
          by_cases hj1 : j % 2 = 1
          · rw [if_pos hj1, if_neg (by omega)]
            rfl
          · rw [if_neg hj1, Tr.get_new o f _ _ (by omega)]
            by_cases e : j = i
            · rw [if_pos (by omega), if_pos e]
            · rw [if_neg (by omega), if_neg e]
theorem Tr.get_put (o : PO) : ∀ (t : Tr) (i j : Nat), (t.put o i).get j = if j = i then some o else t.get j
  | .e, i, j => by
    show (Tr.new o (i + 1) i).get j = _
    rw [Tr.get_new o (i + 1) i j (by omega)]
    rfl
  | .n x l r, i, j => by
    rw [Tr.put_n]
    by_cases h0 : i = 0
    · rw [if_pos h0, Tr.get_n, Tr.get_n]
      by_cases hj : j = 0
      · rw [if_pos hj, if_pos (by omega)]
      · have hne : j ≠ i := by omega
        rw [if_neg hj, if_neg hj, if_neg hne]
    · rw [if_neg h0]
      by_cases h1 : i % 2 = 1
      · rw [if_pos h1, Tr.get_n, Tr.get_n]
        by_cases hj : j = 0
        · rw [if_pos hj, if_pos hj, if_neg (by omega)]
        · rw [if_neg hj, if_neg hj]
          by_cases hj1 : j % 2 = 1
          · rw [if_pos hj1, if_pos hj1, Tr.get_put o l]
            by_cases e : j = i
            · rw [if_pos (by omega), if_pos e]
            · rw [if_neg (by omega), if_neg e]
          · rw [if_neg hj1, if_neg hj1, if_neg (by omega)]
      · rw [if_neg h1, Tr.get_n, Tr.get_n]
        by_cases hj : j = 0
        · rw [if_pos hj, if_pos hj, if_neg (by omega)]
        · rw [if_neg hj, if_neg hj]
          by_cases hj1 : j % 2 = 1
          · rw [if_pos hj1, if_pos hj1, if_neg (by omega)]
          · rw [if_neg hj1, if_neg hj1, Tr.get_put o r]
            by_cases e : j = i
            · rw [if_pos (by omega), if_pos e]
            · rw [if_neg (by omega), if_neg e]
/-- the store as a tree -/
inductive ZS where
  | mk (n : Nat) (t : Tr)
noncomputable def ZS.get (Z : ZS) (i : Nat) : Option PO := ZS.rec (motive := fun _ => Option PO) (fun _ t => t.get i) Z
noncomputable def ZS.put (Z : ZS) (i : Nat) (o : PO) : ZS := ZS.rec (motive := fun _ => ZS) (fun n t => fT (t.put o i) fun t => .mk n t) Z
noncomputable def ZS.len (Z : ZS) : Nat := ZS.rec (motive := fun _ => Nat) (fun n _ => n) Z
noncomputable def ZS.push (Z : ZS) (o : PO) : ZS := ZS.rec (motive := fun _ => ZS) (fun n t => fN (n + 1) fun m => fT (t.put o n) fun t => .mk m t) Z
structure ZR (Z : ZS) (S : Sto) : Prop where
  len : Z.len = S.length
  get : ∀ i, Z.get i = S[i]?
theorem ZR.put {Z : ZS} {S : Sto} (h : ZR Z S) {i : Nat} (hi : i < S.length) (o : PO) : ZR (Z.put i o) (S.set i o) := by
  cases Z with
  | mk n t =>
    have e : ZS.put (.mk n t) i o = .mk n (t.put o i) := fT_eq _ _
    rw [e]
    refine ⟨by rw [List.length_set]; exact h.len, fun j => ?_⟩
    show (t.put o i).get j = _
    rw [Tr.get_put]
    by_cases q : j = i
    · subst q
      rw [if_pos rfl, List.getElem?_set_self hi]
    · rw [if_neg q, List.getElem?_set_ne (by omega)]
      exact h.get j
theorem ZR.push {Z : ZS} {S : Sto} (h : ZR Z S) (o : PO) : ZR (Z.push o) (S ++ [o]) := by
  cases Z with
  | mk n t =>
    have e : ZS.push (.mk n t) o = .mk (n + 1) (t.put o n) := by
      show fN (n + 1) (fun m => fT (t.put o n) fun t => ZS.mk m t) = _
      rw [fN_eq, fT_eq]
    have hn : n = S.length := h.len
    rw [e]
    refine ⟨by rw [List.length_append, ← hn]; rfl, fun j => ?_⟩
    show (t.put o n).get j = _
    rw [Tr.get_put]
    by_cases q : j = n
    · rw [if_pos q, q, hn]; simp
    · rw [if_neg q]
      refine (h.get j).trans ?_
      rcases Nat.lt_or_ge j S.length with w | w
      · rw [List.getElem?_append_left w]
      · rw [List.getElem?_eq_none w, List.getElem?_eq_none (by rw [List.length_append]; simp; omega)]
end TM

/-! TM, part Z2: the values' operations over any store. -/
namespace TM
open PySem L2
abbrev Lk := Nat → Option PO
def lkS (S : Sto) : Lk := fun i => S[i]?
theorem ZR.lk {Z : ZS} {S : Sto} (h : ZR Z S) : Z.get = lkS S := funext h.get
/-- what an operation does to the store -/
inductive Ef where
  | val (p : PV) | new (o : PO) | upd (i : Nat) (o : PO) (p : PV) | bad
def Ef.run (e : Ef) (S : Sto) : Res PV := match e with
  | .val p => .ok p S
  | .new o => .ok (.obj S.length) (S ++ [o])
  | .upd i o p => .ok p (S.set i o)
  | .bad => .bad
def seqG (g : Lk) (i : Nat) : Option (List PV) := match g i with
  | some (.lst xs) => some xs
  | some (.ro xs) => some xs
  | none => none
theorem seqG_eq (S : Sto) (i : Nat) : seqOf S i = seqG (lkS S) i := rfl
def truthG (g : Lk) : PV → Option Bool
  | .non => some false
  | .bl b => some b
  | .int i => some (i != 0)
  | .str cs => if cs.length ≤ LINE then some (!cs.isEmpty) else none
  | .tup ps => some (!ps.isEmpty)
  | .obj i => match g i with
    | some (.lst xs) => some (!xs.isEmpty)
    | some (.ro xs) => some (!xs.isEmpty)
    | none => none
theorem truthG_eq (S : Sto) (p : PV) : truth S p = truthG (lkS S) p := by cases p <;> rfl
def ofV (o : Option PV) : Ef := match o with
  | some p => .val p
  | none => .bad
theorem ofV_run (o : Option PV) (S : Sto) : ofO o S = (ofV o).run S := by cases o <;> rfl
def ofB (o : Option Bool) : Ef := match o with
  | some p => .val (.bl p)
  | none => .bad
theorem ofB_run (o : Option Bool) (S : Sto) : ofO (o.map PV.bl) S = (ofB o).run S := by cases o <;> rfl
def ofI (o : Option Int) : Ef := match o with
  | some p => .val (.int p)
  | none => .bad
theorem ofI_run (o : Option Int) (S : Sto) : ofO (o.map PV.int) S = (ofI o).run S := by cases o <;> rfl
/-! whole numbers -/
noncomputable def zII {b : Type} (i j : Int) (pp pn np nn : Nat → Nat → b) : b := Int.rec (motive := fun _ => b) (fun n => Int.rec (motive := fun _ => b) (fun m => pp n m) (fun m => pn n m) j) (fun n => Int.rec (motive := fun _ => b) (fun m => np n m) (fun m => nn n m) j) i
noncomputable def zilt (i j : Int) : Bool := zII i j Nat.blt (fun _ _ => false) (fun _ _ => true) (fun n m => Nat.blt m n)
noncomputable def zieq (i j : Int) : Bool := zII i j Nat.beq (fun _ _ => false) (fun _ _ => false) Nat.beq
noncomputable def zsubN (n m : Nat) : Int := bC (Nat.ble m n) (.ofNat (n - m)) (.negSucc (m - n - 1))
noncomputable def ziadd (i j : Int) : Int := zII i j (fun n m => .ofNat (n + m)) (fun n m => zsubN n (m + 1)) (fun n m => zsubN m (n + 1)) (fun n m => .negSucc (n + m + 1))
noncomputable def zineg (i : Int) : Int := Int.rec (motive := fun _ => Int) (fun n => Nat.rec (motive := fun _ => Int) (.ofNat 0) (fun m _ => .negSucc m) n) (fun n => .ofNat (n + 1)) i
noncomputable def zisub (i j : Int) : Int := zII i j zsubN (fun n m => .ofNat (n + (m + 1))) (fun n m => .negSucc (n + m)) (fun n m => zsubN m n)
noncomputable def zimul (i j : Int) : Int := zII i j (fun n m => .ofNat (n * m)) (fun n m => zineg (.ofNat (n * (m + 1)))) (fun n m => zineg (.ofNat ((n + 1) * m))) (fun n m => .ofNat ((n + 1) * (m + 1)))
noncomputable def zimod (i j : Int) : Int := zII i j (fun n m => .ofNat (n % m)) (fun n m => Int.fmod (.ofNat n) (.negSucc m)) (fun n m => Int.fmod (.negSucc n) (.ofNat m)) (fun n m => Int.fmod (.negSucc n) (.negSucc m))
noncomputable def zidiv (i j : Int) : Int := zII i j (fun n m => .ofNat (n / m)) (fun n m => Int.fdiv (.ofNat n) (.negSucc m)) (fun n m => Int.fdiv (.negSucc n) (.ofNat m)) (fun n m => Int.fdiv (.negSucc n) (.negSucc m))
theorem nblt (n m : Nat) : Nat.blt n m = decide (n < m) := by
  rw [Bool.eq_iff_iff, decide_eq_true_eq]
  exact ⟨Nat.le_of_ble_eq_true, Nat.ble_eq_true_of_le⟩
theorem nbeq (n m : Nat) : Nat.beq n m = decide (n = m) := by
  rw [Bool.eq_iff_iff, decide_eq_true_eq]
  exact ⟨Nat.eq_of_beq_eq_true, fun h => by rw [Nat.beq_eq]; exact h⟩
theorem zilt_eq (i j : Int) : zilt i j = decide (i < j) := by
  cases i with
  | ofNat n =>
    cases j with
    | ofNat m =>
      show Nat.blt n m = _
      rw [nblt]
      exact decide_eq_decide.mpr (by simp only [Int.ofNat_eq_natCast]; omega)
    | negSucc m =>
      show false = _
      symm
      rw [decide_eq_false_iff_not]
      simp only [Int.ofNat_eq_natCast]
      omega
  | negSucc n =>
    cases j with
    | ofNat m =>
      show true = _
      symm
      rw [decide_eq_true_eq]
      simp only [Int.ofNat_eq_natCast]
      omega
    | negSucc m =>
      show Nat.blt m n = _
      rw [nblt]
      exact decide_eq_decide.mpr (by omega)
theorem zieq_eq (i j : Int) : zieq i j = (i == j) := by
  rw [show (i == j) = decide (i = j) from rfl]
  cases i with
  | ofNat n =>
    cases j with
    | ofNat m =>
      show Nat.beq n m = _
      rw [nbeq]
      exact decide_eq_decide.mpr (by simp only [Int.ofNat_eq_natCast]; omega)
    | negSucc m =>
      show false = _
      symm
      rw [decide_eq_false_iff_not]
      exact fun h => by cases h
  | negSucc n =>
    cases j with
    | ofNat m =>
      show false = _
      symm
      rw [decide_eq_false_iff_not]
      exact fun h => by cases h
    | negSucc m =>
      show Nat.beq n m = _
      rw [nbeq]
      exact decide_eq_decide.mpr (by omega)
theorem zsubN_eq (n m : Nat) : zsubN n m = (n : Int) - (m : Int) := by
  unfold zsubN
  by_cases h : m ≤ n
  · rw [Nat.ble_eq_true_of_le h]
    show Int.ofNat (n - m) = _
    simp only [Int.ofNat_eq_natCast]
    omega
  · have : Nat.ble m n = false := by
      rw [← Bool.not_eq_true]
      exact fun q => h (Nat.le_of_ble_eq_true q)
    rw [this]
    show Int.negSucc (m - n - 1) = _
    omega
theorem ziadd_eq (i j : Int) : ziadd i j = i + j := by
  cases i with
  | ofNat n =>
    cases j with
    | ofNat m => rfl
    | negSucc m =>
      show zsubN n (m + 1) = _
      rw [zsubN_eq]
      simp only [Int.ofNat_eq_natCast]
      omega
  | negSucc n =>
    cases j with
    | ofNat m =>
      show zsubN m (n + 1) = _
      rw [zsubN_eq]
      simp only [Int.ofNat_eq_natCast]
      omega
    | negSucc m => rfl
theorem zisub_eq (i j : Int) : zisub i j = i - j := by
  cases i with
  | ofNat n =>
    cases j with
    | ofNat m =>
      show zsubN n m = _
      rw [zsubN_eq]
      rfl
    | negSucc m =>
      show Int.ofNat (n + (m + 1)) = _
      simp only [Int.ofNat_eq_natCast]
      omega
  | negSucc n =>
    cases j with
    | ofNat m =>
      show Int.negSucc (n + m) = _
      simp only [Int.ofNat_eq_natCast]
      omega
    | negSucc m =>
      show zsubN m n = _
      rw [zsubN_eq]
      omega
theorem zineg_eq (i : Int) : zineg i = -i := by
  cases i with
  | ofNat n => cases n <;> rfl
  | negSucc n => rfl
theorem zimul_eq (i j : Int) : zimul i j = i * j := by
  cases i with
  | ofNat n =>
    cases j with
    | ofNat m => rfl
    | negSucc m =>
      show zineg (.ofNat (n * (m + 1))) = _
      rw [zineg_eq]
      simp only [Int.ofNat_eq_natCast, Int.negSucc_eq]
      push_cast
      rw [Int.mul_neg]
  | negSucc n =>
    cases j with
    | ofNat m =>
      show zineg (.ofNat ((n + 1) * m)) = _
      rw [zineg_eq]
      simp only [Int.ofNat_eq_natCast, Int.negSucc_eq]
      push_cast
      rw [Int.neg_mul]
    | negSucc m => rfl
theorem zimod_eq (i j : Int) : zimod i j = i.fmod j := by
  cases i <;> cases j <;> first | rfl | (rename_i a b; cases a <;> rfl)
theorem zidiv_eq (i j : Int) : zidiv i j = i.fdiv j := by
  cases i <;> cases j <;> first
    | rfl
    | (rename_i a b; cases a <;> first
        | rfl
        | (show Int.ofNat (0 / b) = _; rw [Nat.zero_div]; rfl))
noncomputable def zB (o : Op2) (i j : Int) : Option Int := match o with
  | .add => some (ziadd i j)
  | .sub => some (zisub i j)
  | .mul => bC (zilt (-P64) i && zilt i P64) (some (zimul i j)) (if mulOk i j then some (zimul i j) else none)
  | .mod => bC (zieq j 0) none (some (zimod i j))
  | .fdiv => bC (zieq j 0) none (bC (Nat.blt j.natAbs 1073741824) (some (zidiv i j)) none)
  | o => binI o i j
theorem zB_eq (o : Op2) (i j : Int) : zB o i j = binI o i j := by
  cases o with
  | add => simp only [zB, binI, ziadd_eq]
  | sub => simp only [zB, binI, zisub_eq]
  | mul =>
    simp only [zB, binI, zimul_eq, bC_eq, zilt_eq]
    by_cases h : (decide (-P64 < i) && decide (i < P64)) = true
    · have : mulOk i j = true := by unfold mulOk; rw [h]; rfl
      rw [if_pos h, if_pos this]
    · rw [if_neg h]
  | mod =>
    simp only [zB, binI, zimod_eq, bC_eq, zieq_eq, bne]
    by_cases h : (j == 0) = true <;> simp [h]
  | fdiv =>
    simp only [zB, binI, zidiv_eq, bC_eq, zieq_eq, bne, nblt]
    by_cases h : (j == 0) = true <;> simp [h]
  | _ => rfl
noncomputable def binG (o : Op2) (p q : PV) (g : Lk) : Ef := match p, q with
  | .int i, .int j => ofI (zB o i j)
  | .str a, .str b => match o with
    | .add => if zlen a + zlen b ≤ LINE then .val (.str (zapp a b)) else .bad
    | _ => .bad
  | .tup a, .tup b => match o with
    | .add => if zlen a + zlen b ≤ LINE then .val (.tup (zapp a b)) else .bad
    | _ => .bad
  | .obj i, .obj j => match o with
    | .add => match g i, g j with
      | some (.lst a), some (.lst b) => if zlen a + zlen b ≤ LINE then .new (.lst (zapp a b)) else .bad
      | _, _ => .bad
    | _ => .bad
  | .obj i, .int k => match o with
    | .mul => match g i with
      | some (.lst a) => if decide (-(2 ^ 63) ≤ k) && decide (k < 2 ^ 63) && decide (zlen a * k.toNat ≤ LINE) then .new (.lst (List.replicate k.toNat a).flatten) else .bad
      | _ => .bad
    | _ => .bad
  | _, _ => .bad
theorem run_ite (c : Prop) [Decidable c] (a b : Ef) (S : Sto) : (if c then a else b).run S = if c then a.run S else b.run S := by split <;> rfl
theorem binG_eq (o : Op2) (p q : PV) (S : Sto) : binV o p q S = (binG o p q (lkS S)).run S := by
  unfold binG
  simp only [zlen_eq, zapp_eq, zB_eq]
  cases p <;> cases q <;> first
    | rfl
    | exact ofI_run _ _
    | skip
  all_goals cases o <;> first
    | rfl
    | (simp only [binV, run_ite]; rfl)
    | skip
  · rename_i i k
    simp only [binV, lkS]
    cases S[i]? with
    | none => rfl
    | some w => cases w <;> first | rfl | (simp only [run_ite]; rfl)
  · rename_i i j
    simp only [binV, lkS]
    cases S[i]? with
    | none => rfl
    | some w =>
      cases S[j]? with
      | none => cases w <;> rfl
      | some v => cases w <;> cases v <;> first | rfl | (simp only [run_ite]; rfl)
def datG (g : Lk) : PV → Option PyData
  | .obj i => match seqG g i with
    | some xs => (datL xs).map PyData.list
    | none => none
  | p => dat p
theorem datG_eq (S : Sto) (p : PV) : datS S p = datG (lkS S) p := by cases p <;> rfl
def eqDG (g : Lk) (p q : PV) : Option Bool := match datG g p, datG g q with
  | some d, some e => if SeqAt.shaped d && SeqAt.shaped e then some (PyData.eqv d e) else none
  | _, _ => none
def eqG (g : Lk) (p q : PV) : Option Bool := match eqS p q with
  | some b => some b
  | none => eqDG g p q
theorem eqG_eq (S : Sto) (p q : PV) : eqV S p q = eqG (lkS S) p q := by
  unfold eqV eqG eqD eqDG
  rw [datG_eq, datG_eq]
  all_goals (cases eqS p q <;> rfl)
/-- quick ways for what is met most -/
noncomputable def eqQ (g : Lk) (p q : PV) : Option Bool := match p, q with
  | .int i, .int j => some (zieq i j)
  | .tup [.int a, .int b], .tup [.int c, .int d] => some (zieq a c && zieq b d)
  | p, q => eqG g p q
noncomputable def ltQ (p q : PV) : Option Bool := match p, q with
  | .int i, .int j => some (zilt i j)
  | .tup [.int a, .int b], .tup [.int c, .int d] => some (bC (zieq a c) (bC (zieq b d) false (zilt b d)) (zilt a c))
  | p, q => ltV p q
theorem eqQ_eq (g : Lk) (p q : PV) : eqQ g p q = eqG g p q := by
  unfold eqQ
  simp only [zieq_eq]
  split
  · rfl
  · simp [eqG, eqS, eqDG, datG, dat, datL, PyData.eqv, PyData.eqvAll, SeqAt.shaped]
    exact ⟨rfl, by simp [PyData.depth, PyData.depthAll], rfl, by simp [PyData.depth, PyData.depthAll]⟩
  · rfl
theorem ltQ_eq (p q : PV) : ltQ p q = ltV p q := by
  unfold ltQ
  simp only [zieq_eq, zilt_eq, bC_eq]
  split
  · simp [ltV, ordB, pur, alk, isNon, dep, ltP]
  · simp [ltV, ordB, pur, purL, alk, alkL, isNon, dep, depL, ltP, ltPL, eqP]
  · rfl
noncomputable def cmpG (o : Cop) (p q : PV) (g : Lk) : Option Bool := match o with
  | .eq => eqQ g p q
  | .ne => (eqQ g p q).map (!·)
  | .lt => ltQ p q
  | .gt => if ordB p q then some (ltP q p) else none
  | .le => if ordB p q then some (!ltP q p) else none
  | .ge => if ordB p q then some (!ltP p q) else none
  | .is => match q with
    | .non => some (match p with | .non => true | _ => false)
    | _ => none
  | .isnot => match q with
    | .non => some (match p with | .non => false | _ => true)
    | _ => none
  | .inn => none
  | .notin => none
theorem cmpG_eq (o : Cop) (p q : PV) (S : Sto) : cmpV o p q S = cmpG o p q (lkS S) := by
  cases o <;> first
    | rfl
    | exact (eqG_eq S p q).trans (eqQ_eq _ p q).symm
    | exact (ltQ_eq p q).symm
    | (simp only [cmpV, cmpG, eqQ_eq, eqG_eq])
noncomputable def zat {a : Type} (xs : List a) (k : Int) : Option a := Int.rec (motive := fun _ => Option a) (fun n => zget xs n) (fun n => (ixN (zlen xs) (.negSucc n)).bind fun j => znth xs j) k
theorem zat_eq {a : Type} (xs : List a) (k : Int) : zat xs k = atI xs k := by
  cases k with
  | ofNat n =>
    show zget xs n = _
    rw [zget_eq]
    unfold atI ixN
    rw [if_pos (show (0 : Int) ≤ Int.ofNat n from Int.natCast_nonneg n)]
    by_cases h : n < xs.length
    · rw [if_pos (show Int.ofNat n < (xs.length : Int) from Int.ofNat_lt.mpr h)]
      rfl
    · rw [if_neg (show ¬ Int.ofNat n < (xs.length : Int) from fun q => h (Int.ofNat_lt.mp q))]
      exact List.getElem?_eq_none (by omega)
  | negSucc n =>
    show (ixN (zlen xs) (.negSucc n)).bind (fun j => znth xs j) = _
    unfold atI
    rw [zlen_eq]
    cases ixN xs.length (.negSucc n) with
    | none => rfl
    | some j => exact znth_eq xs j
noncomputable def atG (p q : PV) (g : Lk) : Option PV := match p, q with
  | .obj i, .int k => (seqG g i).bind fun xs => zat xs k
  | .tup xs, .int k => zat xs k
  | .str cs, .int k => if zlen cs ≤ LINE then (zat cs k).map fun c => PV.str [c] else none
  | _, _ => none
theorem atG_eq (p q : PV) (S : Sto) : atV p q S = atG p q (lkS S) := by
  cases p <;> cases q <;> first
    | rfl
    | (simp only [atV, atG, zat_eq, zlen_eq, seqG_eq])
noncomputable def zcut {a : Type} (xs : List a) (lo hi : Option Int) : List a := (fun n => ztake (zdrop xs (HT.sIx n 0 lo)) (HT.sIx n n hi - HT.sIx n 0 lo)) (zlen xs)
theorem zcut_eq {a : Type} (xs : List a) (lo hi : Option Int) : zcut xs lo hi = cutL xs lo hi := by
  unfold zcut cutL
  simp only [zlen_eq, ztake_eq, zdrop_eq]
noncomputable def cutG (p : PV) (lo hi : Option Int) (g : Lk) : Ef := match p with
  | .obj i => match seqG g i with
    | some xs => .new (.lst (zcut xs lo hi))
    | none => .bad
  | .tup xs => .val (.tup (zcut xs lo hi))
  | .str cs => if zlen cs ≤ LINE then .val (.str (zcut cs lo hi)) else .bad
  | _ => .bad
theorem cutG_eq (p : PV) (lo hi : Option Int) (S : Sto) : cutP p lo hi S = (cutG p lo hi (lkS S)).run S := by
  unfold cutG
  simp only [zcut_eq, zlen_eq]
  cases p <;> first
    | rfl
    | (simp only [cutP, run_ite]; rfl)
    | skip
  rename_i i
  simp only [cutP, seqG_eq]
  cases seqG (lkS S) i <;> rfl
def isiG (g : Lk) : PV → Ty → Option Bool
  | .non, _ => some false
  | .bl _, t => some (t == .int || t == .bool)
  | .int _, t => some (t == .int)
  | .str _, t => some (t == .str)
  | .tup _, t => some (t == .tuple)
  | .obj i, t => match g i with
    | some (.lst _) => some (t == .list)
    | some (.ro _) => none
    | none => none
theorem isiG_eq (S : Sto) (p : PV) (t : Ty) : isiV S p t = isiG (lkS S) p t := by cases p <;> rfl
def isiLG (g : Lk) (p : PV) : List Ty → Option Bool
  | [] => some false
  | t :: ts => match isiG g p t, isiLG g p ts with
    | some a, some b => some (a || b)
    | _, _ => none
theorem isiLG_eq (S : Sto) (p : PV) : ∀ ts, isiL S p ts = isiLG (lkS S) p ts
  | [] => rfl
  | t :: ts => by
    simp only [isiL, isiLG, isiG_eq, isiLG_eq S p ts]
    all_goals (cases isiG (lkS S) p t <;> cases isiLG (lkS S) p ts <;> rfl)
noncomputable def lenG (g : Lk) : PV → Option Int
  | .str cs => if zlen cs ≤ LINE then some (zlen cs) else none
  | .tup xs => some (zlen xs)
  | .obj i => (seqG g i).map fun xs => (zlen xs : Int)
  | _ => none
theorem lenG_eq (S : Sto) (p : PV) : lenV S p = lenG (lkS S) p := by
  unfold lenG
  simp only [zlen_eq]
  cases p <;> rfl
noncomputable def biG (b : BI) (as : List PV) (g : Lk) : Ef := match b, as with
  | .len, [p] => ofI (lenG g p)
  | .int, [.int i] => .val (.int i)
  | .int, [.bl b] => .val (.int (if b then 1 else 0))
  | .abs, [.int i] => .val (.int (if i < 0 then -i else i))
  | .min2, [.int i, .int j] => .val (.int (if j < i then j else i))
  | .max2, [.int i, .int j] => .val (.int (if j > i then j else i))
  | .tuple, [.obj i] => match g i with
    | some (.lst xs) => .val (.tup xs)
    | _ => .bad
  | .tuple, [.tup xs] => .val (.tup xs)
  | .list, [.obj i] => match seqG g i with
    | some xs => .new (.lst xs)
    | _ => .bad
  | .list, [.tup xs] => .new (.lst xs)
  | .sorted, [.obj i] => match seqG g i with
    | some xs => match sortV xs with
      | some ys => .new (.lst ys)
      | none => .bad
    | _ => .bad
  | _, _ => .bad
theorem biG_eq (b : BI) (as : List PV) (S : Sto) : biV b as S = (biG b as (lkS S)).run S := by
  unfold biV
  split <;> simp only [biG] <;> first
    | rfl
    | (rw [lenG_eq]; exact ofI_run _ _)
    | skip
  · rename_i i
    simp only [lkS]
    cases S[i]? with
    | none => rfl
    | some w => cases w <;> rfl
  · rename_i i
    rw [seqG_eq]
    cases seqG (lkS S) i <;> rfl
  · rename_i i
    rw [seqG_eq]
    cases seqG (lkS S) i with
    | none => rfl
    | some xs =>
      simp only []
      cases sortV xs <;> rfl
def mtyG (g : Lk) : PV → Option MTy
  | .str _ => some .str
  | .obj i => match g i with
    | some (.lst _) => some .lst
    | some (.ro _) => some .lst
    | none => none
  | _ => none
theorem mtyG_eq (S : Sto) (p : PV) : mty S p = mtyG (lkS S) p := by cases p <;> rfl
noncomputable def apG (o : PV) (as : List PV) (g : Lk) : Ef := match o, as with
  | .obj i, [p] => match g i with
    | some (.lst xs) => if zlen xs < LINE then .upd i (.lst (zapp xs [p])) .non else .bad
    | _ => .bad
  | _, _ => .bad
noncomputable def popG (o : PV) (as : List PV) (g : Lk) : Ef := match o, as with
  | .obj i, [] => match g i with
    | some (.lst xs) => match xs[xs.length - 1]? with
      | some y => .upd i (.lst xs.dropLast) y
      | none => .bad
    | _ => .bad
  | _, _ => .bad
theorem apG_eq (o : PV) (as : List PV) (S : Sto) : meAppend o as S = (apG o as (lkS S)).run S := by
  unfold apG
  simp only [zlen_eq, zapp_eq]
  cases o <;> first
    | rfl
    | skip
  rename_i i
  cases as with
  | nil => rfl
  | cons p r =>
    cases r with
    | nil =>
      simp only [meAppend, lkS]
      cases S[i]? with
      | none => rfl
      | some w => cases w <;> first | rfl | (simp only [run_ite]; rfl)
    | cons _ _ => rfl
theorem popG_eq (o : PV) (as : List PV) (S : Sto) : mePop o as S = (popG o as (lkS S)).run S := by
  cases o <;> first
    | rfl
    | skip
  rename_i i
  cases as with
  | nil =>
    simp only [mePop, popG, lkS]
    cases S[i]? with
    | none => rfl
    | some w =>
      cases w with
      | ro _ => rfl
      | lst xs =>
        simp only []
        cases xs[xs.length - 1]? <;> rfl
  | cons p r => rfl
noncomputable def meG (m : ME) (t : MTy) (o : PV) (as : List PV) (g : Lk) : Ef := match m, t with
  | .append, .lst => apG o as g
  | .pop, .lst => popG o as g
  | _, _ => .bad
theorem meG_eq (m : ME) (t : MTy) (o : PV) (as : List PV) (S : Sto) : meV m t o as S = (meG m t o as (lkS S)).run S := by
  cases m <;> cases t <;> first
    | rfl
    | exact apG_eq o as S
    | exact popG_eq o as S
end TM

/-! TM, part Z3: the runs over the tree. -/
namespace TM
open PySem L2
inductive ZRes (a : Type) where
  | ok (x : a) (Z : ZS) | exc (x : PX) (Z : ZS) | bad
noncomputable def ZRes.bnd {a b : Type} (r : ZRes a) (f : a → ZS → ZRes b) : ZRes b := ZRes.rec (motive := fun _ => ZRes b) f (fun x Z => .exc x Z) .bad r
def RZ {a : Type} (r : ZRes a) (r' : Res a) : Prop := match r with
  | .ok x Z => ∃ S, r' = .ok x S ∧ ZR Z S
  | .exc x Z => ∃ S, r' = .exc x S ∧ ZR Z S
  | .bad => True
theorem RZ.bnd {a b : Type} {r : ZRes a} {r' : Res a} {f : a → ZS → ZRes b} {f' : a → Sto → Res b} (h : RZ r r') (k : ∀ x Z S, ZR Z S → RZ (f x Z) (f' x S)) : RZ (r.bnd f) (r'.bind f') := by
  cases r with
  | ok x Z =>
    obtain ⟨S, rfl, hz⟩ := h
    exact k x Z S hz
  | exc x Z =>
    obtain ⟨S, rfl, hz⟩ := h
    exact ⟨S, rfl, hz⟩
  | bad => trivial
theorem RZ.ok {a : Type} {x : a} {Z : ZS} {S : Sto} (h : ZR Z S) : RZ (.ok x Z) (.ok x S) := ⟨S, rfl, h⟩
noncomputable def zofO {a : Type} (o : Option a) (Z : ZS) : ZRes a := Option.rec (motive := fun _ => ZRes a) .bad (fun x => .ok x Z) o
theorem RZ.ofO {a : Type} {o : Option a} {Z : ZS} {S : Sto} (h : ZR Z S) : RZ (zofO o Z) (ofO o S) := by
  cases o with
  | none => trivial
  | some x => exact .ok h
noncomputable def fV {b : Type} (p : PV) (k : PV → b) : b := match p with
  | .int i => fI i fun i => k (.int i)
  | p => k p
theorem fV_eq {b : Type} (p : PV) (k : PV → b) : fV p k = k p := by
  cases p <;> first | rfl | exact fI_eq _ fun i => k (.int i)
/-- a list's spine first -/
noncomputable def fL {b : Type} (xs : List PV) : (List PV → b) → b := List.rec (motive := fun _ => (List PV → b) → b) (fun k => k []) (fun x _ ih k => fV x fun x => ih fun ys => k (x :: ys)) xs
theorem fL_eq {b : Type} : ∀ (xs : List PV) (k : List PV → b), fL xs k = k xs
  | [], k => rfl
  | x :: xs, k => by
    show fV x (fun x => fL xs fun ys => k (x :: ys)) = _
    rw [fV_eq, fL_eq xs]
noncomputable def fC {b : Type} (xs : List Nat) : (List Nat → b) → b := List.rec (motive := fun _ => (List Nat → b) → b) (fun k => k []) (fun x _ ih k => fN x fun x => ih fun ys => k (x :: ys)) xs
theorem fC_eq {b : Type} : ∀ (xs : List Nat) (k : List Nat → b), fC xs k = k xs
  | [], k => rfl
  | x :: xs, k => by
    show fN x (fun x => fC xs fun ys => k (x :: ys)) = _
    rw [fN_eq, fC_eq xs]
noncomputable def fW {b : Type} (p : PV) (k : PV → b) : b := match p with
  | .int i => fI i fun i => k (.int i)
  | .tup xs => fL xs fun xs => k (.tup xs)
  | .str cs => fC cs fun cs => k (.str cs)
  | p => k p
theorem fW_eq {b : Type} (p : PV) (k : PV → b) : fW p k = k p := by
  cases p <;> first | rfl | exact fI_eq _ fun i => k (.int i) | exact fL_eq _ fun i => k (.tup i) | exact fC_eq _ fun i => k (.str i)
noncomputable def fO {b : Type} (o : PO) (k : PO → b) : b := match o with
  | .lst xs => fL xs fun xs => k (.lst xs)
  | o => k o
theorem fO_eq {b : Type} (o : PO) (k : PO → b) : fO o k = k o := by
  cases o <;> first | rfl | exact fL_eq _ fun i => k (.lst i)
noncomputable def zrun (e : Ef) (Z : ZS) : ZRes PV := Ef.rec (motive := fun _ => ZRes PV) (fun p => fW p fun p => .ok p Z) (fun o => fO o fun o => fN Z.len fun n => .ok (.obj n) (Z.push o)) (fun i o p => fO o fun o => bC (Nat.blt i Z.len) (.ok p (Z.put i o)) .bad) .bad e
theorem zrun_ok {e : Ef} {Z : ZS} {S : Sto} (h : ZR Z S) : RZ (zrun e Z) (e.run S) := by
  cases e with
  | val p =>
    show RZ (fW p fun p => .ok p Z) _
    rw [fW_eq]
    exact .ok h
  | new o =>
    show RZ (fO o fun o => fN Z.len fun n => ZRes.ok (PV.obj n) (Z.push o)) _
    rw [fO_eq, fN_eq, h.len]
    exact .ok (h.push o)
  | upd i o p =>
    show RZ (fO o fun o => bC (Nat.blt i Z.len) (.ok p (Z.put i o)) .bad) _
    rw [fO_eq, bC_eq]
    split
    · rename_i hb
      have hb : i < Z.len := Nat.le_of_ble_eq_true hb
      rw [h.len] at hb
      exact .ok (h.put hb o)
    · trivial
  | bad => trivial
/-! quick ways -/
noncomputable def onI {b : Type} (p : PV) (k : Int → b) (d : b) : b := PV.casesOn (motive_1 := fun _ => b) p d (fun _ => d) k (fun _ => d) (fun _ => d) (fun _ => d)
noncomputable def onB {b : Type} (p : PV) (k : Bool → b) (d : b) : b := PV.casesOn (motive_1 := fun _ => b) p d k (fun _ => d) (fun _ => d) (fun _ => d) (fun _ => d)
noncomputable def onT {b : Type} (p : PV) (k : List PV → b) (d : b) : b := PV.casesOn (motive_1 := fun _ => b) p d (fun _ => d) (fun _ => d) (fun _ => d) k (fun _ => d)
noncomputable def onO {b : Type} (p : PV) (k : Nat → b) (d : b) : b := PV.casesOn (motive_1 := fun _ => b) p d (fun _ => d) (fun _ => d) (fun _ => d) (fun _ => d) k
theorem RZ.onI {a : Type} {p : PV} {k : Int → ZRes a} {d : ZRes a} {r : Res a} (h : ∀ i, p = .int i → RZ (k i) r) (hd : RZ d r) : RZ (TM.onI p k d) r := by
  cases p <;> first
    | exact hd
    | exact h _ rfl
theorem RZ.onB {a : Type} {p : PV} {k : Bool → ZRes a} {d : ZRes a} {r : Res a} (h : ∀ i, p = .bl i → RZ (k i) r) (hd : RZ d r) : RZ (TM.onB p k d) r := by
  cases p <;> first
    | exact hd
    | exact h _ rfl
theorem RZ.onT {a : Type} {p : PV} {k : List PV → ZRes a} {d : ZRes a} {r : Res a} (h : ∀ i, p = .tup i → RZ (k i) r) (hd : RZ d r) : RZ (TM.onT p k d) r := by
  cases p <;> first
    | exact hd
    | exact h _ rfl
theorem RZ.onO {a : Type} {p : PV} {k : Nat → ZRes a} {d : ZRes a} {r : Res a} (h : ∀ i, p = .obj i → RZ (k i) r) (hd : RZ d r) : RZ (TM.onO p k d) r := by
  cases p <;> first
    | exact hd
    | exact h _ rfl
noncomputable def zallI (xs : List PV) : Bool := List.rec (motive := fun _ => Bool) true (fun x _ ih => onI x (fun _ => ih) false) xs
noncomputable def zltT (xs : List PV) : List PV → Bool := List.rec (motive := fun _ => List PV → Bool) (fun ys => List.casesOn (motive := fun _ => Bool) ys false (fun _ _ => true))
  (fun x _ ih ys => List.casesOn (motive := fun _ => Bool) ys false (fun y ys => onI x (fun i => onI y (fun j => bC (zieq i j) (ih ys) (zilt i j)) false) false)) xs
theorem zallI_c {x : PV} {xs : List PV} (h : zallI (x :: xs) = true) : ∃ i, x = .int i ∧ zallI xs = true := by
  cases x <;> first
    | (exact absurd (show false = true from h) Bool.false_ne_true)
    | exact ⟨_, rfl, h⟩
theorem zltT_eq : ∀ {xs ys : List PV}, zallI xs = true → zallI ys = true → purL xs = true ∧ purL ys = true ∧ alkL xs ys = true ∧ depL xs = 0 ∧ ltPL xs ys = zltT xs ys
  | [], [], _, _ => by refine ⟨rfl, rfl, rfl, rfl, ?_⟩; rw [ltPL]; rfl
  | [], y :: ys, _, h => by
    obtain ⟨j, rfl, k⟩ := zallI_c h
    obtain ⟨_, h2, _, _, _⟩ := zltT_eq (xs := []) (ys := ys) rfl k
    exact ⟨rfl, by rw [purL, h2]; rfl, rfl, rfl, by rw [ltPL]; rfl⟩
  | x :: xs, [], h, _ => by
    obtain ⟨j, rfl, k⟩ := zallI_c h
    obtain ⟨h1, _, _, h4, _⟩ := zltT_eq (xs := xs) (ys := []) k rfl
    exact ⟨by rw [purL, h1]; rfl, rfl, rfl, by rw [depL, h4]; rfl, by rw [ltPL]; rfl⟩
  | x :: xs, y :: ys, h, h' => by
    obtain ⟨i, rfl, k⟩ := zallI_c h
    obtain ⟨j, rfl, k'⟩ := zallI_c h'
    obtain ⟨h1, h2, h3, h4, h5⟩ := zltT_eq k k'
    refine ⟨by rw [purL, h1]; rfl, by rw [purL, h2]; rfl, by rw [alkL, h3]; rfl, by rw [depL, h4]; rfl, ?_⟩
    show _ = bC (zieq i j) (zltT xs ys) (zilt i j)
    rw [ltPL, bC_eq, zieq_eq, zilt_eq, h5, eqP, ltP]
theorem zlt_tup {xs ys : List PV} (h : zallI xs = true) (h' : zallI ys = true) : ltV (.tup xs) (.tup ys) = some (zltT xs ys) := by
  obtain ⟨h1, h2, h3, h4, h5⟩ := zltT_eq h h'
  unfold ltV ordB
  rw [pur, pur, alk, h1, h2, h3, dep, h4, ltP, h5]
  rfl
noncomputable def zcI (o : Cop) (i j : Int) (d : ZRes PV) (Z : ZS) : ZRes PV := Cop.casesOn (motive := fun _ => ZRes PV) o (.ok (.bl (zieq i j)) Z) (.ok (.bl (!zieq i j)) Z) (.ok (.bl (zilt i j)) Z) (.ok (.bl (!zilt j i)) Z) (.ok (.bl (zilt j i)) Z) (.ok (.bl (!zilt i j)) Z) d d d d
theorem cmpV_int (o : Cop) (i j : Int) (S : Sto) : cmpV o (.int i) (.int j) S = Cop.casesOn (motive := fun _ => Option Bool) o (some (i == j)) (some (!(i == j))) (some (decide (i < j))) (some (!decide (j < i))) (some (decide (j < i))) (some (!decide (i < j))) (cmpV .is (.int i) (.int j) S) (cmpV .isnot (.int i) (.int j) S) none none := by
  cases o <;> first
    | rfl
    | simp [cmpV, eqV, eqS, ltV, ordB, pur, alk, isNon, dep, ltP]
theorem zcI_ok {o : Cop} {i j : Int} {d : ZRes PV} {Z : ZS} {S : Sto} (h : ZR Z S) (hd : RZ d (ofO ((cmpV o (.int i) (.int j) S).map PV.bl) S)) : RZ (zcI o i j d Z) (ofO ((cmpV o (.int i) (.int j) S).map PV.bl) S) := by
  rw [cmpV_int] at hd ⊢
  cases o <;> first
    | exact hd
    | (show RZ (ZRes.ok (PV.bl _) Z) (Res.ok (PV.bl _) S); simp only [zieq_eq, zilt_eq]; exact .ok h)
noncomputable def zcT (o : Cop) (xs ys : List PV) (d : ZRes PV) (Z : ZS) : ZRes PV := Cop.casesOn (motive := fun _ => ZRes PV) o d d (bC (zallI xs && zallI ys) (.ok (.bl (zltT xs ys)) Z) d) d d d d d d d
theorem zcT_ok {o : Cop} {xs ys : List PV} {d : ZRes PV} {Z : ZS} {S : Sto} (h : ZR Z S) (hd : RZ d (ofO ((cmpV o (.tup xs) (.tup ys) S).map PV.bl) S)) : RZ (zcT o xs ys d Z) (ofO ((cmpV o (.tup xs) (.tup ys) S).map PV.bl) S) := by
  cases o <;> first
    | exact hd
    | skip
  show RZ (bC (zallI xs && zallI ys) (.ok (.bl (zltT xs ys)) Z) d) _
  rw [bC_eq]
  split
  · rename_i ha
    rw [Bool.and_eq_true] at ha
    rw [show cmpV .lt (.tup xs) (.tup ys) S = ltV (.tup xs) (.tup ys) from rfl, zlt_tup ha.1 ha.2]
    exact .ok h
  · exact hd
noncomputable def zcG (o : Cop) (p q : PV) (Z : ZS) : ZRes PV := zrun (ofB (cmpG o p q Z.get)) Z
theorem zcG_ok {o : Cop} {p q : PV} {Z : ZS} {S : Sto} (h : ZR Z S) : RZ (zcG o p q Z) (ofO ((cmpV o p q S).map PV.bl) S) := by
  unfold zcG
  rw [h.lk, cmpG_eq, ofB_run]
  exact zrun_ok h
noncomputable def zcQ (o : Cop) (p q : PV) (Z : ZS) : ZRes PV := onI p (fun i => onI q (fun j => zcI o i j (zcG o p q Z) Z) (zcG o p q Z)) (onT p (fun xs => onT q (fun ys => zcT o xs ys (zcG o p q Z) Z) (zcG o p q Z)) (zcG o p q Z))
theorem zcQ_ok {o : Cop} {p q : PV} {Z : ZS} {S : Sto} (h : ZR Z S) : RZ (zcQ o p q Z) (ofO ((cmpV o p q S).map PV.bl) S) := by
  refine RZ.onI (fun i e => ?_) (RZ.onT (fun xs e => ?_) (zcG_ok h))
  · refine RZ.onI (fun j e' => ?_) (zcG_ok h)
    subst e e'
    exact zcI_ok h (zcG_ok h)
  · refine RZ.onT (fun ys e' => ?_) (zcG_ok h)
    subst e e'
    exact zcT_ok h (zcG_ok h)
noncomputable def zoI (k : Int) (Z : ZS) : ZRes PV := fI k fun k => .ok (.int k) Z
theorem zoI_ok {k : Int} {Z : ZS} {S : Sto} (h : ZR Z S) : RZ (zoI k Z) (.ok (.int k) S) := by
  unfold zoI
  rw [fI_eq]
  exact .ok h
noncomputable def zbI (o : Op2) (i j : Int) (d : ZRes PV) (Z : ZS) : ZRes PV := Op2.casesOn (motive := fun _ => ZRes PV) o (zoI (ziadd i j) Z) (zoI (zisub i j) Z) (bC (zilt (-P64) i && zilt i P64) (zoI (zimul i j) Z) d) d (bC (zieq j 0) .bad (zoI (zimod i j) Z)) d d d d d
theorem zbI_ok {o : Op2} {i j : Int} {d : ZRes PV} {Z : ZS} {S : Sto} (h : ZR Z S) (hd : RZ d (binV o (.int i) (.int j) S)) : RZ (zbI o i j d Z) (binV o (.int i) (.int j) S) := by
  cases o <;> first
    | exact hd
    | skip
  · show RZ (zoI (ziadd i j) Z) _
    rw [ziadd_eq, bV_add]
    exact zoI_ok h
  · show RZ (zoI (zisub i j) Z) _
    rw [zisub_eq, bV_sub]
    exact zoI_ok h
  · show RZ (bC (zilt (-P64) i && zilt i P64) (zoI (zimul i j) Z) d) _
    rw [bC_eq, zilt_eq, zilt_eq, zimul_eq]
    split
    · rename_i hh
      rw [bV_mul i j S (by unfold mulOk; rw [hh]; rfl)]
      exact zoI_ok h
    · exact hd
  · show RZ (bC (zieq j 0) .bad (zoI (zimod i j) Z)) _
    rw [bC_eq, zieq_eq, zimod_eq]
    split
    · trivial
    · rename_i hh
      rw [bV_mod i j S (by simpa using hh)]
      exact zoI_ok h
noncomputable def zbG (o : Op2) (p q : PV) (Z : ZS) : ZRes PV := zrun (binG o p q Z.get) Z
theorem zbG_ok {o : Op2} {p q : PV} {Z : ZS} {S : Sto} (h : ZR Z S) : RZ (zbG o p q Z) (binV o p q S) := by
  unfold zbG
  rw [h.lk, binG_eq]
  exact zrun_ok h
noncomputable def zbQ (o : Op2) (p q : PV) (Z : ZS) : ZRes PV := onI p (fun i => onI q (fun j => zbI o i j (zbG o p q Z) Z) (zbG o p q Z)) (zbG o p q Z)
theorem zbQ_ok {o : Op2} {p q : PV} {Z : ZS} {S : Sto} (h : ZR Z S) : RZ (zbQ o p q Z) (binV o p q S) := by
  refine RZ.onI (fun i e => ?_) (zbG_ok h)
  refine RZ.onI (fun j e' => ?_) (zbG_ok h)
  subst e e'
  exact zbI_ok h (zbG_ok h)
noncomputable def ztQ (p : PV) (Z : ZS) : ZRes Bool := onB p (fun b => .ok b Z) (zofO (truthG Z.get p) Z)
theorem ztQ_ok {p : PV} {Z : ZS} {S : Sto} (h : ZR Z S) : RZ (ztQ p Z) (ofO (truth S p) S) := by
  refine RZ.onB (fun b e => ?_) ?_
  · subst e
    exact .ok h
  · rw [h.lk, truthG_eq]
    exact .ofO h
noncomputable def zxL (o : Option PO) (k : List PV → ZRes PV) : ZRes PV := Option.rec (motive := fun _ => ZRes PV) .bad (fun o => PO.casesOn (motive := fun _ => ZRes PV) o k k) o
noncomputable def zxQ (p q : PV) (Z : ZS) : ZRes PV := onI q (fun k => onO p (fun i => zxL (Z.get i) fun xs => zofO (zat xs k) Z) (onT p (fun xs => zofO (zat xs k) Z) (zofO (atG p q Z.get) Z))) .bad
theorem zxQ_ok {p q : PV} {Z : ZS} {S : Sto} (h : ZR Z S) : RZ (zxQ p q Z) (ofO (atV p q S) S) := by
  refine RZ.onI (fun k e => ?_) trivial
  subst e
  refine RZ.onO (fun i e => ?_) (RZ.onT (fun xs e => ?_) ?_)
  · subst e
    rw [h.get i]
    simp only [atV, seqOf]
    cases S[i]? with
    | none => trivial
    | some w =>
      cases w with
      | lst xs =>
        show RZ (zofO (zat xs k) Z) _
        rw [zat_eq]
        exact .ofO h
      | ro xs =>
        show RZ (zofO (zat xs k) Z) _
        rw [zat_eq]
        exact .ofO h
  · subst e
    rw [zat_eq]
    exact .ofO h
  · rw [h.lk, atG_eq]
    exact .ofO h
structure ZC where
  cf : Nat → List PV → ZS → ZRes PV
  gl : Nat → PV
structure ZCR (D : ZC) (C : Ctx) : Prop where
  cf : ∀ f as Z S, ZR Z S → RZ (D.cf f as Z) (C.cf f as S)
  gl : D.gl = C.gl
abbrev ZF := Env → ZS → ZRes PV
abbrev ZL := Env → ZS → ZRes (List PV)
abbrev ZO := Env → ZS → ZRes (Option Int)
abbrev ZT := Env → ZS → ZRes Bool
/-! ### the parts -/
def zbad : ZF := fun _ _ => .bad
noncomputable def zvar (i : Nat) : ZF := fun env Z => Option.rec (motive := fun _ => ZRes PV) .bad (fun o => zofO o Z) (znth env i)
def zcst (c : PV) : ZF := fun _ Z => .ok c Z
def zglob (D : ZC) (g : Nat) : ZF := fun _ Z => .ok (D.gl g) Z
noncomputable def zbin (o : Op2) (a b : ZF) : ZF := fun env Z => (a env Z).bnd fun p Z => (b env Z).bnd fun q Z => zbQ o p q Z
noncomputable def zneg (a : ZF) : ZF := fun env Z => (a env Z).bnd fun p Z => match p with
  | .int i => fI (-i) fun j => .ok (.int j) Z
  | _ => .bad
noncomputable def zidx (a b : ZF) : ZF := fun env Z => (a env Z).bnd fun p Z => (b env Z).bnd fun q Z => zxQ p q Z
noncomputable def zslc (a : ZF) (lo hi : ZO) : ZF := fun env Z => (a env Z).bnd fun p Z => (lo env Z).bnd fun l Z => (hi env Z).bnd fun h Z => zrun (cutG p l h Z.get) Z
noncomputable def zcmp (o : Cop) (a b : ZF) : ZF := fun env Z => (a env Z).bnd fun p Z => (b env Z).bnd fun q Z => zcQ o p q Z
noncomputable def zchain (o o2 : Cop) (a b c : ZF) : ZF := fun env Z => (a env Z).bnd fun p Z => (b env Z).bnd fun q Z => (zofO (cmpG o p q Z.get) Z).bnd fun k Z =>
  bC k ((c env Z).bnd fun r Z => zrun (ofB (cmpG o2 q r Z.get)) Z) (.ok (.bl false) Z)
noncomputable def zandv (a b : ZF) : ZF := fun env Z => (a env Z).bnd fun p Z => (ztQ p Z).bnd fun k Z => bC k (b env Z) (.ok p Z)
noncomputable def zorv (a b : ZF) : ZF := fun env Z => (a env Z).bnd fun p Z => (ztQ p Z).bnd fun k Z => bC k (.ok p Z) (b env Z)
noncomputable def znotv (a : ZF) : ZF := fun env Z => (a env Z).bnd fun p Z => zofO ((truthG Z.get p).map fun k => PV.bl (!k)) Z
noncomputable def zife (t : ZT) (a b : ZF) : ZF := fun env Z => (t env Z).bnd fun k Z => bC k (a env Z) (b env Z)
noncomputable def zcall (D : ZC) (f : Nat) (as : ZL) : ZF := fun env Z => (as env Z).bnd fun ps Z => D.cf f ps Z
noncomputable def zbi (b : BI) (as : ZL) : ZF := fun env Z => (as env Z).bnd fun ps Z => zrun (biG b ps Z.get) Z
noncomputable def zisi (a : ZF) (ts : List Ty) : ZF := fun env Z => (a env Z).bnd fun p Z => zofO ((isiLG Z.get p ts).map PV.bl) Z
noncomputable def zme (m : ME) (o : ZF) (as : ZL) : ZF := fun env Z => (o env Z).bnd fun p Z => match mtyG Z.get p with
  | some t => bC (meOk m t) ((as env Z).bnd fun ps Z => zrun (meG m t p ps Z.get) Z) .bad
  | none => .bad
noncomputable def zlst (as : ZL) : ZF := fun env Z => (as env Z).bnd fun ps Z => bC (Nat.ble (zlen ps) LINE) (zrun (.new (.lst ps)) Z) .bad
noncomputable def ztup (as : ZL) : ZF := fun env Z => (as env Z).bnd fun ps Z => bC (Nat.ble (zlen ps) LINE) (.ok (.tup ps) Z) .bad
def znil : ZL := fun _ Z => .ok [] Z
noncomputable def zcons (a : ZF) (as : ZL) : ZL := fun env Z => (a env Z).bnd fun p Z => (as env Z).bnd fun ps Z => .ok (p :: ps) Z
def znoO : ZO := fun _ Z => .ok none Z
noncomputable def zsoO (a : ZF) : ZO := fun env Z => (a env Z).bnd fun p Z => match p with
  | .int i => .ok (some i) Z
  | _ => .bad
noncomputable def ztE (a : ZF) : ZT := fun env Z => (a env Z).bnd fun p Z => ztQ p Z
noncomputable def ztand (a b : ZT) : ZT := fun env Z => (a env Z).bnd fun k Z => bC k (b env Z) (.ok false Z)
noncomputable def ztor (a b : ZT) : ZT := fun env Z => (a env Z).bnd fun k Z => bC k (.ok true Z) (b env Z)
noncomputable def ztnot (a : ZT) : ZT := fun env Z => (a env Z).bnd fun k Z => .ok (!k) Z
mutual
noncomputable def zE (D : ZC) : E → ZF
  | .never => zbad
  | .var i => zvar i
  | .cst c => zcst c
  | .glob g => zglob D g
  | .bin o a b => zbin o (zE D a) (zE D b)
  | .neg a => zneg (zE D a)
  | .idx a b => zidx (zE D a) (zE D b)
  | .slc a lo hi => zslc (zE D a) (zOo D lo) (zOo D hi)
  | .cmp o a b => zcmp o (zE D a) (zE D b)
  | .chain o o2 a b c => zchain o o2 (zE D a) (zE D b) (zE D c)
  | .andv a b => zandv (zE D a) (zE D b)
  | .orv a b => zorv (zE D a) (zE D b)
  | .notv a => znotv (zE D a)
  | .ife t a b => zife (zTt D t) (zE D a) (zE D b)
  | .call f as => zcall D f (zEs D as)
  | .bi b as => zbi b (zEs D as)
  | .isi a ts => zisi (zE D a) ts
  | .me m o as => zme m (zE D o) (zEs D as)
  | .lst as => zlst (zEs D as)
  | .tup as => ztup (zEs D as)
noncomputable def zEs (D : ZC) : List E → ZL
  | [] => znil
  | e :: es => zcons (zE D e) (zEs D es)
noncomputable def zOo (D : ZC) : Option E → ZO
  | none => znoO
  | some e => zsoO (zE D e)
noncomputable def zTt (D : ZC) : T → ZT
  | .e e => ztE (zE D e)
  | .and a b => ztand (zTt D a) (zTt D b)
  | .or a b => ztor (zTt D a) (zTt D b)
  | .not t => ztnot (zTt D t)
end
theorem RZ.bC {a : Type} {c : Bool} {x y : ZRes a} {x' y' : Res a} (h1 : c = true → RZ x x') (h2 : c = false → RZ y y') : RZ (TM.bC c x y) (if c then x' else y') := by
  cases c with
  | true => exact h1 rfl
  | false => exact h2 rfl
theorem RZ.le {a : Type} {n m : Nat} {x : ZRes a} {x' : Res a} (h : RZ x x') : RZ (TM.bC (Nat.ble n m) x .bad) (if n ≤ m then x' else .bad) := by
  by_cases e : n ≤ m
  · rw [if_pos e, Nat.ble_eq_true_of_le e]
    exact h
  · have : Nat.ble n m = false := by
      rw [← Bool.not_eq_true]
      exact fun q => e (Nat.le_of_ble_eq_true q)
    rw [this]
    trivial
section
variable {D : ZC} {C : Ctx} (hC : ZCR D C)
include hC
mutual
theorem simE : ∀ (e : E) (env : Env) (Z : ZS) (S : Sto), ZR Z S → RZ (zE D e env Z) (ev C e env S)
  | .never, _, _, _, _ => trivial
  | .var i, env, Z, S, h => by
    show RZ (Option.rec (motive := fun _ => ZRes PV) .bad (fun o => zofO o Z) (znth env i)) _
    rw [znth_eq, ev]
    cases env[i]? with
    | none => trivial
    | some o => cases o with
      | none => trivial
      | some p => exact .ok h
  | .cst c, _, _, _, h => .ok h
  | .glob g, _, _, _, h => by
    show RZ (.ok (D.gl g) _) (.ok (C.gl g) _)
    rw [hC.gl]
    exact .ok h
  | .bin o a b, env, Z, S, h => (simE a env Z S h).bnd fun p Z S h => (simE b env Z S h).bnd fun q Z S h => zbQ_ok h
  | .neg a, env, Z, S, h => (simE a env Z S h).bnd fun p Z S h => by
    cases p <;> first
      | trivial
      | (rename_i i; show RZ (fI (-i) fun j => ZRes.ok (PV.int j) Z) _; rw [fI_eq]; exact .ok h)
  | .idx a b, env, Z, S, h => (simE a env Z S h).bnd fun p Z S h => (simE b env Z S h).bnd fun q Z S h => zxQ_ok h
  | .slc a lo hi, env, Z, S, h => (simE a env Z S h).bnd fun p Z S h => (simO lo env Z S h).bnd fun q Z S h => (simO hi env Z S h).bnd fun q Z S h => by
    rw [h.lk, cutG_eq]
    exact zrun_ok h
  | .cmp o a b, env, Z, S, h => (simE a env Z S h).bnd fun p Z S h => (simE b env Z S h).bnd fun q Z S h => zcQ_ok h
  | .chain o o2 a b c, env, Z, S, h => (simE a env Z S h).bnd fun p Z S h => (simE b env Z S h).bnd fun q Z S h => by
    rw [h.lk, cmpG_eq]
    refine (RZ.ofO h).bnd fun k Z S h => ?_
    refine RZ.bC (fun _ => ?_) fun _ => .ok h
    refine (simE c env Z S h).bnd fun r Z S h => ?_
    rw [h.lk, cmpG_eq, ofB_run]
    exact zrun_ok h
  | .andv a b, env, Z, S, h => (simE a env Z S h).bnd fun p Z S h => by
    refine (ztQ_ok h).bnd fun k Z S h => ?_
    exact RZ.bC (fun _ => simE b env Z S h) fun _ => .ok h
  | .orv a b, env, Z, S, h => (simE a env Z S h).bnd fun p Z S h => by
    refine (ztQ_ok h).bnd fun k Z S h => ?_
    exact RZ.bC (fun _ => .ok h) fun _ => simE b env Z S h
  | .notv a, env, Z, S, h => (simE a env Z S h).bnd fun p Z S h => by
    rw [h.lk, truthG_eq]
    exact .ofO h
  | .ife t a b, env, Z, S, h => (simT t env Z S h).bnd fun k Z S h => RZ.bC (fun _ => simE a env Z S h) fun _ => simE b env Z S h
  | .call f as, env, Z, S, h => (simEs as env Z S h).bnd fun ps Z S h => hC.cf f ps Z S h
  | .bi b as, env, Z, S, h => (simEs as env Z S h).bnd fun ps Z S h => by
    rw [h.lk, biG_eq]
    exact zrun_ok h
  | .isi a ts, env, Z, S, h => (simE a env Z S h).bnd fun p Z S h => by
    rw [h.lk, isiLG_eq]
    exact .ofO h
  | .me m o as, env, Z, S, h => (simE o env Z S h).bnd fun p Z S h => by
    rw [h.lk, mtyG_eq]
    cases mtyG (lkS S) p with
    | none => trivial
    | some t =>
      refine RZ.bC (fun _ => ?_) fun _ => trivial
      refine (simEs as env Z S h).bnd fun ps Z S h => ?_
      rw [h.lk, meG_eq]
      exact zrun_ok h
  | .lst as, env, Z, S, h => (simEs as env Z S h).bnd fun ps Z S h => by
    rw [zlen_eq]
    exact RZ.le (zrun_ok (e := .new (.lst ps)) h)
  | .tup as, env, Z, S, h => (simEs as env Z S h).bnd fun ps Z S h => by
    rw [zlen_eq]
    exact RZ.le (.ok h)
theorem simEs : ∀ (es : List E) (env : Env) (Z : ZS) (S : Sto), ZR Z S → RZ (zEs D es env Z) (evs C es env S)
  | [], _, _, _, h => .ok h
  | e :: es, env, Z, S, h => (simE e env Z S h).bnd fun p Z S h => (simEs es env Z S h).bnd fun ps Z S h => .ok h
theorem simO : ∀ (e : Option E) (env : Env) (Z : ZS) (S : Sto), ZR Z S → RZ (zOo D e env Z) (evO C e env S)
  | none, _, _, _, h => .ok h
  | some e, env, Z, S, h => (simE e env Z S h).bnd fun p Z S h => by
    cases p <;> first
      | trivial
      | exact .ok h
theorem simT : ∀ (t : T) (env : Env) (Z : ZS) (S : Sto), ZR Z S → RZ (zTt D t env Z) (evT C t env S)
  | .e e, env, Z, S, h => (simE e env Z S h).bnd fun p Z S h => ztQ_ok h
  | .and a b, env, Z, S, h => (simT a env Z S h).bnd fun k Z S h => RZ.bC (fun _ => simT b env Z S h) fun _ => .ok h
  | .or a b, env, Z, S, h => (simT a env Z S h).bnd fun k Z S h => RZ.bC (fun _ => .ok h) fun _ => simT b env Z S h
  | .not t, env, Z, S, h => (simT t env Z S h).bnd fun k Z S h => .ok h
end
end
end TM

/-! TM, part Z4: statements over the tree. -/
namespace TM
open PySem L2
inductive ZOut where
  | nx (env : Env) (Z : ZS) | brk (env : Env) (Z : ZS) | cnt (env : Env) (Z : ZS) | ret (p : PV) (Z : ZS) | exc (x : PX) (Z : ZS) | bad
noncomputable def ZOut.sq (r : ZOut) (f : Env → ZS → ZOut) : ZOut := ZOut.rec (motive := fun _ => ZOut) f .brk .cnt .ret .exc .bad r
noncomputable def ZRes.out {a : Type} (r : ZRes a) (f : a → ZS → ZOut) : ZOut := ZRes.rec (motive := fun _ => ZOut) f .exc .bad r
def RO (r : ZOut) (r' : Out) : Prop := match r with
  | .nx e Z => ∃ S, r' = .nx e S ∧ ZR Z S
  | .brk e Z => ∃ S, r' = .brk e S ∧ ZR Z S
  | .cnt e Z => ∃ S, r' = .cnt e S ∧ ZR Z S
  | .ret p Z => ∃ S, r' = .ret p S ∧ ZR Z S
  | .exc x Z => ∃ S, r' = .exc x S ∧ ZR Z S
  | .bad => True
theorem RO.nx {e : Env} {Z : ZS} {S : Sto} (h : ZR Z S) : RO (.nx e Z) (.nx e S) := ⟨S, rfl, h⟩
theorem RO.sq {r : ZOut} {r' : Out} {f : Env → ZS → ZOut} {f' : Env → Sto → Out} (h : RO r r') (k : ∀ e Z S, ZR Z S → RO (f e Z) (f' e S)) : RO (r.sq f) (r'.seq f') := by
  cases r with
  | bad => trivial
  | nx e Z => obtain ⟨S, rfl, hz⟩ := h; exact k e Z S hz
  | brk e Z => obtain ⟨S, rfl, hz⟩ := h; exact ⟨S, rfl, hz⟩
  | cnt e Z => obtain ⟨S, rfl, hz⟩ := h; exact ⟨S, rfl, hz⟩
  | ret e Z => obtain ⟨S, rfl, hz⟩ := h; exact ⟨S, rfl, hz⟩
  | exc e Z => obtain ⟨S, rfl, hz⟩ := h; exact ⟨S, rfl, hz⟩
theorem RO.out {a : Type} {r : ZRes a} {r' : Res a} {f : a → ZS → ZOut} {f' : a → Sto → Out} (h : RZ r r') (k : ∀ e Z S, ZR Z S → RO (f e Z) (f' e S)) : RO (r.out f) (r'.out f') := by
  cases r with
  | bad => trivial
  | ok e Z => obtain ⟨S, rfl, hz⟩ := h; exact k e Z S hz
  | exc e Z => obtain ⟨S, rfl, hz⟩ := h; exact ⟨S, rfl, hz⟩
theorem RO.bC {c : Bool} {x y : ZOut} {x' y' : Out} (h1 : c = true → RO x x') (h2 : c = false → RO y y') : RO (TM.bC c x y) (if c then x' else y') := by
  cases c with
  | true => exact h1 rfl
  | false => exact h2 rfl
theorem blt_t {i n : Nat} (e : i < n) : Nat.blt i n = true := Nat.ble_eq_true_of_le e
theorem blt_f {i n : Nat} (e : ¬ i < n) : Nat.blt i n = false := by
  rw [← Bool.not_eq_true]
  exact fun q => e (Nat.le_of_ble_eq_true q)
/-! targets -/
abbrev ZPt := PV → Env → Option Env
noncomputable def zpn (i : Nat) : ZPt := fun p env => bC (Nat.blt i (zlen env)) (some (zput (some p) env i)) none
noncomputable def zpt (ps : List PV → Env → Option Env) : ZPt := fun p env => match p with
  | .tup xs => ps xs env
  | _ => none
def zpnil : List PV → Env → Option Env := fun xs env => match xs with
  | [] => some env
  | _ :: _ => none
noncomputable def zpcons (p : ZPt) (ps : List PV → Env → Option Env) : List PV → Env → Option Env := fun xs env => match xs with
  | [] => none
  | x :: xs => Option.rec (motive := fun _ => Option Env) none (fun env => ps xs env) (p x env)
mutual
noncomputable def zP : Pat → ZPt
  | .nm i => zpn i
  | .tup ps => zpt (zPs ps)
noncomputable def zPs : List Pat → List PV → Env → Option Env
  | [] => zpnil
  | p :: ps => zpcons (zP p) (zPs ps)
end
mutual
theorem zP_eq : ∀ (p : Pat) (x : PV) (env : Env), zP p x env = bindP p x env
  | .nm i, x, env => by
    show bC (Nat.blt i (zlen env)) (some (zput (some x) env i)) none = _
    rw [zlen_eq, zput_eq, bindP]
    by_cases e : i < env.length
    · rw [if_pos e, blt_t e]
      rfl
    · rw [if_neg e, blt_f e]
      rfl
  | .tup ps, x, env => by
    cases x <;> first
      | rfl
      | exact zPs_eq ps _ env
theorem zPs_eq : ∀ (ps : List Pat) (xs : List PV) (env : Env), zPs ps xs env = bindPs ps xs env
  | [], [], env => rfl
  | [], _ :: _, env => rfl
  | _ :: _, [], env => rfl
  | p :: ps, x :: xs, env => by
    show Option.rec (motive := fun _ => Option Env) none (fun env => zPs ps xs env) (zP p x env) = _
    rw [zP_eq p x env, bindPs]
    cases bindP p x env with
    | none => rfl
    | some env => exact zPs_eq ps xs env
end
noncomputable def zWat (w : Wk) (k : Nat) (g : Lk) : Option (Option PV) := match w with
  | .seq xs => some (zget xs k)
  | .obj i => match seqG g i with
    | some xs => some (zget xs k)
    | none => none
  | .rng lo n => some (bC (Nat.blt k n) (some (.int (ziadd lo (.ofNat k)))) none)
theorem zWat_eq (w : Wk) (k : Nat) (S : Sto) : zWat w k (lkS S) = w.at k S := by
  cases w with
  | seq xs => simp only [zWat, Wk.at, zget_eq]
  | obj i =>
    simp only [zWat, Wk.at, seqG_eq]
    cases seqG (lkS S) i with
    | none => rfl
    | some xs => simp only [zget_eq]
  | rng lo n =>
    simp only [zWat, Wk.at, ziadd_eq]
    by_cases e : k < n
    · rw [if_pos e, blt_t e]
      rfl
    · rw [if_neg e, blt_f e]
      rfl
abbrev ZB := Env → ZS → ZOut
abbrev ZI := Env → ZS → ZRes Wk
noncomputable def ziE (a : ZF) : ZI := fun env Z => (a env Z).bnd fun p Z => match p with
  | .tup xs => .ok (.seq xs) Z
  | .obj i => match seqG Z.get i with
    | some _ => .ok (.obj i) Z
    | none => .bad
  | .str cs => .ok (.seq (cs.map fun c => .str [c])) Z
  | _ => .bad
noncomputable def zi1 (a : ZF) : ZI := fun env Z => (a env Z).bnd fun p Z => match p with
  | .int j => bC (decide (-P62 ≤ j) && decide (j < P62)) (fN j.toNat fun n => .ok (.rng 0 n) Z) .bad
  | _ => .bad
noncomputable def zi2 (a b : ZF) : ZI := fun env Z => (a env Z).bnd fun p Z => (b env Z).bnd fun q Z => match p, q with
  | .int i, .int j => bC (decide (-P62 ≤ i) && decide (i < P62) && decide (-P62 ≤ j) && decide (j < P62)) (fN (j - i).toNat fun n => .ok (.rng i n) Z) .bad
  | _, _ => .bad
noncomputable def zIt (D : ZC) : It → ZI
  | .e e => ziE (zE D e)
  | .rng1 a => zi1 (zE D a)
  | .rng2 a b => zi2 (zE D a) (zE D b)
noncomputable def zforN (w : Wk) (p : ZPt) (body : ZB) (n : Nat) : Nat → ZB := Nat.rec (motive := fun _ => Nat → ZB) (fun _ _ _ => .bad) (fun _ ih k env Z =>
  Option.rec (motive := fun _ => ZOut) .bad (fun o => Option.rec (motive := fun _ => ZOut) (.nx env Z) (fun x => fV x fun x => Option.rec (motive := fun _ => ZOut) .bad (fun env =>
    ZOut.rec (motive := fun _ => ZOut) (fun env Z => fN (k + 1) fun k => ih k env Z) .nx (fun env Z => fN (k + 1) fun k => ih k env Z) .ret .exc .bad (body env Z)) (p x env)) o) (zWat w k Z.get)) n
noncomputable def zwhlN (t : ZT) (body : ZB) (n : Nat) : ZB := Nat.rec (motive := fun _ => ZB) (fun _ _ => .bad) (fun _ ih env Z => (t env Z).out fun k Z => bC k
  (ZOut.rec (motive := fun _ => ZOut) ih .nx ih .ret .exc .bad (body env Z)) (.nx env Z)) n
def zsbad : ZB := fun _ _ => .bad
def zspass : ZB := fun env Z => .nx env Z
def zsbrk : ZB := fun env Z => .brk env Z
def zscnt : ZB := fun env Z => .cnt env Z
noncomputable def zsset (p : ZPt) (a : ZF) : ZB := fun env Z => (a env Z).out fun x Z => Option.rec (motive := fun _ => ZOut) .bad (fun env => .nx env Z) (p x env)
noncomputable def zsseti (o i e : ZF) : ZB := fun env Z => (e env Z).out fun x Z => (o env Z).out fun p Z => (i env Z).out fun q Z => match p, q with
  | .obj a, .int k => match Z.get a with
    | some (.lst xs) => match ixN (zlen xs) k with
      | some j => bC (Nat.blt a Z.len) (.nx env (Z.put a (.lst (zput x xs j)))) .bad
      | none => .bad
    | _ => .bad
  | _, _ => .bad
noncomputable def zsaug (i : Nat) (o : Op2) (e : ZF) : ZB := fun env Z => match znth env i with
  | some (some p) => (e env Z).out fun q Z => match augV o p q with
    | some z => fV z fun z => .nx (zput (some z) env i) Z
    | none => .bad
  | _ => .bad
noncomputable def zsexpr (e : ZF) : ZB := fun env Z => (e env Z).out fun _ Z => .nx env Z
noncomputable def zsret (e : ZF) : ZB := fun env Z => (e env Z).out fun p Z => .ret p Z
def zsretn : ZB := fun _ Z => .ret .non Z
noncomputable def zsite (t : ZT) (a b : ZB) : ZB := fun env Z => (t env Z).out fun k Z => bC k (a env Z) (b env Z)
noncomputable def zswhl (t : ZT) (b : ZB) : ZB := fun env Z => zwhlN t b FU env Z
noncomputable def zsfor (p : ZPt) (it : ZI) (b : ZB) : ZB := fun env Z => (it env Z).out fun w Z => zforN w p b FU 0 env Z
noncomputable def zscons (a b : ZB) : ZB := fun env Z => (a env Z).sq b
mutual
noncomputable def zSt (D : ZC) : TM.S → ZB
  | .never => zsbad
  | .pass => zspass
  | .brk => zsbrk
  | .cnt => zscnt
  | .set p e => zsset (zP p) (zE D e)
  | .seti o i e => zsseti (zE D o) (zE D i) (zE D e)
  | .aug i o e => zsaug i o (zE D e)
  | .expr e => zsexpr (zE D e)
  | .ret e => zsret (zE D e)
  | .retn => zsretn
  | .ite t a b => zsite (zTt D t) (zBk D a) (zBk D b)
  | .whl t b => zswhl (zTt D t) (zBk D b)
  | .for p it b => zsfor (zP p) (zIt D it) (zBk D b)
noncomputable def zBk (D : ZC) : List TM.S → ZB
  | [] => zspass
  | s :: ss => zscons (zSt D s) (zBk D ss)
end
theorem sim_for {w : Wk} {p : Pat} {b : ZB} {b' : Env → Sto → Out} (hb : ∀ env Z S, ZR Z S → RO (b env Z) (b' env S)) : ∀ (n k : Nat) (env : Env) (Z : ZS) (S : Sto), ZR Z S → RO (zforN w (zP p) b n k env Z) (forN w p b' n k env S)
  | 0, _, _, _, _, _ => trivial
  | n + 1, k, env, Z, S, h => by
    show RO (Option.rec (motive := fun _ => ZOut) .bad (fun o => Option.rec (motive := fun _ => ZOut) (.nx env Z) (fun x => fV x fun x => Option.rec (motive := fun _ => ZOut) .bad (fun env =>
      ZOut.rec (motive := fun _ => ZOut) (fun env Z => fN (k + 1) fun k => zforN w (zP p) b n k env Z) .nx (fun env Z => fN (k + 1) fun k => zforN w (zP p) b n k env Z) .ret .exc .bad (b env Z)) (zP p x env)) o) (zWat w k Z.get)) _
    rw [h.lk, zWat_eq, forN]
    cases w.at k S with
    | none => trivial
    | some o =>
      cases o with
      | none => exact .nx h
      | some x =>
        simp only []
        rw [fV_eq, zP_eq]
        cases bindP p x env with
        | none => trivial
        | some env1 =>
          simp only []
          have hh := hb env1 Z S h
          revert hh
          cases b env1 Z with
          | nx e Z1 =>
            rintro ⟨S1, e1, h1⟩
            rw [e1]
            simp only []
            rw [fN_eq]
            exact sim_for hb n (k + 1) e Z1 S1 h1
          | cnt e Z1 =>
            rintro ⟨S1, e1, h1⟩
            rw [e1]
            simp only []
            rw [fN_eq]
            exact sim_for hb n (k + 1) e Z1 S1 h1
          | brk e Z1 =>
            rintro ⟨S1, e1, h1⟩
            rw [e1]
            exact .nx h1
          | ret e Z1 =>
            rintro ⟨S1, e1, h1⟩
            rw [e1]
            exact ⟨S1, rfl, h1⟩
          | exc e Z1 =>
            rintro ⟨S1, e1, h1⟩
            rw [e1]
            exact ⟨S1, rfl, h1⟩
          | bad => intro; trivial
theorem sim_whl {t : ZT} {t' : Env → Sto → Res Bool} {b : ZB} {b' : Env → Sto → Out} (ht : ∀ env Z S, ZR Z S → RZ (t env Z) (t' env S)) (hb : ∀ env Z S, ZR Z S → RO (b env Z) (b' env S)) : ∀ (n : Nat) (env : Env) (Z : ZS) (S : Sto), ZR Z S → RO (zwhlN t b n env Z) (whlN t' b' n env S)
  | 0, _, _, _, _ => trivial
  | n + 1, env, Z, S, h => by
    rw [whlN]
    show RO ((t env Z).out fun k Z => bC k (ZOut.rec (motive := fun _ => ZOut) (zwhlN t b n) .nx (zwhlN t b n) .ret .exc .bad (b env Z)) (.nx env Z)) _
    refine RO.out (ht env Z S h) fun k Z S h => ?_
    refine RO.bC (fun _ => ?_) fun _ => .nx h
    have hh := hb env Z S h
    revert hh
    cases b env Z with
    | nx e Z1 =>
      rintro ⟨S1, e1, h1⟩
      rw [e1]
      exact sim_whl ht hb n e Z1 S1 h1
    | cnt e Z1 =>
      rintro ⟨S1, e1, h1⟩
      rw [e1]
      exact sim_whl ht hb n e Z1 S1 h1
    | brk e Z1 =>
      rintro ⟨S1, e1, h1⟩
      rw [e1]
      exact .nx h1
    | ret e Z1 =>
      rintro ⟨S1, e1, h1⟩
      rw [e1]
      exact ⟨S1, rfl, h1⟩
    | exc e Z1 =>
      rintro ⟨S1, e1, h1⟩
      rw [e1]
      exact ⟨S1, rfl, h1⟩
    | bad => intro; trivial
section
variable {D : ZC} {C : Ctx} (hC : ZCR D C)
include hC
theorem simI : ∀ (it : It) (env : Env) (Z : ZS) (S : Sto), ZR Z S → RZ (zIt D it env Z) (evI C it env S)
  | .e e, env, Z, S, h => (simE hC e env Z S h).bnd fun p Z S h => by
    cases p <;> first
      | trivial
      | exact .ok h
      | skip
    rename_i i
    rw [h.lk]
    simp only [seqG_eq]
    cases seqG (lkS S) i with
    | none => trivial
    | some _ => exact .ok h
  | .rng1 a, env, Z, S, h => (simE hC a env Z S h).bnd fun p Z S h => by
    cases p <;> first
      | trivial
      | skip
    rename_i j
    refine RZ.bC (fun _ => ?_) fun _ => trivial
    rw [fN_eq]
    exact .ok h
  | .rng2 a b, env, Z, S, h => (simE hC a env Z S h).bnd fun p Z S h => (simE hC b env Z S h).bnd fun q Z S h => by
    cases p <;> first
      | trivial
      | skip
    cases q <;> first
      | trivial
      | skip
    refine RZ.bC (fun _ => ?_) fun _ => trivial
    rw [fN_eq]
    exact .ok h
mutual
theorem simS : ∀ (s : TM.S) (env : Env) (Z : ZS) (S : Sto), ZR Z S → RO (zSt D s env Z) (evS C s env S)
  | .never, _, _, _, _ => trivial
  | .pass, _, _, S, h => ⟨S, rfl, h⟩
  | .brk, _, _, S, h => ⟨S, rfl, h⟩
  | .cnt, _, _, S, h => ⟨S, rfl, h⟩
  | .set p e, env, Z, S, h => RO.out (simE hC e env Z S h) fun x Z S h => by
    rw [zP_eq]
    cases bindP p x env with
    | none => trivial
    | some env => exact .nx h
  | .seti o i e, env, Z, S, h => RO.out (simE hC e env Z S h) fun x Z S h => RO.out (simE hC o env Z S h) fun p Z S h => RO.out (simE hC i env Z S h) fun q Z S h => by
    cases p <;> first
      | trivial
      | skip
    cases q <;> first
      | trivial
      | skip
    rename_i a k
    simp only []
    rw [h.get a]
    cases e1 : S[a]? with
    | none => trivial
    | some w =>
      cases w with
      | ro _ => trivial
      | lst xs =>
        simp only []
        rw [zlen_eq]
        cases ixN xs.length k with
        | none => trivial
        | some j =>
          simp only []
          rw [bC_eq]
          split
          · rw [zput_eq]
            exact .nx (h.put (List.getElem?_eq_some_iff.mp e1).1 _)
          · trivial
  | .aug i o e, env, Z, S, h => by
    show RO (match znth env i with | some (some p) => (zE D e env Z).out fun q Z => (match augV o p q with | some z => fV z fun z => ZOut.nx (zput (some z) env i) Z | none => .bad) | _ => .bad) _
    rw [znth_eq, evS]
    cases env[i]? with
    | none => trivial
    | some w =>
      cases w with
      | none => trivial
      | some p =>
        refine RO.out (simE hC e env Z S h) fun q Z S h => ?_
        cases augV o p q with
        | none => trivial
        | some z =>
          simp only []
          rw [fV_eq, zput_eq]
          exact .nx h
  | .expr e, env, Z, S, h => RO.out (simE hC e env Z S h) fun x Z S h => .nx h
  | .ret e, env, Z, S, h => RO.out (simE hC e env Z S h) fun x Z S h => ⟨S, rfl, h⟩
  | .retn, _, _, S, h => ⟨S, rfl, h⟩
  | .ite t a b, env, Z, S, h => RO.out (simT hC t env Z S h) fun k Z S h => RO.bC (fun _ => simB a env Z S h) fun _ => simB b env Z S h
  | .whl t b, env, Z, S, h => sim_whl (simT hC t) (simB b) FU env Z S h
  | .for p it b, env, Z, S, h => RO.out (simI hC it env Z S h) fun w Z S h => sim_for (simB b) FU 0 env Z S h
theorem simB : ∀ (ss : List TM.S) (env : Env) (Z : ZS) (S : Sto), ZR Z S → RO (zBk D ss env Z) (evB C ss env S)
  | [], _, _, _, h => .nx h
  | s :: ss, env, Z, S, h => RO.sq (simS s env Z S h) fun e Z S h => simB ss e Z S h
end
end
/-- a def over the tree -/
structure ZFn where
  np : Nat
  nn : Nat
  body : ZC → ZB
noncomputable def zrunF (D : ZC) (f : ZFn) (as : List PV) (Z : ZS) : ZRes PV :=
  bC (Nat.beq (zlen as) f.np) (ZOut.rec (motive := fun _ => ZRes PV) (fun _ Z => .ok .non Z) (fun _ _ => .bad) (fun _ _ => .bad) (fun p Z => .ok p Z) (fun x Z => .exc x Z) .bad (f.body D (as.map some ++ List.replicate (f.nn - f.np) none) Z)) .bad
noncomputable def zcallN (fs : List ZFn) (gl : Nat → PV) (k : Nat) : Nat → List PV → ZS → ZRes PV := Nat.rec (motive := fun _ => Nat → List PV → ZS → ZRes PV) (fun _ _ _ => .bad)
  (fun _ ih f as Z => Option.rec (motive := fun _ => ZRes PV) .bad (fun fn => zrunF ⟨ih, gl⟩ fn as Z) (znth fs f)) k
noncomputable def zfs (fs : List Fn) : List ZFn := fs.map fun f => ⟨f.np, f.nn, fun D => zBk D f.body⟩
theorem sim_call (fs : List Fn) (gl : Nat → PV) : ∀ (k f : Nat) (as : List PV) (Z : ZS) (S : Sto), ZR Z S → RZ (zcallN (zfs fs) gl k f as Z) (callN fs gl k f as S)
  | 0, _, _, _, _, _ => trivial
  | k + 1, f, as, Z, S, h => by
    show RZ (Option.rec (motive := fun _ => ZRes PV) .bad (fun fn => zrunF ⟨zcallN (zfs fs) gl k, gl⟩ fn as Z) (znth (zfs fs) f)) _
    rw [znth_eq, callN]
    have e : (zfs fs)[f]? = fs[f]?.map fun f => (⟨f.np, f.nn, fun D => zBk D f.body⟩ : ZFn) := by simp [zfs]
    rw [e]
    cases fs[f]? with
    | none => trivial
    | some fn =>
      show RZ (zrunF ⟨zcallN (zfs fs) gl k, gl⟩ ⟨fn.np, fn.nn, fun D => zBk D fn.body⟩ as Z) _
      unfold zrunF runF
      rw [zlen_eq, bC_eq]
      by_cases q : as.length = fn.np
      · have q2 : (as.length.beq fn.np) = true := Nat.beq_eq ▸ q
        simp only [q2, if_true]
        rw [if_pos q]
        have hh := simB (D := ⟨zcallN (zfs fs) gl k, gl⟩) (C := ⟨callN fs gl k, gl⟩) ⟨fun f as Z S h => sim_call fs gl k f as Z S h, rfl⟩ fn.body (as.map some ++ List.replicate (fn.nn - fn.np) none) Z S h
        revert hh
        show RO (zBk ⟨zcallN (zfs fs) gl k, gl⟩ fn.body (as.map some ++ List.replicate (fn.nn - fn.np) none) Z) _ → _
        cases zBk ⟨zcallN (zfs fs) gl k, gl⟩ fn.body (as.map some ++ List.replicate (fn.nn - fn.np) none) Z with
        | nx e Z1 => rintro ⟨S1, e1, h1⟩; rw [e1]; exact .ok h1
        | brk e Z1 => intro; trivial
        | cnt e Z1 => intro; trivial
        | ret e Z1 => rintro ⟨S1, e1, h1⟩; rw [e1]; exact .ok h1
        | exc e Z1 => rintro ⟨S1, e1, h1⟩; rw [e1]; exact ⟨S1, rfl, h1⟩
        | bad => intro; trivial
      · have q2 : (as.length.beq fn.np) = false := by
          rw [← Bool.not_eq_true, Nat.beq_eq]
          exact q
        simp only [q2]
        trivial
end TM

namespace TL
open PySem TM L2
def topS (i : Nat) : Stmt := PySem.Challenge.pw_tilemoot_k47_rounds_of_pairs.main.body.getD i (.Pass ⟨0, 0, 0, 0⟩)
/-- need(held, at); 0 held, 1 at -/
def f_need : Fn := ⟨2, 2, [(.ite (.not (.e (.var 0))) [.never] [])]⟩
/-- is_integer(value); 0 value -/
def f_is_integer : Fn := ⟨1, 1, [(.ret (.andv (.isi (.var 0) [.int]) (.notv (.isi (.var 0) [.bool]))))]⟩
/-- is_between(value, low, high); 0 value, 1 low, 2 high -/
def f_is_between : Fn := ⟨3, 3, [(.ret (.andv (.call 1 [(.var 0)]) (.chain .le .le (.var 1) (.var 0) (.var 2))))]⟩
/-- rounds(many); 0 many, 1 last, 2 told, 3 k, 4 pairs, 5 a, 6 b -/
def f_rounds : Fn := ⟨1, 7, [(.expr (.call 0 [(.call 2 [(.var 0), (.cst (.int 2)), (.cst (.int 16))]), (.cst (.int 1))])), (.set (.nm 1) (.ife (.e (.cmp .eq (.bin .mod (.var 0) (.cst (.int 2))) (.cst (.int 0)))) (.bin .sub (.var 0) (.cst (.int 1))) (.var 0))), (.set (.nm 2) (.lst [])), (.for (.nm 3) (.rng1 (.var 1)) [(.set (.nm 4) (.ife (.e (.cmp .lt (.var 1) (.var 0))) (.lst [(.tup [(.var 3), (.var 1)])]) (.lst []))), (.for (.nm 5) (.rng1 (.var 1)) [(.for (.nm 6) (.rng2 (.bin .add (.var 5) (.cst (.int 1))) (.var 1)) [(.ite (.and (.e (.cmp .ne (.var 5) (.var 3))) (.and (.e (.cmp .ne (.var 6) (.var 3))) (.e (.cmp .eq (.bin .mod (.bin .sub (.bin .add (.var 5) (.var 6)) (.bin .mul (.cst (.int 2)) (.var 3))) (.var 1)) (.cst (.int 0)))))) [(.expr (.me .append (.var 4) [(.tup [(.var 5), (.var 6)])]))] [])])]), (.expr (.me .append (.var 2) [(.bi .tuple [(.bi .sorted [(.var 4)])])]))]), (.ret (.bi .tuple [(.var 2)]))]⟩
/-- _law_so(found, meant); 0 found, 1 meant, 2 k -/
def f_law_so : Fn := ⟨2, 3, [(.ite (.e (.cmp .is (.var 1) (.cst .non))) [(.ret (.cmp .is (.var 0) (.cst .non)))] []), (.ite (.e (.isi (.var 1) [.tuple])) [(.ite (.or (.not (.e (.isi (.var 0) [.tuple]))) (.e (.cmp .ne (.bi .len [(.var 0)]) (.bi .len [(.var 1)])))) [(.ret (.cst (.bl false)))] []), (.for (.nm 2) (.rng1 (.bi .len [(.var 1)])) [(.ite (.not (.e (.call 4 [(.idx (.var 0) (.var 2)), (.idx (.var 1) (.var 2))]))) [(.ret (.cst (.bl false)))] [])]), (.ret (.cst (.bl true)))] []), (.ite (.or (.e (.isi (.var 1) [.bool])) (.e (.isi (.var 0) [.bool]))) [(.ret (.andv (.isi (.var 1) [.bool]) (.andv (.isi (.var 0) [.bool]) (.cmp .eq (.var 0) (.var 1)))))] []), (.ite (.e (.isi (.var 1) [.int])) [(.ret (.andv (.isi (.var 0) [.int]) (.cmp .eq (.var 0) (.var 1))))] []), (.ret (.andv (.isi (.var 1) [.str]) (.andv (.isi (.var 0) [.str]) (.cmp .eq (.var 0) (.var 1)))))]⟩
/-- _law_numbers(script); 0 script, 1 row, 2 cell, 3 left, 4 k, 5 mixed -/
def f_law_numbers : Fn := ⟨1, 6, [(.set (.nm 1) (.lst [])), (.for (.nm 2) (.e (.slc (.var 0) none (some (.cst (.int 63))))) [(.ite (.e (.cmp .ge (.var 2) (.bin .pow (.cst (.int 10)) (.cst (.int 18))))) [(.set (.nm 3) (.var 2)), (.for (.nm 4) (.rng1 (.cst (.int 60))) [(.ite (.e (.cmp .eq (.var 3) (.cst (.int 0)))) [.brk] []), (.expr (.me .append (.var 1) [(.bin .mod (.bi .int [(.var 3)]) (.cst (.int 997)))])), (.set (.nm 3) (.bin .fdiv (.var 3) (.cst (.int 997))))])] [(.for (.nm 4) (.rng1 (.cst (.int 4))) [(.set (.nm 5) (.bin .mod (.bi .int [(.bin .add (.bin .add (.bin .mul (.var 2) (.cst (.int 48271))) (.bin .mul (.var 4) (.cst (.int 69621)))) (.cst (.int 11)))]) (.cst (.int 2147483647)))), (.expr (.me .append (.var 1) [(.bin .mod (.bi .int [(.bin .add (.bin .mul (.var 5) (.cst (.int 16807))) (.var 4))]) (.cst (.int 2147483629)))]))])])]), (.ite (.e (.cmp .eq (.bi .len [(.var 1)]) (.cst (.int 0)))) [(.expr (.me .append (.var 1) [(.cst (.int 0))]))] []), (.ret (.var 1))]⟩
/-- _law_draw(row, at, limit); 0 row, 1 at, 2 limit, 3 mixed -/
def f_law_draw : Fn := ⟨3, 4, [(.ite (.e (.cmp .lt (.var 1) (.bi .len [(.var 0)]))) [(.ret (.bin .mod (.bi .int [(.idx (.var 0) (.var 1))]) (.var 2)))] []), (.set (.nm 3) (.bin .mod (.bi .int [(.bin .add (.bin .add (.bin .mul (.idx (.var 0) (.bin .mod (.bi .int [(.var 1)]) (.bi .len [(.var 0)]))) (.cst (.int 40692))) (.bin .mul (.var 1) (.cst (.int 7919)))) (.cst (.int 3)))]) (.cst (.int 2147483399)))), (.ret (.bin .mod (.bi .int [(.bin .mod (.bi .int [(.bin .add (.bin .mul (.var 3) (.cst (.int 48271))) (.var 1))]) (.cst (.int 2147483647)))]) (.var 2)))]⟩
/-- _law_take(row, spot, limit); 0 row, 1 spot, 2 limit -/
def f_law_take : Fn := ⟨3, 3, [(.seti (.var 1) (.cst (.int 0)) (.bin .add (.idx (.var 1) (.cst (.int 0))) (.cst (.int 1)))), (.ret (.call 6 [(.var 0), (.bin .sub (.idx (.var 1) (.cst (.int 0))) (.cst (.int 1))), (.var 2)]))]⟩
/-- _law_ordered(values); 0 values, 1 made, 2 one, 3 at -/
def f_law_ordered : Fn := ⟨1, 4, [(.set (.nm 1) (.lst [])), (.for (.nm 2) (.e (.var 0)) [(.set (.nm 3) (.cst (.int 0))), (.whl (.and (.e (.cmp .lt (.var 3) (.bi .len [(.var 1)]))) (.e (.cmp .lt (.idx (.var 1) (.var 3)) (.var 2)))) [(.set (.nm 3) (.bin .add (.var 3) (.cst (.int 1))))]), (.ite (.or (.e (.cmp .eq (.var 3) (.bi .len [(.var 1)]))) (.e (.cmp .ne (.idx (.var 1) (.var 3)) (.var 2)))) [(.set (.nm 1) (.bin .add (.bin .add (.slc (.var 1) none (some (.var 3))) (.lst [(.var 2)])) (.slc (.var 1) (some (.var 3)) none)))] [])]), (.ret (.bi .tuple [(.var 1)]))]⟩
/-- law(script); 0 script, 1 row, 2 spot, 3 many, 4 n, 5 made, 6 r, 7 line, 8 a, 9 b, 10 value, 11 seen, 12 players, 13 pair -/
def f_law : Fn := ⟨1, 14, [(.set (.nm 1) (.call 5 [(.var 0)])), (.set (.nm 2) (.lst [(.cst (.int 0))])), (.set (.nm 3) (.bin .add (.cst (.int 2)) (.call 7 [(.var 1), (.var 2), (.cst (.int 15))]))), (.set (.nm 4) (.ife (.e (.cmp .eq (.bin .mod (.bi .int [(.var 3)]) (.cst (.int 2))) (.cst (.int 0)))) (.var 3) (.bin .add (.var 3) (.cst (.int 1))))), (.set (.nm 5) (.lst [])), (.for (.nm 6) (.rng1 (.bin .sub (.var 4) (.cst (.int 1)))) [(.set (.nm 7) (.lst [])), (.for (.nm 8) (.rng1 (.bin .sub (.var 4) (.cst (.int 1)))) [(.for (.nm 9) (.rng2 (.bin .add (.var 8) (.cst (.int 1))) (.bin .sub (.var 4) (.cst (.int 1)))) [(.ite (.e (.cmp .eq (.bin .mod (.bi .int [(.bin .sub (.bin .add (.var 8) (.var 9)) (.bin .mul (.cst (.int 2)) (.var 6)))]) (.bin .sub (.var 4) (.cst (.int 1)))) (.cst (.int 0)))) [(.expr (.me .append (.var 7) [(.tup [(.var 8), (.var 9)])]))] [])])]), (.ite (.e (.cmp .lt (.bin .sub (.var 4) (.cst (.int 1))) (.var 3))) [(.expr (.me .append (.var 7) [(.tup [(.bi .min2 [(.var 6), (.bin .sub (.var 4) (.cst (.int 1)))]), (.bi .max2 [(.var 6), (.bin .sub (.var 4) (.cst (.int 1)))])])]))] []), (.expr (.me .append (.var 5) [(.call 8 [(.var 7)])]))]), (.set (.nm 10) (.call 3 [(.var 3)])), (.ite (.not (.e (.call 4 [(.var 10), (.bi .tuple [(.var 5)])]))) [(.ret (.cst (.bl false)))] []), (.set (.nm 11) (.lst [])), (.for (.nm 7) (.e (.var 10)) [(.set (.nm 12) (.lst [])), (.for (.nm 13) (.e (.var 7)) [(.set (.nm 12) (.bin .add (.var 12) (.lst [(.idx (.var 13) (.cst (.int 0))), (.idx (.var 13) (.cst (.int 1)))]))), (.expr (.me .append (.var 11) [(.var 13)]))]), (.ite (.e (.cmp .ne (.bi .len [(.var 12)]) (.bi .len [(.call 8 [(.var 12)])]))) [(.ret (.cst (.bl false)))] [])]), (.ret (.andv (.cmp .eq (.bi .len [(.call 8 [(.var 11)])]) (.bi .len [(.var 11)])) (.cmp .eq (.bi .len [(.var 11)]) (.bin .fdiv (.bin .mul (.var 3) (.bin .sub (.var 3) (.cst (.int 1)))) (.cst (.int 2))))))]⟩
def fs : List Fn := [f_need, f_is_integer, f_is_between, f_rounds, f_law_so, f_law_numbers, f_law_draw, f_law_take, f_law_ordered, f_law]
def G : GT := [("bool", .blt), ("int", .blt), ("isinstance", .blt), ("len", .blt), ("max", .blt), ("min", .blt), ("range", .blt), ("sorted", .blt), ("str", .blt), ("tuple", .blt), ("_law_draw", .fn 6), ("_law_numbers", .fn 5), ("_law_ordered", .fn 8), ("_law_so", .fn 4), ("_law_take", .fn 7), ("is_between", .fn 2), ("is_integer", .fn 1), ("need", .fn 0), ("rounds", .fn 3)]
def gl : Nat → PV := fun _ => .non
theorem sc_f_need : scopeB ["held", "at"] ["held", "at"] (defScope (topS 4)) = true := by decide +kernel
theorem ck_f_need : ckB ["held", "at"] (defScope (topS 4)) G f_need.body (defBody (topS 4)) = true := by decide +kernel
theorem sc_f_is_integer : scopeB ["value"] ["value"] (defScope (topS 5)) = true := by decide +kernel
theorem ck_f_is_integer : ckB ["value"] (defScope (topS 5)) G f_is_integer.body (defBody (topS 5)) = true := by decide +kernel
theorem sc_f_is_between : scopeB ["value", "low", "high"] ["value", "low", "high"] (defScope (topS 6)) = true := by decide +kernel
theorem ck_f_is_between : ckB ["value", "low", "high"] (defScope (topS 6)) G f_is_between.body (defBody (topS 6)) = true := by decide +kernel
theorem sc_f_rounds : scopeB ["many", "last", "told", "k", "pairs", "a", "b"] ["many"] (defScope (topS 8)) = true := by decide +kernel
theorem ck_f_rounds : ckB ["many", "last", "told", "k", "pairs", "a", "b"] (defScope (topS 8)) G f_rounds.body (defBody (topS 8)) = true := by decide +kernel
theorem sc_f_law_so : scopeB ["found", "meant", "k"] ["found", "meant"] (defScope (topS 10)) = true := by decide +kernel
theorem ck_f_law_so : ckB ["found", "meant", "k"] (defScope (topS 10)) G f_law_so.body (defBody (topS 10)) = true := by decide +kernel
theorem sc_f_law_numbers : scopeB ["script", "row", "cell", "left", "k", "mixed"] ["script"] (defScope (topS 11)) = true := by decide +kernel
theorem ck_f_law_numbers : ckB ["script", "row", "cell", "left", "k", "mixed"] (defScope (topS 11)) G f_law_numbers.body (defBody (topS 11)) = true := by decide +kernel
theorem sc_f_law_draw : scopeB ["row", "at", "limit", "mixed"] ["row", "at", "limit"] (defScope (topS 12)) = true := by decide +kernel
theorem ck_f_law_draw : ckB ["row", "at", "limit", "mixed"] (defScope (topS 12)) G f_law_draw.body (defBody (topS 12)) = true := by decide +kernel
theorem sc_f_law_take : scopeB ["row", "spot", "limit"] ["row", "spot", "limit"] (defScope (topS 13)) = true := by decide +kernel
theorem ck_f_law_take : ckB ["row", "spot", "limit"] (defScope (topS 13)) G f_law_take.body (defBody (topS 13)) = true := by decide +kernel
theorem sc_f_law_ordered : scopeB ["values", "made", "one", "at"] ["values"] (defScope (topS 14)) = true := by decide +kernel
theorem ck_f_law_ordered : ckB ["values", "made", "one", "at"] (defScope (topS 14)) G f_law_ordered.body (defBody (topS 14)) = true := by decide +kernel
theorem sc_f_law : scopeB ["script", "row", "spot", "many", "n", "made", "r", "line", "a", "b", "value", "seen", "players", "pair"] ["script"] (defScope (topS 15)) = true := by decide +kernel
theorem ck_f_law : ckB ["script", "row", "spot", "many", "n", "made", "r", "line", "a", "b", "value", "seen", "players", "pair"] (defScope (topS 15)) G f_law.body (defBody (topS 15)) = true := by decide +kernel
end TL

namespace TL
open PySem TM L2
noncomputable def k_need (D : ZC) : ZB := (zscons (zsite (ztnot (ztE (zvar 0))) (zscons zsbad zspass) zspass) zspass)
noncomputable def k_is_integer (D : ZC) : ZB := (zscons (zsret (zandv (zisi (zvar 0) [.int]) (znotv (zisi (zvar 0) [.bool])))) zspass)
noncomputable def k_is_between (D : ZC) : ZB := (zscons (zsret (zandv (zcall D 1 (zcons (zvar 0) znil)) (zchain .le .le (zvar 1) (zvar 0) (zvar 2)))) zspass)
noncomputable def k_rounds (D : ZC) : ZB := (zscons (zsexpr (zcall D 0 (zcons (zcall D 2 (zcons (zvar 0) (zcons (zcst (.int 2)) (zcons (zcst (.int 16)) znil)))) (zcons (zcst (.int 1)) znil)))) (zscons (zsset (zpn 1) (zife (ztE (zcmp .eq (zbin .mod (zvar 0) (zcst (.int 2))) (zcst (.int 0)))) (zbin .sub (zvar 0) (zcst (.int 1))) (zvar 0))) (zscons (zsset (zpn 2) (zlst znil)) (zscons (zsfor (zpn 3) (zi1 (zvar 1)) (zscons (zsset (zpn 4) (zife (ztE (zcmp .lt (zvar 1) (zvar 0))) (zlst (zcons (ztup (zcons (zvar 3) (zcons (zvar 1) znil))) znil)) (zlst znil))) (zscons (zsfor (zpn 5) (zi1 (zvar 1)) (zscons (zsfor (zpn 6) (zi2 (zbin .add (zvar 5) (zcst (.int 1))) (zvar 1)) (zscons (zsite (ztand (ztE (zcmp .ne (zvar 5) (zvar 3))) (ztand (ztE (zcmp .ne (zvar 6) (zvar 3))) (ztE (zcmp .eq (zbin .mod (zbin .sub (zbin .add (zvar 5) (zvar 6)) (zbin .mul (zcst (.int 2)) (zvar 3))) (zvar 1)) (zcst (.int 0)))))) (zscons (zsexpr (zme .append (zvar 4) (zcons (ztup (zcons (zvar 5) (zcons (zvar 6) znil))) znil))) zspass) zspass) zspass)) zspass)) (zscons (zsexpr (zme .append (zvar 2) (zcons (zbi .tuple (zcons (zbi .sorted (zcons (zvar 4) znil)) znil)) znil))) zspass)))) (zscons (zsret (zbi .tuple (zcons (zvar 2) znil))) zspass)))))
noncomputable def k_law_so (D : ZC) : ZB := (zscons (zsite (ztE (zcmp .is (zvar 1) (zcst .non))) (zscons (zsret (zcmp .is (zvar 0) (zcst .non))) zspass) zspass) (zscons (zsite (ztE (zisi (zvar 1) [.tuple])) (zscons (zsite (ztor (ztnot (ztE (zisi (zvar 0) [.tuple]))) (ztE (zcmp .ne (zbi .len (zcons (zvar 0) znil)) (zbi .len (zcons (zvar 1) znil))))) (zscons (zsret (zcst (.bl false))) zspass) zspass) (zscons (zsfor (zpn 2) (zi1 (zbi .len (zcons (zvar 1) znil))) (zscons (zsite (ztnot (ztE (zcall D 4 (zcons (zidx (zvar 0) (zvar 2)) (zcons (zidx (zvar 1) (zvar 2)) znil))))) (zscons (zsret (zcst (.bl false))) zspass) zspass) zspass)) (zscons (zsret (zcst (.bl true))) zspass))) zspass) (zscons (zsite (ztor (ztE (zisi (zvar 1) [.bool])) (ztE (zisi (zvar 0) [.bool]))) (zscons (zsret (zandv (zisi (zvar 1) [.bool]) (zandv (zisi (zvar 0) [.bool]) (zcmp .eq (zvar 0) (zvar 1))))) zspass) zspass) (zscons (zsite (ztE (zisi (zvar 1) [.int])) (zscons (zsret (zandv (zisi (zvar 0) [.int]) (zcmp .eq (zvar 0) (zvar 1)))) zspass) zspass) (zscons (zsret (zandv (zisi (zvar 1) [.str]) (zandv (zisi (zvar 0) [.str]) (zcmp .eq (zvar 0) (zvar 1))))) zspass)))))
noncomputable def k_law_numbers (D : ZC) : ZB := (zscons (zsset (zpn 1) (zlst znil)) (zscons (zsfor (zpn 2) (ziE (zslc (zvar 0) znoO (zsoO (zcst (.int 63))))) (zscons (zsite (ztE (zcmp .ge (zvar 2) (zbin .pow (zcst (.int 10)) (zcst (.int 18))))) (zscons (zsset (zpn 3) (zvar 2)) (zscons (zsfor (zpn 4) (zi1 (zcst (.int 60))) (zscons (zsite (ztE (zcmp .eq (zvar 3) (zcst (.int 0)))) (zscons zsbrk zspass) zspass) (zscons (zsexpr (zme .append (zvar 1) (zcons (zbin .mod (zbi .int (zcons (zvar 3) znil)) (zcst (.int 997))) znil))) (zscons (zsset (zpn 3) (zbin .fdiv (zvar 3) (zcst (.int 997)))) zspass)))) zspass)) (zscons (zsfor (zpn 4) (zi1 (zcst (.int 4))) (zscons (zsset (zpn 5) (zbin .mod (zbi .int (zcons (zbin .add (zbin .add (zbin .mul (zvar 2) (zcst (.int 48271))) (zbin .mul (zvar 4) (zcst (.int 69621)))) (zcst (.int 11))) znil)) (zcst (.int 2147483647)))) (zscons (zsexpr (zme .append (zvar 1) (zcons (zbin .mod (zbi .int (zcons (zbin .add (zbin .mul (zvar 5) (zcst (.int 16807))) (zvar 4)) znil)) (zcst (.int 2147483629))) znil))) zspass))) zspass)) zspass)) (zscons (zsite (ztE (zcmp .eq (zbi .len (zcons (zvar 1) znil)) (zcst (.int 0)))) (zscons (zsexpr (zme .append (zvar 1) (zcons (zcst (.int 0)) znil))) zspass) zspass) (zscons (zsret (zvar 1)) zspass))))
noncomputable def k_law_draw (D : ZC) : ZB := (zscons (zsite (ztE (zcmp .lt (zvar 1) (zbi .len (zcons (zvar 0) znil)))) (zscons (zsret (zbin .mod (zbi .int (zcons (zidx (zvar 0) (zvar 1)) znil)) (zvar 2))) zspass) zspass) (zscons (zsset (zpn 3) (zbin .mod (zbi .int (zcons (zbin .add (zbin .add (zbin .mul (zidx (zvar 0) (zbin .mod (zbi .int (zcons (zvar 1) znil)) (zbi .len (zcons (zvar 0) znil)))) (zcst (.int 40692))) (zbin .mul (zvar 1) (zcst (.int 7919)))) (zcst (.int 3))) znil)) (zcst (.int 2147483399)))) (zscons (zsret (zbin .mod (zbi .int (zcons (zbin .mod (zbi .int (zcons (zbin .add (zbin .mul (zvar 3) (zcst (.int 48271))) (zvar 1)) znil)) (zcst (.int 2147483647))) znil)) (zvar 2))) zspass)))
noncomputable def k_law_take (D : ZC) : ZB := (zscons (zsseti (zvar 1) (zcst (.int 0)) (zbin .add (zidx (zvar 1) (zcst (.int 0))) (zcst (.int 1)))) (zscons (zsret (zcall D 6 (zcons (zvar 0) (zcons (zbin .sub (zidx (zvar 1) (zcst (.int 0))) (zcst (.int 1))) (zcons (zvar 2) znil))))) zspass))
noncomputable def k_law_ordered (D : ZC) : ZB := (zscons (zsset (zpn 1) (zlst znil)) (zscons (zsfor (zpn 2) (ziE (zvar 0)) (zscons (zsset (zpn 3) (zcst (.int 0))) (zscons (zswhl (ztand (ztE (zcmp .lt (zvar 3) (zbi .len (zcons (zvar 1) znil)))) (ztE (zcmp .lt (zidx (zvar 1) (zvar 3)) (zvar 2)))) (zscons (zsset (zpn 3) (zbin .add (zvar 3) (zcst (.int 1)))) zspass)) (zscons (zsite (ztor (ztE (zcmp .eq (zvar 3) (zbi .len (zcons (zvar 1) znil)))) (ztE (zcmp .ne (zidx (zvar 1) (zvar 3)) (zvar 2)))) (zscons (zsset (zpn 1) (zbin .add (zbin .add (zslc (zvar 1) znoO (zsoO (zvar 3))) (zlst (zcons (zvar 2) znil))) (zslc (zvar 1) (zsoO (zvar 3)) znoO))) zspass) zspass) zspass)))) (zscons (zsret (zbi .tuple (zcons (zvar 1) znil))) zspass)))
noncomputable def k_law (D : ZC) : ZB := (zscons (zsset (zpn 1) (zcall D 5 (zcons (zvar 0) znil))) (zscons (zsset (zpn 2) (zlst (zcons (zcst (.int 0)) znil))) (zscons (zsset (zpn 3) (zbin .add (zcst (.int 2)) (zcall D 7 (zcons (zvar 1) (zcons (zvar 2) (zcons (zcst (.int 15)) znil)))))) (zscons (zsset (zpn 4) (zife (ztE (zcmp .eq (zbin .mod (zbi .int (zcons (zvar 3) znil)) (zcst (.int 2))) (zcst (.int 0)))) (zvar 3) (zbin .add (zvar 3) (zcst (.int 1))))) (zscons (zsset (zpn 5) (zlst znil)) (zscons (zsfor (zpn 6) (zi1 (zbin .sub (zvar 4) (zcst (.int 1)))) (zscons (zsset (zpn 7) (zlst znil)) (zscons (zsfor (zpn 8) (zi1 (zbin .sub (zvar 4) (zcst (.int 1)))) (zscons (zsfor (zpn 9) (zi2 (zbin .add (zvar 8) (zcst (.int 1))) (zbin .sub (zvar 4) (zcst (.int 1)))) (zscons (zsite (ztE (zcmp .eq (zbin .mod (zbi .int (zcons (zbin .sub (zbin .add (zvar 8) (zvar 9)) (zbin .mul (zcst (.int 2)) (zvar 6))) znil)) (zbin .sub (zvar 4) (zcst (.int 1)))) (zcst (.int 0)))) (zscons (zsexpr (zme .append (zvar 7) (zcons (ztup (zcons (zvar 8) (zcons (zvar 9) znil))) znil))) zspass) zspass) zspass)) zspass)) (zscons (zsite (ztE (zcmp .lt (zbin .sub (zvar 4) (zcst (.int 1))) (zvar 3))) (zscons (zsexpr (zme .append (zvar 7) (zcons (ztup (zcons (zbi .min2 (zcons (zvar 6) (zcons (zbin .sub (zvar 4) (zcst (.int 1))) znil))) (zcons (zbi .max2 (zcons (zvar 6) (zcons (zbin .sub (zvar 4) (zcst (.int 1))) znil))) znil))) znil))) zspass) zspass) (zscons (zsexpr (zme .append (zvar 5) (zcons (zcall D 8 (zcons (zvar 7) znil)) znil))) zspass))))) (zscons (zsset (zpn 10) (zcall D 3 (zcons (zvar 3) znil))) (zscons (zsite (ztnot (ztE (zcall D 4 (zcons (zvar 10) (zcons (zbi .tuple (zcons (zvar 5) znil)) znil))))) (zscons (zsret (zcst (.bl false))) zspass) zspass) (zscons (zsset (zpn 11) (zlst znil)) (zscons (zsfor (zpn 7) (ziE (zvar 10)) (zscons (zsset (zpn 12) (zlst znil)) (zscons (zsfor (zpn 13) (ziE (zvar 7)) (zscons (zsset (zpn 12) (zbin .add (zvar 12) (zlst (zcons (zidx (zvar 13) (zcst (.int 0))) (zcons (zidx (zvar 13) (zcst (.int 1))) znil))))) (zscons (zsexpr (zme .append (zvar 11) (zcons (zvar 13) znil))) zspass))) (zscons (zsite (ztE (zcmp .ne (zbi .len (zcons (zvar 12) znil)) (zbi .len (zcons (zcall D 8 (zcons (zvar 12) znil)) znil)))) (zscons (zsret (zcst (.bl false))) zspass) zspass) zspass)))) (zscons (zsret (zandv (zcmp .eq (zbi .len (zcons (zcall D 8 (zcons (zvar 11) znil)) znil)) (zbi .len (zcons (zvar 11) znil))) (zcmp .eq (zbi .len (zcons (zvar 11) znil)) (zbin .fdiv (zbin .mul (zvar 3) (zbin .sub (zvar 3) (zcst (.int 1)))) (zcst (.int 2)))))) zspass)))))))))))
noncomputable def kfs : List ZFn := [⟨2, 2, k_need⟩, ⟨1, 1, k_is_integer⟩, ⟨3, 3, k_is_between⟩, ⟨1, 7, k_rounds⟩, ⟨2, 3, k_law_so⟩, ⟨1, 6, k_law_numbers⟩, ⟨3, 4, k_law_draw⟩, ⟨3, 3, k_law_take⟩, ⟨1, 4, k_law_ordered⟩, ⟨1, 14, k_law⟩]
theorem keq_need : k_need = fun D => zBk D f_need.body := by kernel_rfl
theorem keq_is_integer : k_is_integer = fun D => zBk D f_is_integer.body := by kernel_rfl
theorem keq_is_between : k_is_between = fun D => zBk D f_is_between.body := by kernel_rfl
theorem keq_rounds : k_rounds = fun D => zBk D f_rounds.body := by kernel_rfl
theorem keq_law_so : k_law_so = fun D => zBk D f_law_so.body := by kernel_rfl
theorem keq_law_numbers : k_law_numbers = fun D => zBk D f_law_numbers.body := by kernel_rfl
theorem keq_law_draw : k_law_draw = fun D => zBk D f_law_draw.body := by kernel_rfl
theorem keq_law_take : k_law_take = fun D => zBk D f_law_take.body := by kernel_rfl
theorem keq_law_ordered : k_law_ordered = fun D => zBk D f_law_ordered.body := by kernel_rfl
theorem keq_law : k_law = fun D => zBk D f_law.body := by kernel_rfl
theorem kfs_eq : kfs = zfs fs := by simp only [kfs, zfs, fs, List.map_cons, List.map_nil, keq_need, keq_is_integer, keq_is_between, keq_rounds, keq_law_so, keq_law_numbers, keq_law_draw, keq_law_take, keq_law_ordered, keq_law]; rfl
end TL

namespace TL
open TM
noncomputable def goodZ (r : ZOut) : Bool := match r with
  | .ret (.bl true) _ => true
  | _ => false
noncomputable def Z1 (a b c : List PV) : ZS := (((ZS.mk 0 .e).push (.ro a)).push (.lst b)).push (.lst c) |>.push (.lst [.int 1])
noncomputable def rest (d : Int) (a b c : List PV) : ZOut := zBk ⟨zcallN kfs gl 19, gl⟩ (f_law.body.drop 3) [some (.obj 0), some (.obj 1), some (.obj 3), some (.int d), none, none, none, none, none, none, none, none, none, none] (Z1 a b c)
theorem rest0 (a b c : List PV) : goodZ (rest (2 + ((0 : Nat) : Int)) a b c) = true := by kernel_rfl
theorem rest1 (a b c : List PV) : goodZ (rest (2 + ((1 : Nat) : Int)) a b c) = true := by kernel_rfl
theorem rest2 (a b c : List PV) : goodZ (rest (2 + ((2 : Nat) : Int)) a b c) = true := by kernel_rfl
theorem rest3 (a b c : List PV) : goodZ (rest (2 + ((3 : Nat) : Int)) a b c) = true := by kernel_rfl
theorem rest4 (a b c : List PV) : goodZ (rest (2 + ((4 : Nat) : Int)) a b c) = true := by kernel_rfl
theorem rest5 (a b c : List PV) : goodZ (rest (2 + ((5 : Nat) : Int)) a b c) = true := by kernel_rfl
theorem rest6 (a b c : List PV) : goodZ (rest (2 + ((6 : Nat) : Int)) a b c) = true := by kernel_rfl
theorem rest7 (a b c : List PV) : goodZ (rest (2 + ((7 : Nat) : Int)) a b c) = true := by kernel_rfl
theorem rest8 (a b c : List PV) : goodZ (rest (2 + ((8 : Nat) : Int)) a b c) = true := by kernel_rfl
theorem rest9 (a b c : List PV) : goodZ (rest (2 + ((9 : Nat) : Int)) a b c) = true := by kernel_rfl
theorem rest10 (a b c : List PV) : goodZ (rest (2 + ((10 : Nat) : Int)) a b c) = true := by kernel_rfl
theorem rest11 (a b c : List PV) : goodZ (rest (2 + ((11 : Nat) : Int)) a b c) = true := by kernel_rfl
theorem rest12 (a b c : List PV) : goodZ (rest (2 + ((12 : Nat) : Int)) a b c) = true := by kernel_rfl
theorem rest13 (a b c : List PV) : goodZ (rest (2 + ((13 : Nat) : Int)) a b c) = true := by kernel_rfl
theorem rest14 (a b c : List PV) : goodZ (rest (2 + ((14 : Nat) : Int)) a b c) = true := by kernel_rfl
theorem all_rest (a b c : List PV) : ∀ d : Nat, d < 15 → goodZ (rest (2 + (d : Int)) a b c) = true
  | 0, _ => rest0 a b c
  | 1, _ => rest1 a b c
  | 2, _ => rest2 a b c
  | 3, _ => rest3 a b c
  | 4, _ => rest4 a b c
  | 5, _ => rest5 a b c
  | 6, _ => rest6 a b c
  | 7, _ => rest7 a b c
  | 8, _ => rest8 a b c
  | 9, _ => rest9 a b c
  | 10, _ => rest10 a b c
  | 11, _ => rest11 a b c
  | 12, _ => rest12 a b c
  | 13, _ => rest13 a b c
  | 14, _ => rest14 a b c
  | n + 15, h => absurd h (by omega)
theorem zr0 : ZR (.mk 0 .e) [] := ⟨rfl, fun i => by simp; rfl⟩
theorem zr1 (a b c : List PV) : ZR (Z1 a b c) [.ro a, .lst b, .lst c, .lst [.int 1]] := (((zr0.push _).push _).push _).push _
theorem law_main : ∀ ns : List Int, ns.length ≤ 63 → ∃ S', callN fs gl 20 9 [.obj 0] [.ro (ns.map PV.int)] = .ok (.bl true) S' := by
  intro ns hn
  have e0 : callN fs gl 20 9 [.obj 0] [.ro (ns.map PV.int)] = runF ⟨callN fs gl 19, gl⟩ f_law [.obj 0] [.ro (ns.map PV.int)] := rfl
  rw [e0]
  obtain ⟨p, S1, h1, xs, c, rfl, rfl, hx, hp, hl⟩ := numbers_ok ⟨callN fs gl 18, gl⟩ ns hn
  have c5 : callN fs gl 19 5 [.obj 0] [.ro (ns.map PV.int)] = .ok (.obj 1) [.ro (ns.map PV.int), .lst (xs.map PV.int), .lst c] := h1
  obtain ⟨p2, S2, h2, d, rfl, rfl, d0, d1⟩ := take_ok (C := ⟨callN fs gl 18, gl⟩) (d := 6) (i := 1) (j := 3) (S := [.ro (ns.map PV.int), .lst (xs.map PV.int), .lst c, .lst [.int ((0 : Nat) : Int)]]) (lim := 15) (k := 0) (.inr ⟨⟨callN fs gl 17, gl⟩, rfl⟩) rfl rfl (by decide) hx (by decide)
  have c7 : callN fs gl 19 7 [.obj 1, .obj 3, .int 15] [.ro (ns.map PV.int), .lst (xs.map PV.int), .lst c, .lst [.int 0]] = .ok (.int d) [.ro (ns.map PV.int), .lst (xs.map PV.int), .lst c, .lst [.int 1]] := h2
  have key : evB ⟨callN fs gl 19, gl⟩ f_law.body ([PV.obj 0].map some ++ List.replicate (f_law.nn - f_law.np) none) [.ro (ns.map PV.int)] = evB ⟨callN fs gl 19, gl⟩ (f_law.body.drop 3) [some (.obj 0), some (.obj 1), some (.obj 3), some (.int (2 + d)), none, none, none, none, none, none, none, none, none, none] [.ro (ns.map PV.int), .lst (xs.map PV.int), .lst c, .lst [.int 1]] := by
    show evB ⟨callN fs gl 19, gl⟩ ((.set (.nm 1) (.call 5 [(.var 0)])) :: (.set (.nm 2) (.lst [(.cst (.int 0))])) :: (.set (.nm 3) (.bin .add (.cst (.int 2)) (.call 7 [(.var 1), (.var 2), (.cst (.int 15))]))) :: f_law.body.drop 3) [some (.obj 0), none, none, none, none, none, none, none, none, none, none, none, none, none] _ = _
    generalize f_law.body.drop 3 = R
    simp -implicitDefEqProofs only [evB, evS, ev, evs, Res.bind_ok, Res.out_ok, Out.seq_nx, List.getElem?_cons_succ, List.getElem?_cons_zero, c5, bindP_nm, List.length_cons, List.length_nil, List.set, Nat.reduceAdd, Nat.reduceLT, Nat.reduceLeDiff, if_true, List.cons_append, List.nil_append, c7, bV_add, LINE]
  unfold runF
  rw [if_pos (show [PV.obj 0].length = f_law.np from rfl), key]
  obtain ⟨d, rfl⟩ := Int.eq_ofNat_of_zero_le d0
  have g := all_rest (ns.map PV.int) (xs.map PV.int) c d (by omega)
  have sm := simB (D := ⟨zcallN kfs gl 19, gl⟩) (C := ⟨callN fs gl 19, gl⟩) ⟨fun f as Z S h => by rw [kfs_eq]; exact sim_call fs gl 19 f as Z S h, rfl⟩ (f_law.body.drop 3) (env := [some (.obj 0), some (.obj 1), some (.obj 3), some (.int (2 + d)), none, none, none, none, none, none, none, none, none, none]) _ _ (zr1 (ns.map PV.int) (xs.map PV.int) c)
  have g' : goodZ (zBk ⟨zcallN kfs gl 19, gl⟩ (f_law.body.drop 3) [some (.obj 0), some (.obj 1), some (.obj 3), some (.int (2 + d)), none, none, none, none, none, none, none, none, none, none] (Z1 (ns.map PV.int) (xs.map PV.int) c)) = true := g
  revert g' sm
  cases zBk ⟨zcallN kfs gl 19, gl⟩ (f_law.body.drop 3) [some (.obj 0), some (.obj 1), some (.obj 3), some (.int (2 + d)), none, none, none, none, none, none, none, none, none, none] (Z1 (ns.map PV.int) (xs.map PV.int) c) with
  | ret p Z =>
    rintro ⟨S2, e2, _⟩ g'
    rw [e2]
    cases p with
    | bl b =>
      cases b with
      | true => exact ⟨_, rfl⟩
      | false => cases g'
    | _ => cases g'
  | nx _ _ => intro _ g'; cases g'
  | brk _ _ => intro _ g'; cases g'
  | cnt _ _ => intro _ g'; cases g'
  | exc _ _ => intro _ g'; cases g'
  | bad => intro _ g'; cases g'
end TL

namespace TL
open PySem TM L2
theorem all_mk {l : PySem.W.OpenLaw} {w : World} {K : PySem.W.Frag} {h : Heap} {mg : Str → Option Value} {fa : Addr} {od1 an1 : Option Addr} {sl1 : Array (Option Value)} {oc1 kV1 dc1 pm1 cd1 ct1 : Value} {f1 : Addr} {od2 an2 : Option Addr} {sl2 : Array (Option Value)} {oc2 kV2 dc2 pm2 cd2 ct2 : Value} {f2 : Addr} {od3 an3 : Option Addr} {sl3 : Array (Option Value)} {oc3 kV3 dc3 pm3 cd3 ct3 : Value} {f3 : Addr} {od4 an4 : Option Addr} {sl4 : Array (Option Value)} {oc4 kV4 dc4 pm4 cd4 ct4 : Value} {f4 : Addr} {od5 an5 : Option Addr} {sl5 : Array (Option Value)} {oc5 kV5 dc5 pm5 cd5 ct5 : Value} {f5 : Addr} {od6 an6 : Option Addr} {sl6 : Array (Option Value)} {oc6 kV6 dc6 pm6 cd6 ct6 : Value} {f6 : Addr} {od7 an7 : Option Addr} {sl7 : Array (Option Value)} {oc7 kV7 dc7 pm7 cd7 ct7 : Value} {f7 : Addr} {od8 an8 : Option Addr} {sl8 : Array (Option Value)} {oc8 kV8 dc8 pm8 cd8 ct8 : Value} {f8 : Addr} {od9 an9 : Option Addr} {sl9 : Array (Option Value)} {oc9 kV9 dc9 pm9 cd9 ct9 : Value} {f9 : Addr} {od10 an10 : Option Addr} {sl10 : Array (Option Value)} {oc10 kV10 dc10 pm10 cd10 ct10 : Value} {f10 : Addr}
    (X : K.In h) (HG : h.Ns mainGlobals mg) (hfa : mg "law" = some (.ref fa))
    (a1 : PySem.W.nsIn K mainGlobals "need" = some (some (.ref f1))) (l1 : K.lookup f1 = some ⟨oc1, od1, .func (PySem.W.fnOf "need" "need" (defArgs (topS 4)) (defBody (topS 4)) (defScope (topS 4)) .none kV1 dc1 pm1 an1 cd1 ct1), sl1⟩) (c1 : PySem.W.codeIn K cd1 "need" = true) (k1 : PySem.W.keepIn K (.ref f1) = true)
    (a2 : PySem.W.nsIn K mainGlobals "is_integer" = some (some (.ref f2))) (l2 : K.lookup f2 = some ⟨oc2, od2, .func (PySem.W.fnOf "is_integer" "is_integer" (defArgs (topS 5)) (defBody (topS 5)) (defScope (topS 5)) .none kV2 dc2 pm2 an2 cd2 ct2), sl2⟩) (c2 : PySem.W.codeIn K cd2 "is_integer" = true) (k2 : PySem.W.keepIn K (.ref f2) = true)
    (a3 : PySem.W.nsIn K mainGlobals "is_between" = some (some (.ref f3))) (l3 : K.lookup f3 = some ⟨oc3, od3, .func (PySem.W.fnOf "is_between" "is_between" (defArgs (topS 6)) (defBody (topS 6)) (defScope (topS 6)) .none kV3 dc3 pm3 an3 cd3 ct3), sl3⟩) (c3 : PySem.W.codeIn K cd3 "is_between" = true) (k3 : PySem.W.keepIn K (.ref f3) = true)
    (a4 : PySem.W.nsIn K mainGlobals "rounds" = some (some (.ref f4))) (l4 : K.lookup f4 = some ⟨oc4, od4, .func (PySem.W.fnOf "rounds" "rounds" (defArgs (topS 8)) (defBody (topS 8)) (defScope (topS 8)) .none kV4 dc4 pm4 an4 cd4 ct4), sl4⟩) (c4 : PySem.W.codeIn K cd4 "rounds" = true) (k4 : PySem.W.keepIn K (.ref f4) = true)
    (a5 : PySem.W.nsIn K mainGlobals "_law_so" = some (some (.ref f5))) (l5 : K.lookup f5 = some ⟨oc5, od5, .func (PySem.W.fnOf "_law_so" "_law_so" (defArgs (topS 10)) (defBody (topS 10)) (defScope (topS 10)) .none kV5 dc5 pm5 an5 cd5 ct5), sl5⟩) (c5 : PySem.W.codeIn K cd5 "_law_so" = true) (k5 : PySem.W.keepIn K (.ref f5) = true)
    (a6 : PySem.W.nsIn K mainGlobals "_law_numbers" = some (some (.ref f6))) (l6 : K.lookup f6 = some ⟨oc6, od6, .func (PySem.W.fnOf "_law_numbers" "_law_numbers" (defArgs (topS 11)) (defBody (topS 11)) (defScope (topS 11)) .none kV6 dc6 pm6 an6 cd6 ct6), sl6⟩) (c6 : PySem.W.codeIn K cd6 "_law_numbers" = true) (k6 : PySem.W.keepIn K (.ref f6) = true)
    (a7 : PySem.W.nsIn K mainGlobals "_law_draw" = some (some (.ref f7))) (l7 : K.lookup f7 = some ⟨oc7, od7, .func (PySem.W.fnOf "_law_draw" "_law_draw" (defArgs (topS 12)) (defBody (topS 12)) (defScope (topS 12)) .none kV7 dc7 pm7 an7 cd7 ct7), sl7⟩) (c7 : PySem.W.codeIn K cd7 "_law_draw" = true) (k7 : PySem.W.keepIn K (.ref f7) = true)
    (a8 : PySem.W.nsIn K mainGlobals "_law_take" = some (some (.ref f8))) (l8 : K.lookup f8 = some ⟨oc8, od8, .func (PySem.W.fnOf "_law_take" "_law_take" (defArgs (topS 13)) (defBody (topS 13)) (defScope (topS 13)) .none kV8 dc8 pm8 an8 cd8 ct8), sl8⟩) (c8 : PySem.W.codeIn K cd8 "_law_take" = true) (k8 : PySem.W.keepIn K (.ref f8) = true)
    (a9 : PySem.W.nsIn K mainGlobals "_law_ordered" = some (some (.ref f9))) (l9 : K.lookup f9 = some ⟨oc9, od9, .func (PySem.W.fnOf "_law_ordered" "_law_ordered" (defArgs (topS 14)) (defBody (topS 14)) (defScope (topS 14)) .none kV9 dc9 pm9 an9 cd9 ct9), sl9⟩) (c9 : PySem.W.codeIn K cd9 "_law_ordered" = true) (k9 : PySem.W.keepIn K (.ref f9) = true)
    (a10 : PySem.W.nsIn K mainGlobals "law" = some (some (.ref f10))) (l10 : K.lookup f10 = some ⟨oc10, od10, .func (PySem.W.fnOf "law" "law" (defArgs (topS 15)) (defBody (topS 15)) (defScope (topS 15)) .none kV10 dc10 pm10 an10 cd10 ct10), sl10⟩) (c10 : PySem.W.codeIn K cd10 "law" = true) (k10 : PySem.W.keepIn K (.ref f10) = true)
    (z0 : PySem.W.nsIn K mainGlobals "bool" = some none)
    (z1 : PySem.W.nsIn K mainGlobals "int" = some none)
    (z2 : PySem.W.nsIn K mainGlobals "isinstance" = some none)
    (z3 : PySem.W.nsIn K mainGlobals "len" = some none)
    (z4 : PySem.W.nsIn K mainGlobals "max" = some none)
    (z5 : PySem.W.nsIn K mainGlobals "min" = some none)
    (z6 : PySem.W.nsIn K mainGlobals "range" = some none)
    (z7 : PySem.W.nsIn K mainGlobals "sorted" = some none)
    (z8 : PySem.W.nsIn K mainGlobals "str" = some none)
    (z9 : PySem.W.nsIn K mainGlobals "tuple" = some none)
    : ∃ fd : FuncData, (∀ (s : Shared) (v : Value), BindsTo s fd ⟨[v], []⟩ [("script", v)]) ∧ ∀ base : Heap, K.In base → base.Ns mainGlobals mg → FnOk l.prog w K mg base (L2.CX l.prog w) 20 fa fd ["script"] (spOf K [] (fun _ _ _ _ => False) 1 (callN fs gl 20 9)) := by
  have e := hfa.symm.trans (PySem.W.mg_of X HG a10)
  cases e
  have F1 := fun_mk (st := topS 4) l1 c1 k1
  have D1 : DefOk K mg fs G "need" 0 f1 _ ["held", "at"] := ⟨PySem.W.mg_of X HG a1, F1.binds (ps := ["held", "at"]) fun _ _ _ _ _ _ us hl => match us, hl with | [_, _], _ => rfl, _, _, _, ["held", "at"], _, F1, scope_of sc_f_need, rfl, rfl, rfl, ck_f_need⟩
  have F2 := fun_mk (st := topS 5) l2 c2 k2
  have D2 : DefOk K mg fs G "is_integer" 1 f2 _ ["value"] := ⟨PySem.W.mg_of X HG a2, F2.binds (ps := ["value"]) fun _ _ _ _ _ _ us hl => match us, hl with | [_], _ => rfl, _, _, _, ["value"], _, F2, scope_of sc_f_is_integer, rfl, rfl, rfl, ck_f_is_integer⟩
  have F3 := fun_mk (st := topS 6) l3 c3 k3
  have D3 : DefOk K mg fs G "is_between" 2 f3 _ ["value", "low", "high"] := ⟨PySem.W.mg_of X HG a3, F3.binds (ps := ["value", "low", "high"]) fun _ _ _ _ _ _ us hl => match us, hl with | [_, _, _], _ => rfl, _, _, _, ["value", "low", "high"], _, F3, scope_of sc_f_is_between, rfl, rfl, rfl, ck_f_is_between⟩
  have F4 := fun_mk (st := topS 8) l4 c4 k4
  have D4 : DefOk K mg fs G "rounds" 3 f4 _ ["many"] := ⟨PySem.W.mg_of X HG a4, F4.binds (ps := ["many"]) fun _ _ _ _ _ _ us hl => match us, hl with | [_], _ => rfl, _, _, _, ["many", "last", "told", "k", "pairs", "a", "b"], _, F4, scope_of sc_f_rounds, rfl, rfl, rfl, ck_f_rounds⟩
  have F5 := fun_mk (st := topS 10) l5 c5 k5
  have D5 : DefOk K mg fs G "_law_so" 4 f5 _ ["found", "meant"] := ⟨PySem.W.mg_of X HG a5, F5.binds (ps := ["found", "meant"]) fun _ _ _ _ _ _ us hl => match us, hl with | [_, _], _ => rfl, _, _, _, ["found", "meant", "k"], _, F5, scope_of sc_f_law_so, rfl, rfl, rfl, ck_f_law_so⟩
  have F6 := fun_mk (st := topS 11) l6 c6 k6
  have D6 : DefOk K mg fs G "_law_numbers" 5 f6 _ ["script"] := ⟨PySem.W.mg_of X HG a6, F6.binds (ps := ["script"]) fun _ _ _ _ _ _ us hl => match us, hl with | [_], _ => rfl, _, _, _, ["script", "row", "cell", "left", "k", "mixed"], _, F6, scope_of sc_f_law_numbers, rfl, rfl, rfl, ck_f_law_numbers⟩
  have F7 := fun_mk (st := topS 12) l7 c7 k7
  have D7 : DefOk K mg fs G "_law_draw" 6 f7 _ ["row", "at", "limit"] := ⟨PySem.W.mg_of X HG a7, F7.binds (ps := ["row", "at", "limit"]) fun _ _ _ _ _ _ us hl => match us, hl with | [_, _, _], _ => rfl, _, _, _, ["row", "at", "limit", "mixed"], _, F7, scope_of sc_f_law_draw, rfl, rfl, rfl, ck_f_law_draw⟩
  have F8 := fun_mk (st := topS 13) l8 c8 k8
  have D8 : DefOk K mg fs G "_law_take" 7 f8 _ ["row", "spot", "limit"] := ⟨PySem.W.mg_of X HG a8, F8.binds (ps := ["row", "spot", "limit"]) fun _ _ _ _ _ _ us hl => match us, hl with | [_, _, _], _ => rfl, _, _, _, ["row", "spot", "limit"], _, F8, scope_of sc_f_law_take, rfl, rfl, rfl, ck_f_law_take⟩
  have F9 := fun_mk (st := topS 14) l9 c9 k9
  have D9 : DefOk K mg fs G "_law_ordered" 8 f9 _ ["values"] := ⟨PySem.W.mg_of X HG a9, F9.binds (ps := ["values"]) fun _ _ _ _ _ _ us hl => match us, hl with | [_], _ => rfl, _, _, _, ["values", "made", "one", "at"], _, F9, scope_of sc_f_law_ordered, rfl, rfl, rfl, ck_f_law_ordered⟩
  have F10 := fun_mk (st := topS 15) l10 c10 k10
  have D10 : DefOk K mg fs G "law" 9 _ _ ["script"] := ⟨PySem.W.mg_of X HG a10, F10.binds (ps := ["script"]) fun _ _ _ _ _ _ us hl => match us, hl with | [_], _ => rfl, _, _, _, ["script", "row", "spot", "many", "n", "made", "r", "line", "a", "b", "value", "seen", "players", "pair"], _, F10, scope_of sc_f_law, rfl, rfl, rfl, ck_f_law⟩
  have hG : AllP (GOk K mg fs gl G) G := ⟨PySem.W.mg_none_of X HG z0, PySem.W.mg_none_of X HG z1, PySem.W.mg_none_of X HG z2, PySem.W.mg_none_of X HG z3, PySem.W.mg_none_of X HG z4, PySem.W.mg_none_of X HG z5, PySem.W.mg_none_of X HG z6, PySem.W.mg_none_of X HG z7, PySem.W.mg_none_of X HG z8, PySem.W.mg_none_of X HG z9, ⟨_, _, _, D7⟩, ⟨_, _, _, D6⟩, ⟨_, _, _, D9⟩, ⟨_, _, _, D5⟩, ⟨_, _, _, D8⟩, ⟨_, _, _, D3⟩, ⟨_, _, _, D2⟩, ⟨_, _, _, D1⟩, ⟨_, _, _, D4⟩, trivial⟩
  refine ⟨_, fun s v => .of_eq rfl, fun base _ _ => def_ok D10 (prog_all hG 19)⟩
end TL
open PySem PySem.W PyProof.Rows
set_option maxHeartbeats 0 in
theorem PySem.Challenge.cw_tilemoot_k47_rounds_of_pairs_holds : PySem.Challenge.rw_tilemoot_k47_rounds_of_pairs.Holds := by
  w_on; o_law; k_head; (case hw => w_witness2)
  k_fill
  refine TM.law_end (l := PySem.Challenge.rw_tilemoot_k47_rounds_of_pairs) (k := 20) (j := 9) (fs := TL.fs) (gl := TL.gl) (x := "script") (R := fun _ _ _ _ => False) rfl rfl ⟨rfl, by decide, by decide⟩ (fun w h Y => PySem.W.kIn_of Y) ?F TL.law_main
  case F =>
    intro w mg fa h KX HG hmg
    refine' TL.all_mk KX HG hmg ?a1 ?l1 ?c1 ?k1 ?a2 ?l2 ?c2 ?k2 ?a3 ?l3 ?c3 ?k3 ?a4 ?l4 ?c4 ?k4 ?a5 ?l5 ?c5 ?k5 ?a6 ?l6 ?c6 ?k6 ?a7 ?l7 ?c7 ?k7 ?a8 ?l8 ?c8 ?k8 ?a9 ?l9 ?c9 ?k9 ?a10 ?l10 ?c10 ?k10 ?z0 ?z1 ?z2 ?z3 ?z4 ?z5 ?z6 ?z7 ?z8 ?z9
    (case a1 => k_is)
    (case l1 => k_is)
    (case c1 => k_is)
    (case k1 => k_is)
    (case a2 => k_is)
    (case l2 => k_is)
    (case c2 => k_is)
    (case k2 => k_is)
    (case a3 => k_is)
    (case l3 => k_is)
    (case c3 => k_is)
    (case k3 => k_is)
    (case a4 => k_is)
    (case l4 => k_is)
    (case c4 => k_is)
    (case k4 => k_is)
    (case a5 => k_is)
    (case l5 => k_is)
    (case c5 => k_is)
    (case k5 => k_is)
    (case a6 => k_is)
    (case l6 => k_is)
    (case c6 => k_is)
    (case k6 => k_is)
    (case a7 => k_is)
    (case l7 => k_is)
    (case c7 => k_is)
    (case k7 => k_is)
    (case a8 => k_is)
    (case l8 => k_is)
    (case c8 => k_is)
    (case k8 => k_is)
    (case a9 => k_is)
    (case l9 => k_is)
    (case c9 => k_is)
    (case k9 => k_is)
    (case a10 => k_is)
    (case l10 => k_is)
    (case c10 => k_is)
    (case k10 => k_is)
    (case z0 => k_is)
    (case z1 => k_is)
    (case z2 => k_is)
    (case z3 => k_is)
    (case z4 => k_is)
    (case z5 => k_is)
    (case z6 => k_is)
    (case z7 => k_is)
    (case z8 => k_is)
    (case z9 => k_is)

