import PyProof.Rows.All
import Wide.All
import OpenK.AllK
import Wide.FinOn
import HandS.ForMost
import HandS.Deep
import HandS.Star
import HandS.IsInst
import HandS.Zip
import HandS.Rev
import HandS.TupAny
import HandS.Conv
import HandS.Walk
import HandS.Style
import HandS.TupMul
import HandS.Small
import KE.KeyNested
import KE.KDictKeyed
import KE.GoesEnum
import KE.KIndexOf
import KE.KSortTupG
import KE.DataCmp
import KE.DataMinMax
import KE.SortData
import KE.DataFind
import KE.DataAny
import HandS.SetFor
import HandS.TupLe
import PySem.Challenge.RW_trainring_k29_whole_moves_at_once
set_option Elab.async false
set_option Elab.async false
set_option linter.all false
/-! values, results, the small language and what it evaluates to -/
namespace TR
open PySem

abbrev D := PyData

/-- a value that a slot holds: data that is never written again; a list of one's own; a list of lists of one's own; a dict of one's own; a set -/
inductive M where
  | pu (d : D)
  | li (xs : List D)
  | nl (xss : List (List D))
  | di (kvs : List (D × D))
  | st (xs : List D)

def M.toD : M → D
  | .pu d => d
  | .li xs => .list xs
  | .nl xss => .list (xss.map .list)
  | .di kvs => .dict kvs
  | .st xs => .list xs

structure Exc where
  cls : Str
  args : List D

inductive R (α : Type) where
  | ok (a : α)
  | exc (x : Exc)
  | bad

def R.bind {α β : Type} : R α → (α → R β) → R β
  | .ok a, f => f a
  | .exc x, _ => .exc x
  | .bad, _ => .bad
instance : Monad R where
  pure := .ok
  bind := R.bind
@[simp] theorem R.ok_bind {α β : Type} (a : α) (f : α → R β) : (R.ok a >>= f) = f a := rfl
@[simp] theorem R.bad_bind {α β : Type} (f : α → R β) : ((R.bad : R α) >>= f) = R.bad := rfl
@[simp] theorem R.exc_bind {α β : Type} (x : Exc) (f : α → R β) : ((R.exc x : R α) >>= f) = R.exc x := rfl
@[simp] theorem R.pure_eq {α : Type} (a : α) : (pure a : R α) = R.ok a := rfl

def R.ofOpt {α : Type} : Option α → R α
  | some a => .ok a
  | none => .bad

abbrev Env := List (Option M)
def Env.get (env : Env) (i : Nat) : R M := match env[i]? with
  | some (some m) => .ok m
  | _ => .bad

/-- a def: data in, a value out; a def that writes its first argument -/
abbrev FP := List D → R M
abbrev FW := M → List D → R (M × M)
inductive Fn where
  | pr (f : FP)
  | wr (f : FW)

inductive BOp | add | sub | mul | fdiv | mod | pow
  deriving DecidableEq
inductive COp | eq | ne | lt | le | gt | ge | inn | nin
  deriving DecidableEq
inductive Bi | len | abs | max | min | sum | any | all | sorted | list | tuple | set | int | bool | str
  | isint | isbool | istup | islist | isstr | istl
  deriving DecidableEq
inductive Mt | index | count | get | join | split | replace
  deriving DecidableEq

inductive P where
  | v (i : Nat)
  | t (ps : List P)

inductive E where
  | cst (d : D)
  | var (i : Nat)
  | glb (k : Nat) (d : D)
  | call (k : Nat) (as : List E)
  | callW (k y : Nat) (as : List E)
  | callT (k : Nat) (as : List E)
  | popI (y : Nat) (a : E)
  | bi (b : Bi) (as : List E)
  | mt (m : Mt) (o : E) (as : List E)
  | bin (o : BOp) (a b : E)
  | cmp (o : COp) (a b : E)
  | chn (o1 o2 : COp) (a b c : E)
  | isc (neg : Bool) (a : E) (c : D)
  | neg (a : E)
  | not (a : E)
  | and (a b : E)
  | or (a b : E)
  | ite (c a b : E)
  | tup (as : List E)
  | lst (as : List E)
  | star (a : E)
  | sub (a b : E)
  | slc (a : E) (lo hi : Option E)
  | rev (a : E)
  | lc (own : Bool) (vs : List Nat) (elt : E) (p : P) (it : E) (cs : List E)
  | lc2 (vs vs1 : List Nat) (elt : E) (p : P) (it : E) (p1 : P) (it1 : E) (cs1 : List E)
  | dc (vs : List Nat) (k v : E) (p : P) (it : E)
  | dct (kvs : List E)
  | rng (as : List E)
  | rgl (tup : Bool) (as : List E)
  | enm (a : E)
  | zip (a b : E)
  | rvd (a : E)
  | its (a : E)
  | vls (a : E)

inductive S where
  | asg (p : P) (e : E)
  | par (ps : List Nat) (es : List E)
  | setI (y : Nat) (i e : E)
  | setII (y : Nat) (i j e : E)
  | augN (y : Nat) (o : BOp) (e : E)
  | augI (y : Nat) (i : E) (o : BOp) (e : E)
  | augII (y : Nat) (i j : E) (o : BOp) (e : E)
  | app (y : Nat) (e : E)
  | appI (y : Nat) (i e : E)
  | ext (y : Nat) (e : E)
  | upd (y : Nat) (e : E)
  | set2 (y : Nat) (i1 i2 e1 e2 : E)
  | setN (y : Nat) (i : E) (x : Nat) (e1 e2 : E)
  | ret (e : E)
  | retN
  | ifs (c : E) (a b : List S)
  | for_ (p : P) (it : E) (body : List S)
  | whl (fuel : Nat) (c : E) (body : List S)
  | brk
  | pass
  | do_ (e : E)

/-! ### plain operations -/
def D.isAtom : D → Bool
  | .none | .bool _ | .int _ | .str _ => true
  | _ => false
def okD (d : D) : Bool := d.plain && decide (d.depth ≤ 60)
/-- a key: ints, texts, None, tuples of such -/
def okKey : Nat → D → Bool
  | _, .int _ => true
  | _, .str _ => true
  | _, .none => true
  | n + 1, .tuple xs => xs.all (okKey n)
  | _, _ => false
def keyOk (d : D) : Bool := okKey 8 d
def atomKey : D → Bool
  | .int _ => true
  | .str _ => true
  | _ => false
/-- the key is of the kind of the dict's keys -/
def keyFit (kvs : List (D × D)) (d : D) : Bool := atomKey d && kvs.all fun kv => atomKey kv.1
def dLook (kvs : List (D × D)) (k : D) : Option D := (kvs.find? fun kv => PyData.eqv kv.1 k).map (·.2)
def dPut (kvs : List (D × D)) (k v : D) : List (D × D) :=
  if kvs.any fun kv => PyData.eqv kv.1 k then kvs.map fun kv => if PyData.eqv kv.1 k then (kv.1, v) else kv else kvs ++ [(k, v)]

def M.seq : M → R (List D)
  | .pu (.list xs) => .ok xs
  | .pu (.tuple xs) => .ok xs
  | .li xs => .ok xs
  | _ => .bad
def M.lst : M → R (List D)
  | .pu (.list xs) => .ok xs
  | .li xs => .ok xs
  | _ => .bad
def M.dic : M → R (List (D × D))
  | .pu (.dict kvs) => .ok kvs
  | .di kvs => .ok kvs
  | _ => .bad

/-- the place of an index -/
def ixOf (n : Nat) (i : Int) : Option Nat :=
  if 0 ≤ i then (if i < n then some i.toNat else none) else if -(n : Int) ≤ i then some (i + n).toNat else none
def atD (xs : List D) (i : Int) : R D := R.ofOpt ((ixOf xs.length i).bind fun j => xs[j]?)
/-- a bound of a slice -/
def slIx (n dflt : Nat) : Option Int → Nat
  | none => dflt
  | some i => if 0 ≤ i then min i.toNat n else (i + n).toNat
def cutD (xs : List D) (lo hi : Option Int) : List D :=
  (xs.drop (slIx xs.length 0 lo)).take (slIx xs.length xs.length hi - slIx xs.length 0 lo)

/-! order: data that are alike -/
def notNon : D → Bool
  | .none => false
  | _ => true
def isTup : D → Bool
  | .tuple _ => true
  | _ => false
def fullTup : D → Bool
  | .tuple (_ :: _) => true
  | _ => false
def cmpAll (xs : List D) : Bool := (xs.all fun x => xs.all fun y => W.alike x y) && xs.all notNon && okD (.tuple xs)
def sortAll (xs : List D) : Bool := cmpAll xs && (xs.all fullTup || xs.all fun x => !isTup x) && decide (xs.length ≤ 16777216)
def sortD (xs : List D) : List D := xs.mergeSort (W.dataLe false id)
def minD (x : D) (xs : List D) : D := W.minD x xs
def maxD (x : D) (xs : List D) : D := W.maxD x xs
def dedupD : List D → List D
  | [] => []
  | x :: xs => if xs.any (fun y => PyData.eqv y x) then dedupD xs else x :: dedupD xs

def sumD : Int → List D → R Int
  | a, [] => .ok a
  | a, .int i :: r => sumD (a + i) r
  | _, _ => .bad
def boolsD : List D → R (List Bool)
  | [] => .ok []
  | .bool b :: r => do
    let bs ← boolsD r
    .ok (b :: bs)
  | _ => .bad

def big : Nat := 16777216
def okBits (i : Int) : Bool := decide (-(2 ^ 64) < i ∧ i < 2 ^ 64)

def binD (o : BOp) (a b : M) : R M :=
  match o, a, b with
  | .add, .pu (.int i), .pu (.int j) => .ok (.pu (.int (i + j)))
  | .sub, .pu (.int i), .pu (.int j) => .ok (.pu (.int (i - j)))
  | .mul, .pu (.int i), .pu (.int j) => if okBits i || okBits j then .ok (.pu (.int (i * j))) else .bad
  | .fdiv, .pu (.int i), .pu (.int j) => if j ≠ 0 ∧ j.natAbs < 1073741824 then .ok (.pu (.int (i.fdiv j))) else .bad
  | .mod, .pu (.int i), .pu (.int j) => if j ≠ 0 then .ok (.pu (.int (i.fmod j))) else .bad
  | .pow, .pu (.int i), .pu (.int j) => if 0 ≤ j ∧ j ≤ 1000000 ∧ i.natAbs < 2 ^ 64 then .ok (.pu (.int (i ^ j.toNat))) else .bad
  | .add, .pu (.tuple xs), .pu (.tuple ys) => if xs.length + ys.length ≤ big then .ok (.pu (.tuple (xs ++ ys))) else .bad
  | .add, .pu (.str x), .pu (.str y) => if x.length + y.length ≤ big then .ok (.pu (.str (x ++ y))) else .bad
  | .mul, .pu (.tuple xs), .pu (.int j) => if -1000 ≤ j ∧ j ≤ 1000 ∧ xs.length ≤ 1000 then .ok (.pu (.tuple (List.replicate j.toNat xs).flatten)) else .bad
  | .add, .li xs, .li ys => if xs.length + ys.length ≤ big then .ok (.li (xs ++ ys)) else .bad
  | .mul, .li xs, .pu (.int j) => if -1000 ≤ j ∧ j ≤ 1000 ∧ xs.length ≤ 1000 then .ok (.li (List.replicate j.toNat xs).flatten) else .bad
  | _, _, _ => .bad

def isC (d : D) : D → Bool
  | .none => match d with | .none => true | _ => false
  | .bool b => match d with | .bool c => b == c | _ => false
  | _ => false

def ordC (a b : M) (f : D → D → Bool) : R Bool := match a, b with
  | .pu x, .pu y => if okD x && okD y && W.alike x y && notNon x then .ok (f x y) else .bad
  | _, _ => .bad
def cmpD (o : COp) (a b : M) : R Bool :=
  match o with
  | .eq => if okD a.toD && okD b.toD then .ok (PyData.eqv a.toD b.toD) else .bad
  | .ne => if okD a.toD && okD b.toD then .ok (!PyData.eqv a.toD b.toD) else .bad
  | .inn => match a, b with
    | .pu d, .pu (.dict kvs) => if keyFit kvs d then .ok (dLook kvs d).isSome else .bad
    | .pu d, .di kvs => if keyFit kvs d then .ok (dLook kvs d).isSome else .bad
    | .pu d, b => do
      let xs ← b.seq
      if okD d && okD (.tuple xs) then .ok (xs.any fun z => PyData.eqv z d) else .bad
    | _, _ => .bad
  | .nin => match a, b with
    | .pu d, .pu (.dict kvs) => if keyFit kvs d then .ok (!(dLook kvs d).isSome) else .bad
    | .pu d, .di kvs => if keyFit kvs d then .ok (!(dLook kvs d).isSome) else .bad
    | .pu d, b => do
      let xs ← b.seq
      if okD d && okD (.tuple xs) then .ok (!(xs.any fun z => PyData.eqv z d)) else .bad
    | _, _ => .bad
  | .lt => ordC a b fun x y => W.dataLt x y
  | .le => ordC a b fun x y => !W.dataLt y x
  | .gt => ordC a b fun x y => W.dataLt y x
  | .ge => ordC a b fun x y => !W.dataLt x y

def intsD : List D → Option (List Int)
  | [] => some []
  | .int i :: r => (intsD r).map (i :: ·)
  | _ => none

def lenD : M → R M
  | .nl xss => .ok (.pu (.int xss.length))
  | .di kvs => .ok (.pu (.int kvs.length))
  | .pu (.str x) => if x.length ≤ big then .ok (.pu (.int x.length)) else .bad
  | .pu (.dict kvs) => .ok (.pu (.int kvs.length))
  | .pu (.tuple xs) => .ok (.pu (.int xs.length))
  | .pu (.list xs) => .ok (.pu (.int xs.length))
  | .li xs => .ok (.pu (.int xs.length))
  | _ => .bad
def bestD (f : D → List D → D) (m : M) : R M := do
  let xs ← m.seq
  match xs with
  | [] => .bad
  | x :: r => if cmpAll (x :: r) then .ok (.pu (f x r)) else .bad
def sumM (m : M) : R M := do
  let xs ← m.lst
  let i ← sumD 0 xs
  .ok (.pu (.int i))
def quaM (f : List Bool → Bool) (m : M) : R M := do
  let xs ← m.lst
  let bs ← boolsD xs
  .ok (.pu (.bool (f bs)))
/-- strictly ascending, each once -/
def insU (k : Int) : List Int → List Int
  | [] => [k]
  | x :: xs => if k < x then k :: x :: xs else if k = x then x :: xs else x :: insU k xs
def sortU (ns : List Int) : List Int := ns.foldr insU []
def sortM (m : M) : R M :=
  match m with
  | .st xs => match intsD xs with
    | some ns => .ok (.li ((sortU ns).map .int))
    | none => .bad
  | m => do
    let xs ← m.lst
    if sortAll xs then .ok (.li (sortD xs)) else .bad
/-- a set of the whole numbers of a tuple -/
def setM (m : M) : R M :=
  match m with
  | .pu (.tuple xs) => match intsD xs with
    | some ns => if ns.length < 64 then .ok (.st xs) else .bad
    | none => .bad
  | _ => .bad
def listM : M → R M
  | .di kvs => .ok (.li (kvs.map (·.1)))
  | .pu (.dict kvs) => .ok (.li (kvs.map (·.1)))
  | m => do
    let xs ← m.seq
    .ok (.li xs)
def tupM (m : M) : R M := do
  let xs ← m.seq
  .ok (.pu (.tuple xs))
def intM : M → R M
  | .pu (.int i) => .ok (.pu (.int i))
  | .pu (.bool c) => .ok (.pu (.int (if c then 1 else 0)))
  | _ => .bad
/-- the built-in type of a value -/
inductive Ty | non | bool | int | str | list | tuple | dict
  deriving DecidableEq
def tyD : M → Ty
  | .pu .none => .non
  | .pu (.bool _) => .bool
  | .pu (.int _) => .int
  | .pu (.str _) => .str
  | .pu (.tuple _) => .tuple
  | .pu (.dict _) => .dict
  | .di _ => .dict
  | _ => .list
def isM (ts : List Ty) (m : M) : R M := .ok (.pu (.bool (ts.contains (tyD m))))
def bi1 (b : Bi) (m : M) : R M :=
  match b with
  | .len => lenD m
  | .abs => match m with
    | .pu (.int i) => .ok (.pu (.int (if i < 0 then -i else i)))
    | _ => .bad
  | .max => bestD maxD m
  | .min => bestD minD m
  | .sum => sumM m
  | .any => quaM (·.any id) m
  | .all => quaM (·.all id) m
  | .sorted => sortM m
  | .list => listM m
  | .tuple => tupM m
  | .int => intM m
  | .bool => match m with
    | .pu (.int i) => .ok (.pu (.bool (i != 0)))
    | _ => .bad
  | .str => match m with
    | .pu (.int i) => if i.natAbs.log2 < 1920 then .ok (.pu (.str (toString i))) else .bad
    | _ => .bad
  | .isint => isM [.int, .bool] m
  | .isbool => isM [.bool] m
  | .istup => isM [.tuple] m
  | .islist => isM [.list] m
  | .isstr => isM [.str] m
  | .istl => isM [.tuple, .list] m
  | .set => setM m
def bi2 (b : Bi) (x y : M) : R M :=
  match b, x, y with
  | .max, .pu (.int i), .pu (.int j) => .ok (.pu (.int (if j > i then j else i)))
  | .min, .pu (.int i), .pu (.int j) => .ok (.pu (.int (if j < i then j else i)))
  | .set, m, .pu .none => do
    let z ← setM m
    sortM z
  | _, _, _ => .bad
def biD (b : Bi) (as : List M) : R M :=
  match as with
  | [m] => bi1 b m
  | [m, n] => bi2 b m n
  | _ => .bad

def idxD (xs : List D) (d : D) : Option Nat := xs.findIdx? fun y => PyData.eqv y d
def idxM (o a : M) : R M := match a with
  | .pu d => do
    let xs ← o.lst
    if SeqAt.shaped d && SeqAt.shaped (.list xs) then (match idxD xs d with
      | some j => .ok (.pu (.int (j : Nat)))
      | none => .bad) else .bad
  | _ => .bad
def cntM (o a : M) : R M := match a with
  | .pu d => do
    let xs ← o.lst
    if okD d && okD (.tuple xs) then .ok (.pu (.int (xs.countP fun z => PyData.eqv z d : Nat))) else .bad
  | _ => .bad
def getM (o a : M) (d : D) : R M := match a with
  | .pu k => do
    let kvs ← o.dic
    if keyFit kvs k then .ok (.pu ((dLook kvs k).getD d)) else .bad
  | _ => .bad
def mtD (m : Mt) (o : M) (as : List M) : R M :=
  match as with
  | [a] => match m with
    | .index => idxM o a
    | .count => cntM o a
    | .get => getM o a .none
    | _ => .bad
  | [a, .pu d] => match m with
    | .get => getM o a d
    | _ => .bad
  | _ => .bad

def subD (o i : M) : R M :=
  match o, i with
  | .di kvs, .pu k => if keyFit kvs k then (do
      let v ← R.ofOpt (dLook kvs k)
      .ok (.pu v)) else .bad
  | .pu (.dict kvs), .pu k => if keyFit kvs k then (do
      let v ← R.ofOpt (dLook kvs k)
      .ok (.pu v)) else .bad
  | .nl xss, .pu (.int i) => (do
      let xs ← R.ofOpt ((ixOf xss.length i).bind fun j => xss[j]?)
      .ok (.li xs))
  | o, .pu (.int i) => (do
      let xs ← o.seq
      let d ← atD xs i
      .ok (.pu d))
  | _, _ => .bad
def slcD (o : M) (lo hi : Option Int) : R M :=
  match o with
  | .pu (.tuple xs) => .ok (.pu (.tuple (cutD xs lo hi)))
  | o => do
    let xs ← o.seq
    .ok (.li (cutD xs lo hi))
def revD (o : M) : R M :=
  match o with
  | .pu (.tuple xs) => .ok (.pu (.tuple xs.reverse))
  | o => do
    let xs ← o.seq
    .ok (.li xs.reverse)

def rngD (a b : Int) : List D := (List.range (b - a).toNat).map fun (i : Nat) => .int (a + (i : Int))
def rgOf : List M → R (Int × Int)
  | [.pu (.int j)] => .ok (0, j)
  | [.pu (.int i), .pu (.int j)] => .ok (i, j)
  | _ => .bad
/-- bounds of a range that is walked; of one that is laid out -/
def rgC (a b : Int) : Bool := decide (-(2 ^ 62) ≤ a ∧ a < 2 ^ 62 ∧ -(2 ^ 62) ≤ b ∧ b < 2 ^ 62)
def rgB (a b : Int) : Bool := rgC a b && decide ((b - a).toNat ≤ 16777216)
def enmD (xs : List D) (n : Nat) : List D := match xs with
  | [] => []
  | x :: r => .tuple [.int (n : Nat), x] :: enmD r (n + 1)
def zipD (xs ys : List D) : List D := xs.zipWith (fun x y => .tuple [x, y]) ys

/-! ### patterns -/
mutual
def bindP : P → D → Env → R Env
  | .v i, d, env => if i < env.length then .ok (env.set i (some (.pu d))) else .bad
  | .t ps, .tuple ds, env => bindPs ps ds env
  | .t _, _, _ => .bad
def bindPs : List P → List D → Env → R Env
  | [], [], env => .ok env
  | p :: ps, d :: ds, env => do
    let e1 ← bindP p d env
    bindPs ps ds e1
  | _, _, _ => .bad
end
mutual
def P.slots : P → List Nat
  | .v i => [i]
  | .t ps => P.slotsL ps
def P.slotsL : List P → List Nat
  | [] => []
  | p :: ps => p.slots ++ P.slotsL ps
end

def wipeE (env : Env) : List Nat → Env
  | [] => env
  | v :: vs => (wipeE env vs).set v none
/-- the slots vs as they are in old -/
def backE (env old : Env) : List Nat → Env
  | [] => env
  | v :: vs => (backE env old vs).set v (old[v]?.getD none)

/-! ### what may change -/
mutual
def muE : E → List Nat
  | .call _ as => muTs as
  | .callW _ y as => y :: muTs as
  | .callT _ as => muTs as
  | .popI y a => y :: muE a
  | .bi _ as => muEs as
  | .mt _ o as => muE o ++ muEs as
  | .bin _ a b => muE a ++ muE b
  | .cmp _ a b => muE a ++ muE b
  | .chn _ _ a b c => muE a ++ muE b ++ muE c
  | .isc _ a _ => muE a
  | .neg a => muE a
  | .not a => muE a
  | .and a b => muE a ++ muE b
  | .or a b => muE a ++ muE b
  | .ite c a b => muE c ++ muT a ++ muT b
  | .tup as => muTs as
  | .lst as => muTs as
  | .star a => muE a
  | .sub a b => muE a ++ muE b
  | .slc a lo hi => muE a ++ muO lo ++ muO hi
  | .rev a => muE a
  | .lc _ vs elt p it cs => muE it ++ ((muT elt ++ muEs cs).filter fun i => !vs.contains i)
  | .lc2 vs _ elt p it p1 it1 cs1 => muE it ++ ((muE it1 ++ muT elt ++ muEs cs1).filter fun i => !vs.contains i)
  | .dc vs k v p it => muE it ++ ((muT k ++ muT v).filter fun i => !vs.contains i)
  | .dct kvs => muTs kvs
  | .rng as => muEs as
  | .rgl _ as => muEs as
  | .enm a => muE a
  | .zip a b => muE a ++ muE b
  | .rvd a => muE a
  | .its a => muE a
  | .vls a => muE a
  | .cst _ | .var _ | .glb _ _ => []
def muT : E → List Nat
  | .var i => [i]
  | e => muE e
def muEs : List E → List Nat
  | [] => []
  | e :: es => muE e ++ muEs es
def muTs : List E → List Nat
  | [] => []
  | e :: es => muT e ++ muTs es
def muO : Option E → List Nat
  | none => []
  | some e => muE e
end

/-! ### the evaluator -/
/-- a value taken for good -/
def takeR (e : E) : M × List Nat × Env → R (D × Env)
  | (.pu d, _, env) => .ok (d, env)
  | (m, [], env) => .ok (m.toD, env)
  | (m, _ :: _, env) => match e with
    | .var i => .ok (m.toD, env.set i (some (.pu m.toD)))
    | _ => .bad
def keepR (e : E) : M × List Nat × Env → R (M × Env)
  | (.pu d, _, env) => .ok (.pu d, env)
  | (m, [], env) => .ok (m, env)
  | (m, _ :: _, env) => match e with
    | .var i => .ok (.pu m.toD, env.set i (some (.pu m.toD)))
    | _ => .bad
/-- a value handed back: a slot's own object goes with it -/
def retR (e : E) : M × List Nat × Env → R (M × Env)
  | (.pu d, _, env) => .ok (.pu d, env)
  | (m, [], env) => .ok (m, env)
  | (m, _ :: _, env) => match e with
    | .var i => .ok (m, env.set i none)
    | _ => .bad
def boolR : M × List Nat × Env → R (Bool × Env)
  | (.pu (.bool b), _, env) => .ok (b, env)
  | _ => .bad
/-- what a walk gives -/
def itR (m : M) : R (List D) := m.seq
def M.isNl : M → Bool
  | .nl _ => true
  | _ => false
def apart (rs mu : List Nat) : Bool := rs.all fun i => !mu.contains i
mutual
def noL : D → Bool
  | .list _ => false
  | .dict _ => false
  | .tuple xs => noLs xs
  | _ => true
def noLs : List D → Bool
  | [] => true
  | x :: xs => noL x && noLs xs
end
def freezeE (env : Env) : List Nat → Env
  | [] => env
  | i :: r => match env[i]? with
    | some (some m) => (freezeE env r).set i (some (.pu m.toD))
    | _ => freezeE env r
/-- the loop of a comprehension: f gives nothing where the test fails -/
def lcLoop (f : D → Env → R (Option D × Env)) : List D → Env → R (List D × Env)
  | [], env => .ok ([], env)
  | x :: xs, env => do
    let (o, e1) ← f x env
    let (ys, e2) ← lcLoop f xs e1
    .ok ((match o with | some y => y :: ys | none => ys), e2)
def lc2Loop (f : D → Env → R (List D × Env)) : List D → Env → R (List D × Env)
  | [], env => .ok ([], env)
  | x :: xs, env => do
    let (o, e1) ← f x env
    let (ys, e2) ← lc2Loop f xs e1
    .ok (o ++ ys, e2)
def nlLoop (f : D → Env → R (List D × Env)) : List D → Env → R (List (List D) × Env)
  | [], env => .ok ([], env)
  | x :: xs, env => do
    let (o, e1) ← f x env
    let (ys, e2) ← nlLoop f xs e1
    .ok (o :: ys, e2)
def dcLoop (f : D → Env → R ((D × D) × Env)) : List D → List (D × D) → Env → R (List (D × D) × Env)
  | [], acc, env => .ok (acc, env)
  | x :: xs, acc, env => do
    let (kv, e1) ← f x env
    if keyFit acc kv.1 then dcLoop f xs (dPut acc kv.1 kv.2) e1 else .bad

def intR : M → R Int
  | .pu (.int i) => .ok i
  | _ => .bad
def fpOf (G : List Fn) (k : Nat) : FP := match G[k]? with
  | some (.pr f) => f
  | _ => fun _ => .bad
def fwOf (G : List Fn) (k : Nat) : FW := match G[k]? with
  | some (.wr f) => f
  | _ => fun _ _ => .bad
def M.isLi : M → Bool
  | .li _ => true
  | _ => false
def isNon : M → Bool
  | .pu .none => true
  | _ => false
def blM : M → R Bool
  | .pu (.bool b) => .ok b
  | _ => .bad
def M.own : M → Bool
  | .li _ | .di _ => true
  | _ => false

/-- the slots vs hold nothing or data -/
def den (env : Env) (vs : List Nat) : Bool := vs.all fun i => match env[i]? with
  | some none => true
  | some (some (.pu _)) => true
  | _ => false
def subs (a b : List Nat) : Bool := a.all fun i => b.contains i
/-- a slot's own list of lists -/
def nlAt (m : M) (it : E) : Option (Nat × List D) := match m, it with
  | .nl xss, .var i => some (i, xss.map .list)
  | _, _ => none
/-- a new list of one's own -/
def ownR : M × List Nat × Env → R (List D × Env)
  | (.li zs, [], e) => .ok (zs, e)
  | _ => .bad
mutual
def ev (G : List Fn) : E → Env → R (M × List Nat × Env)
  | .cst d, env => .ok (.pu d, [], env)
  | .var i, env => do
    let m ← env.get i
    match m with
    | .pu d => .ok (.pu d, [], env)
    | m => .ok (m, [i], env)
  | .glb _ d, env => .ok (.pu d, [], env)
  | .call k as, env => do
    let (ds, e1) ← evTs G as env
    let m ← fpOf G k ds
    .ok (m, [], e1)
  | .callW k y as, env => do
    let _ ← env.get y
    let (ds, e1) ← evTs G as env
    let m0 ← e1.get y
    if m0.own then do
      let (m, m1) ← fwOf G k m0 ds
      if m1.own then .ok (m, [], e1.set y (some m1)) else .bad
    else .bad
  | .callT k as, env => do
    let (ds, e1) ← evTs G as env
    let (m, _) ← fwOf G k (.di []) ds
    .ok (m, [], e1)
  | .popI y a, env => do
    let m00 ← env.get y
    if m00.isLi then do
      let (m, _, e1) ← ev G a env
      let i ← intR m
      let m0 ← e1.get y
      match m0 with
      | .li xs => match ixOf xs.length i with
        | some k => match xs[k]? with
          | some d => .ok (.pu d, [], e1.set y (some (.li (xs.eraseIdx k))))
          | none => .bad
        | none => .bad
      | _ => .bad
    else .bad
  | .bi b as, env => do
    let (ms, _, e1) ← evs G as env
    let m ← biD b ms
    .ok (m, [], e1)
  | .mt k o as, env => do
    let (mo, ro, e1) ← ev G o env
    let (ms, _, e2) ← evs G as e1
    if apart ro (muEs as) then do
      let m ← mtD k mo ms
      .ok (m, [], e2)
    else .bad
  | .bin o a b, env => do
    let (ma, ra, e1) ← ev G a env
    let (mb, _, e2) ← ev G b e1
    if apart ra (muE b) then do
      let m ← binD o ma mb
      .ok (m, [], e2)
    else .bad
  | .cmp o a b, env => do
    let (ma, ra, e1) ← ev G a env
    let (mb, _, e2) ← ev G b e1
    if apart ra (muE b) then do
      let c ← cmpD o ma mb
      .ok (.pu (.bool c), [], e2)
    else .bad
  | .chn o1 o2 a b c, env => do
    let (ma, ra, e1) ← ev G a env
    let (mb, rb, e2) ← ev G b e1
    if apart ra (muE b) && apart rb (muE c) then do
      let k ← cmpD o1 ma mb
      if k then do
        let (mc, _, e3) ← ev G c e2
        let k2 ← cmpD o2 mb mc
        .ok (.pu (.bool k2), [], e3)
      else .ok (.pu (.bool false), [], e2)
    else .bad
  | .isc n a c, env => do
    let (m, _, e1) ← ev G a env
    match c with
    | .none => .ok (.pu (.bool (isNon m != n)), [], e1)
    | .bool b => do
      let x ← blM m
      .ok (.pu (.bool ((x == b) != n)), [], e1)
    | _ => .bad
  | .neg a, env => do
    let (m, _, e1) ← ev G a env
    let i ← intR m
    .ok (.pu (.int (-i)), [], e1)
  | .not a, env => do
    let r ← ev G a env
    let (b, e1) ← boolR r
    .ok (.pu (.bool (!b)), [], e1)
  | .and a b, env => do
    let r ← ev G a env
    let (c, e1) ← boolR r
    if c then do
      let r2 ← ev G b e1
      let (c2, e2) ← boolR r2
      .ok (.pu (.bool c2), [], e2)
    else .ok (.pu (.bool false), [], e1)
  | .or a b, env => do
    let r ← ev G a env
    let (c, e1) ← boolR r
    if c then .ok (.pu (.bool true), [], e1) else do
      let r2 ← ev G b e1
      let (c2, e2) ← boolR r2
      .ok (.pu (.bool c2), [], e2)
  | .ite c a b, env => do
    let r ← ev G c env
    let (k, e1) ← boolR r
    if k then do
      let r2 ← ev G a e1
      let (d, e2) ← takeR a r2
      .ok (.pu d, [], e2)
    else do
      let r2 ← ev G b e1
      let (d, e2) ← takeR b r2
      .ok (.pu d, [], e2)
  | .tup as, env => do
    let (ds, e1) ← evTs G as env
    if ds.length ≤ big then .ok (.pu (.tuple ds), [], e1) else .bad
  | .lst as, env => do
    let (ds, e1) ← evTs G as env
    if ds.length ≤ big then .ok (.li ds, [], e1) else .bad
  | .star _, _ => .bad
  | .sub a b, env => do
    let (ma, ra, e1) ← ev G a env
    let (mb, _, e2) ← ev G b e1
    if apart ra (muE b) then do
      let m ← subD ma mb
      .ok (m, (if ma.isNl then ra else []), e2)
    else .bad
  | .slc a lo hi, env => do
    let (ma, ra, e1) ← ev G a env
    let (l, e2) ← evO G lo e1
    let (h, e3) ← evO G hi e2
    if apart ra (muO lo ++ muO hi) then do
      let m ← slcD ma l h
      .ok (m, [], e3)
    else .bad
  | .rev a, env => do
    let (ma, _, e1) ← ev G a env
    let m ← revD ma
    .ok (m, [], e1)
  | .lc own vs elt p it cs, env => do
    let (m, rs, e1) ← ev G it env
    if den e1 vs && subs p.slots vs then
      if own then do
        let xs ← itR m
        if apart rs (muE elt ++ vs) then do
          let (ys, e2) ← nlLoop (fun x en => do
            let e2 ← bindP p x (wipeE en vs)
            let r ← ev G elt e2
            ownR r) xs e1
          if cs.isEmpty && decide (ys.length ≤ big) then .ok (.nl ys, [], backE e2 e1 vs) else .bad
        else .bad
      else match nlAt m it with
        | some (i, xs) =>
          if (muT elt ++ muEs cs).isEmpty && !vs.contains i then do
            let (ys, _) ← lcLoop (fun x en => do
              let e2 ← bindP p x (wipeE en vs)
              let (b, e3) ← evCs G cs e2
              if b then do
                let r ← ev G elt e3
                let (d, e4) ← takeR elt r
                .ok (some d, e4)
              else .ok (none, e3)) xs (e1.set i (some (.pu (.list xs))))
            if noLs ys && decide (ys.length ≤ big) then .ok (.li ys, [], e1) else .bad
          else .bad
        | none => do
          let xs ← itR m
          if apart rs (muT elt ++ muEs cs ++ vs) then do
            let (ys, e2) ← lcLoop (fun x en => do
              let e2 ← bindP p x (wipeE en vs)
              let (b, e3) ← evCs G cs e2
              if b then do
                let r ← ev G elt e3
                let (d, e4) ← takeR elt r
                .ok (some d, e4)
              else .ok (none, e3)) xs e1
            if ys.length ≤ big then .ok (.li ys, [], backE e2 e1 vs) else .bad
          else .bad
    else .bad
  | .lc2 vs vs1 elt p it p1 it1 cs1, env => do
    let (m, rs, e1) ← ev G it env
    let xs ← itR m
    if den e1 vs && subs p.slots vs && subs vs1 vs && subs p1.slots vs1 && apart rs (muE it1 ++ muT elt ++ muEs cs1 ++ vs) then do
      let (ys, e2) ← lc2Loop (fun x en => do
        let e2 ← bindP p x (wipeE en vs)
        let (m1, rs1, e3) ← ev G it1 e2
        let xs1 ← itR m1
        if den e3 vs1 && apart rs1 (muT elt ++ muEs cs1 ++ vs1) then
          lcLoop (fun x1 en1 => do
            let e4 ← bindP p1 x1 (wipeE en1 vs1)
            let (b, e5) ← evCs G cs1 e4
            if b then do
              let r ← ev G elt e5
              let (d, e6) ← takeR elt r
              .ok (some d, e6)
            else .ok (none, e5)) xs1 e3
        else .bad) xs e1
      if ys.length ≤ big then .ok (.li ys, [], backE e2 e1 vs) else .bad
    else .bad
  | .dc vs k v p it, env => do
    let (m, rs, e1) ← ev G it env
    let xs ← itR m
    if apart rs (muT k ++ muT v ++ vs) then do
      let (kvs, e2) ← dcLoop (fun x en => do
        let e2 ← bindP p x (wipeE en vs)
        let r ← ev G k e2
        let (dk, e3) ← takeR k r
        let r2 ← ev G v e3
        let (dv, e4) ← takeR v r2
        .ok ((dk, dv), e4)) xs [] e1
      if kvs.length ≤ big then .ok (.di kvs, [], backE e2 e1 vs) else .bad
    else .bad
  | .dct es, env => do
    let (kvs, e1) ← evKs G es [] env
    .ok (.di kvs, [], e1)
  | .rng as, env => do
    let (ms, _, e1) ← evs G as env
    let (a, b) ← rgOf ms
    if rgC a b then .ok (.li (rngD a b), [], e1) else .bad
  | .rgl t as, env => do
    let (ms, _, e1) ← evs G as env
    let (a, b) ← rgOf ms
    if rgB a b then .ok ((if t then .pu (.tuple (rngD a b)) else .li (rngD a b)), [], e1) else .bad
  | .enm a, env => do
    let (m, rs, e1) ← ev G a env
    let xs ← m.seq
    .ok (.li (enmD xs 0), rs, e1)
  | .zip a b, env => do
    let (ma, ra, e1) ← ev G a env
    let (mb, rb, e2) ← ev G b e1
    let xs ← ma.seq
    let ys ← mb.seq
    if apart ra (muE b) then .ok (.li (zipD xs ys), ra ++ rb, e2) else .bad
  | .rvd a, env => do
    let (m, rs, e1) ← ev G a env
    let xs ← m.seq
    .ok (.li xs.reverse, rs, e1)
  | .its a, env => do
    let (m, rs, e1) ← ev G a env
    let kvs ← m.dic
    .ok (.li (kvs.map fun kv => .tuple [kv.1, kv.2]), rs, e1)
  | .vls a, env => do
    let (m, rs, e1) ← ev G a env
    let kvs ← m.dic
    .ok (.li (kvs.map (·.2)), rs, e1)
def evs (G : List Fn) : List E → Env → R (List M × List Nat × Env)
  | [], env => .ok ([], [], env)
  | e :: es, env => do
    let (m, rs, e1) ← ev G e env
    let (ms, rs2, e2) ← evs G es e1
    if apart rs (muEs es) then .ok (m :: ms, rs ++ rs2, e2) else .bad
def evTs (G : List Fn) : List E → Env → R (List D × Env)
  | [], env => .ok ([], env)
  | .star a :: es, env => do
    let (m, _, e1) ← ev G a env
    let xs ← m.seq
    let (ds, e2) ← evTs G es e1
    .ok (xs ++ ds, e2)
  | e :: es, env => do
    let r ← ev G e env
    let (d, e1) ← takeR e r
    let (ds, e2) ← evTs G es e1
    .ok (d :: ds, e2)
def evKs (G : List Fn) : List E → List (D × D) → Env → R (List (D × D) × Env)
  | k :: v :: r, acc, env => do
    let rk ← ev G k env
    let (dk, e1) ← takeR k rk
    let rv ← ev G v e1
    let (dv, e2) ← takeR v rv
    if keyFit acc dk then evKs G r (dPut acc dk dv) e2 else .bad
  | [_], _, _ => .bad
  | [], acc, env => .ok (acc, env)
def evO (G : List Fn) : Option E → Env → R (Option Int × Env)
  | none, env => .ok (none, env)
  | some e, env => do
    let (m, _, e1) ← ev G e env
    let i ← intR m
    .ok (some i, e1)
def evCs (G : List Fn) : List E → Env → R (Bool × Env)
  | [], env => .ok (true, env)
  | c :: cs, env => do
    let r ← ev G c env
    let (b, e1) ← boolR r
    if b then evCs G cs e1 else .ok (false, e1)
end
end TR

set_option Elab.async false
set_option linter.all false
namespace TR
open PySem

inductive Out where
  | nx (env : Env)
  | ret (m : M) (env : Env)
  | br (env : Env)

/-! content or binding may change -/
mutual
def muS : S → List Nat
  | .asg p e => p.slots ++ muT e
  | .par ps es => ps ++ muTs es
  | .setI y i e => y :: (muT e ++ muE i)
  | .setII y i j e => y :: (muT e ++ muE i ++ muE j)
  | .augN y _ e => y :: muE e
  | .augI y i _ e => y :: (muE i ++ muE e)
  | .augII y i j _ e => y :: (muE i ++ muE j ++ muE e)
  | .app y e => y :: muT e
  | .appI y i e => y :: (muE i ++ muT e)
  | .ext y e => y :: muE e
  | .upd y e => y :: muE e
  | .set2 y i1 i2 e1 e2 => y :: (muT e1 ++ muT e2 ++ muE i1 ++ muE i2)
  | .setN y i x e1 e2 => y :: x :: (muT e1 ++ muT e2 ++ muE i)
  | .ret e => muT e
  | .retN => []
  | .ifs c a b => muE c ++ muSs a ++ muSs b
  | .for_ p it body => p.slots ++ muE it ++ muSs body
  | .whl _ c body => muE c ++ muSs body
  | .brk => []
  | .pass => []
  | .do_ e => muE e
def muSs : List S → List Nat
  | [] => []
  | s :: r => muS s ++ muSs r
end
/-! names that may be bound anew -/
mutual
def asS : S → List Nat
  | .asg p _ => p.slots
  | .par ps _ => ps
  | .augN y _ _ => [y]
  | .setN _ _ x _ _ => [x]
  | .ifs _ a b => asSs a ++ asSs b
  | .for_ p _ body => p.slots ++ asSs body
  | .whl _ _ body => asSs body
  | .setI .. | .setII .. | .augI .. | .augII .. | .app .. | .appI .. | .ext .. | .upd .. | .set2 .. | .ret _ | .retN | .brk | .pass | .do_ _ => []
def asSs : List S → List Nat
  | [] => []
  | s :: r => asS s ++ asSs r
end

def setAll : Env → List Nat → List M → R Env
  | env, [], [] => .ok env
  | env, i :: is, m :: ms => if i < env.length then setAll (env.set i (some m)) is ms else .bad
  | _, _, _ => .bad
def keepAll (G : List Fn) : List E → Env → R (List M × Env)
  | [], env => .ok ([], env)
  | e :: es, env => do
    let r ← ev G e env
    let (m, e1) ← keepR e r
    let (ms, e2) ← keepAll G es e1
    .ok (m :: ms, e2)

/-- y[i] = d -/
def putI (m i : M) (d : D) : R M :=
  match m, i with
  | .li xs, .pu (.int k) => match ixOf xs.length k with
    | some j => .ok (.li (xs.set j d))
    | none => .bad
  | .di kvs, .pu k => if keyFit kvs k && decide (kvs.length < big) then .ok (.di (dPut kvs k d)) else .bad
  | _, _ => .bad
def putII (m i j : M) (d : D) : R M :=
  match m, i, j with
  | .nl xss, .pu (.int k), .pu (.int l) => match ixOf xss.length k with
    | some a => match xss[a]? with
      | some xs => match ixOf xs.length l with
        | some b => .ok (.nl (xss.set a (xs.set b d)))
        | none => .bad
      | none => .bad
    | none => .bad
  | _, _, _ => .bad
def appM (m : M) (d : D) : R M :=
  match m with
  | .li xs => if xs.length < big then .ok (.li (xs ++ [d])) else .bad
  | _ => .bad
def appII (m i : M) (d : D) : R M :=
  match m, i with
  | .nl xss, .pu (.int k) => match ixOf xss.length k with
    | some a => match xss[a]? with
      | some xs => if xs.length < big then .ok (.nl (xss.set a (xs ++ [d]))) else .bad
      | none => .bad
    | none => .bad
  | _, _ => .bad
def extM (m n : M) : R M :=
  match m with
  | .li xs => do
    let ys ← n.seq
    if xs.length + ys.length ≤ big then .ok (.li (xs ++ ys)) else .bad
  | _ => .bad
def updM (m n : M) : R M :=
  match m, n with
  | .di kvs, .di more => if kvs.length + more.length ≤ big then .ok (.di (more.foldl (fun a kv => dPut a kv.1 kv.2) kvs)) else .bad
  | _, _ => .bad
def atI2 (m i j : M) : R D :=
  match m, i with
  | .nl xss, .pu (.int k) => match ixOf xss.length k with
    | some a => match xss[a]? with
      | some xs => match j with
        | .pu (.int l) => atD xs l
        | _ => .bad
      | none => .bad
    | none => .bad
  | _, _ => .bad
def pureR : M → R D
  | .pu d => .ok d
  | _ => .bad

def whLoop (c : Env → R (Bool × Env)) (body : Env → R Out) : Nat → Env → R Out
  | 0, _ => .bad
  | n + 1, env => do
    let (b, e1) ← c env
    if b then do
      let o ← body e1
      match o with
      | .nx e2 => whLoop c body n e2
      | .br e2 => .ok (.nx e2)
      | .ret m e2 => .ok (.ret m e2)
    else .ok (.nx e1)
def foLoop (f : D → Env → R Out) : List D → Env → R Out
  | [], env => .ok (.nx env)
  | x :: xs, env => do
    let o ← f x env
    match o with
    | .nx e2 => foLoop f xs e2
    | .br e2 => .ok (.nx e2)
    | .ret m e2 => .ok (.ret m e2)

mutual
def ex (G : List Fn) : S → Env → R Out
  | .asg p e, env => do
    let r ← ev G e env
    match p with
    | .v i => do
      let (m, e1) ← keepR e r
      if i < e1.length then .ok (.nx (e1.set i (some m))) else .bad
    | p => do
      let (d, e1) ← takeR e r
      let e2 ← bindP p d e1
      .ok (.nx e2)
  | .par is es, env => do
    let (ms, e1) ← keepAll G es env
    let e2 ← setAll e1 is ms
    .ok (.nx e2)
  | .setI y i e, env => do
    let _ ← env.get y
    let r ← ev G e env
    let (d, e1) ← takeR e r
    let (mi, _, e2) ← ev G i e1
    let m ← e2.get y
    let m2 ← putI m mi d
    .ok (.nx (e2.set y (some m2)))
  | .setII y i j e, env => do
    let r ← ev G e env
    let (d, e1) ← takeR e r
    let (mi, _, e2) ← ev G i e1
    let (mj, _, e3) ← ev G j e2
    let m ← e3.get y
    let m2 ← putII m mi mj d
    if (muE j).contains y then .bad else .ok (.nx (e3.set y (some m2)))
  | .augN y o e, env => do
    let x ← env.get y
    let (m, _, e1) ← ev G e env
    match x, m with
    | .pu (.int i), .pu (.int j) => do
      let z ← binD o (.pu (.int i)) (.pu (.int j))
      .ok (.nx (e1.set y (some z)))
    | _, _ => .bad
  | .augI y i o e, env => do
    let (mi, _, e1) ← ev G i env
    let m ← e1.get y
    let x ← subD m mi
    let (mv, _, e2) ← ev G e e1
    let m' ← e2.get y
    match x, mv with
    | .pu (.int a), .pu (.int b) => do
      let z ← binD o (.pu (.int a)) (.pu (.int b))
      let d ← pureR z
      let m2 ← putI m' mi d
      .ok (.nx (e2.set y (some m2)))
    | _, _ => .bad
  | .augII y i j o e, env => do
    let (mi, _, e1) ← ev G i env
    let (mj, _, e2) ← ev G j e1
    let m ← e2.get y
    let x ← atI2 m mi mj
    let (mv, _, e3) ← ev G e e2
    let m' ← e3.get y
    match x, mv with
    | .int a, .pu (.int b) => do
      let z ← binD o (.pu (.int a)) (.pu (.int b))
      let d ← pureR z
      let m2 ← putII m' mi mj d
      if (muE j ++ muE e).contains y then .bad else .ok (.nx (e3.set y (some m2)))
    | _, _ => .bad
  | .app y e, env => do
    let m00 ← env.get y
    if m00.isLi then do
      let r ← ev G e env
      let (d, e1) ← takeR e r
      let m ← e1.get y
      let m2 ← appM m d
      .ok (.nx (e1.set y (some m2)))
    else .bad
  | .appI y i e, env => do
    let _ ← env.get y
    let (mi, _, e1) ← ev G i env
    let m ← e1.get y
    let r ← ev G e e1
    let (d, e2) ← takeR e r
    let m2 ← appII m mi d
    if (muT e).contains y then .bad else .ok (.nx (e2.set y (some m2)))
  | .ext y e, env => do
    let (me, _, e1) ← ev G e env
    let m ← e1.get y
    let m2 ← extM m me
    .ok (.nx (e1.set y (some m2)))
  | .upd y e, env => do
    let (me, _, e1) ← ev G e env
    let m ← e1.get y
    let m2 ← updM m me
    .ok (.nx (e1.set y (some m2)))
  | .set2 y i1 i2 a b, env => do
    let ra ← ev G a env
    let (da, e1) ← takeR a ra
    let rb ← ev G b e1
    let (db, e2) ← takeR b rb
    let (m1, _, e3) ← ev G i1 e2
    let m ← e3.get y
    let m' ← putI m m1 da
    let (m2, _, e4) ← ev G i2 (e3.set y (some m'))
    let m'' ← e4.get y
    let m3 ← putI m'' m2 db
    .ok (.nx (e4.set y (some m3)))
  | .setN y i x a b, env => do
    let ra ← ev G a env
    let (da, e1) ← takeR a ra
    let rb ← ev G b e1
    let (db, e2) ← takeR b rb
    let (m1, _, e3) ← ev G i e2
    let m ← e3.get y
    let m' ← putI m m1 da
    if x < e3.length then .ok (.nx ((e3.set y (some m')).set x (some (.pu db)))) else .bad
  | .ret e, env => do
    let r ← ev G e env
    let (m, e1) ← retR e r
    .ok (.ret m e1)
  | .retN, env => .ok (.ret (.pu .none) env)
  | .ifs c a b, env => do
    let r ← ev G c env
    let (k, e1) ← boolR r
    if k then exs G a e1 else exs G b e1
  | .for_ p it body, env => do
    let (m, rs, e1) ← ev G it env
    let xs ← itR m
    if apart rs (muSs body ++ p.slots) then
      foLoop (fun x en => do
        let e2 ← bindP p x en
        exs G body e2) xs e1
    else .bad
  | .whl n c body, env => whLoop (fun en => do
      let r ← ev G c en
      boolR r) (fun en => exs G body en) n env
  | .brk, env => .ok (.br env)
  | .pass, env => .ok (.nx env)
  | .do_ e, env => do
    let (_, _, e1) ← ev G e env
    .ok (.nx e1)
def exs (G : List Fn) : List S → Env → R Out
  | [], env => .ok (.nx env)
  | s :: r, env => do
    let o ← ex G s env
    match o with
    | .nx e1 => exs G r e1
    | o => .ok o
end

/-- a def of data -/
def runP (G : List Fn) (n : Nat) (body : List S) : FP := fun ds => do
  let o ← exs G body (ds.map (fun d => some (.pu d)) ++ List.replicate (n - ds.length) none)
  match o with
  | .ret m _ => .ok m
  | .nx _ => .ok (.pu .none)
  | .br _ => .bad
/-- a def that writes its parameter w -/
def runW (G : List Fn) (w n : Nat) (body : List S) : FW := fun m ds => do
  let o ← exs G body ((ds.take w).map (fun d => some (.pu d)) ++ some m :: (ds.drop w).map (fun d => some (.pu d)) ++ List.replicate (n - ds.length - 1) none)
  match o with
  | .ret r e => do
    let m1 ← e.get w
    .ok (r, m1)
  | .nx e => do
    let m1 ← e.get w
    .ok (.pu .none, m1)
  | .br _ => .bad
end TR

set_option Elab.async false
set_option linter.all false
/-! how values lie in the abstract heap -/
namespace TR
open PySem L2

abbrev Zn := Addr → Prop
/-- the world of a walk -/
structure Wd where
  K : PySem.W.Frag
  P : Program
  w : World
abbrev wd (X : Cx) : Wd := ⟨X.K, X.prog, X.w⟩

def keyD : Key → D
  | .inl i => .int i
  | .inr x => .str x
/-- a list of the written part -/
def KLst (K : PySem.W.Frag) (a : Addr) (xs : List V) : Prop := ∃ (o : Obj) (its : Array Value) (n : Nat), K.lookup a = some o ∧ o.cls = .type "list" ∧ o.dict = none ∧ o.data = .seq its n ∧ its.size ≤ sizeLine ∧ Vals xs its.toList
section
variable (B : Wd)
mutual
/-- data that is never written again: its lists and dicts lie in Z -/
inductive Rp (Z : Zn) (H : Hp) : V → D → Prop
  | non : Rp Z H .non .none
  | bl (b : Bool) : Rp Z H (.bl b) (.bool b)
  | int (i : Int) : Rp Z H (.int i) (.int i)
  | str (x : Str) : Rp Z H (.str x) (.str x)
  | tup {a : Addr} {xs : List V} {ds : List D} : SqT B.K H a xs → RpL Z H xs ds → Rp Z H (.ref a) (.tuple ds)
  | lst {a : Addr} {xs : List V} {ds : List D} : Z a → Rd H a (.lst xs) → RpL Z H xs ds → Rp Z H (.ref a) (.list ds)
  | lsK {a : Addr} {xs : List V} {ds : List D} : KLst B.K a xs → RpL Z H xs ds → Rp Z H (.ref a) (.list ds)
  | dK {a : Addr} {ks : List (Key × V)} {kvs : List (D × D)} : Z a → H a = some (.dK ks) → RKV Z H ks kvs → Rp Z H (.ref a) (.dict kvs)
inductive RpL (Z : Zn) (H : Hp) : List V → List D → Prop
  | nil : RpL Z H [] []
  | cons {v : V} {vs : List V} {d : D} {ds : List D} : Rp Z H v d → RpL Z H vs ds → RpL Z H (v :: vs) (d :: ds)
/-- a dict's pairs: keys ints and texts -/
inductive RKV (Z : Zn) (H : Hp) : List (Key × V) → List (D × D) → Prop
  | nil : RKV Z H [] []
  | cons {k : Key} {v : V} {d : D} {ks : List (Key × V)} {ds : List (D × D)} : Rp Z H v d → RKV Z H ks ds → RKV Z H ((k, v) :: ks) ((keyD k, d) :: ds)
end
end

/-- lists of lists of one's own -/
inductive RN (B : Wd) (Z : Zn) (H : Hp) : List V → List (List D) → List Addr → Prop
  | nil : RN B Z H [] [] []
  | cons {a : Addr} {xs : List V} {ds : List D} {vs : List V} {dss : List (List D)} {O : List Addr} : H a = some (.lst xs) → RpL B Z H xs ds → RN B Z H vs dss O → RN B Z H (.ref a :: vs) (ds :: dss) (a :: O)

/-- a slot's value; O: the addresses that are one's own -/
inductive RM (B : Wd) (Z : Zn) (H : Hp) : V → M → List Addr → Prop
  | pu {v : V} {d : D} : Rp B Z H v d → RM B Z H v (.pu d) []
  | li {a : Addr} {xs : List V} {ds : List D} : H a = some (.lst xs) → RpL B Z H xs ds → RM B Z H (.ref a) (.li ds) [a]
  | nl {a : Addr} {xs : List V} {dss : List (List D)} {O : List Addr} : H a = some (.lst xs) → RN B Z H xs dss O → RM B Z H (.ref a) (.nl dss) (a :: O)
  | dK {a : Addr} {ks : List (Key × V)} {kvs : List (D × D)} : H a = some (.dK ks) → RKV B Z H ks kvs → RM B Z H (.ref a) (.di kvs) [a]

section
variable {B : Wd} {K : PySem.W.Frag} {Z Z' : Zn} {H H' : Hp}
theorem SqL.keep {a : Addr} {xs : List V} (h : SqL K H a xs) (k : ∀ o, H a = some o → H' a = some o) : SqL K H' a xs := by
  rcases h with (h | ⟨o, h⟩) | h
  · exact .inl (.inl (k _ h))
  · exact .inl (.inr ⟨o, k _ h⟩)
  · exact .inr h
theorem RdL.keep {a : Addr} {xs : List V} (h : Rd H a (.lst xs)) (k : ∀ o, H a = some o → H' a = some o) : Rd H' a (.lst xs) := by
  rcases h with h | ⟨o, h⟩
  · exact .inl (k _ h)
  · exact .inr ⟨o, k _ h⟩
theorem SqT.keep {a : Addr} {xs : List V} (h : SqT K H a xs) (k : ∀ ys, H a = some (.tup ys) → H' a = some (.tup ys)) (k2 : ∀ o u, H a = some (.frz o u) → H' a = some (.frz o u)) : SqT K H' a xs := by
  rcases h with (h | ⟨o, h⟩) | h
  · exact .inl (.inl (k _ h))
  · exact .inl (.inr ⟨o, k2 _ _ h⟩)
  · exact .inr h

/-- what must stand so that data stands -/
structure Stay (Z : Zn) (H H' : Hp) : Prop where
  z : ∀ a o, Z a → H a = some o → H' a = some o
  t : ∀ a ys, H a = some (.tup ys) → H' a = some (.tup ys)
  f : ∀ a o u, H a = some (.frz o u) → H' a = some (.frz o u)
theorem Stay.refl : Stay Z H H := ⟨fun _ _ _ h => h, fun _ _ h => h, fun _ _ _ h => h⟩
mutual
theorem Rp.stay (s : Stay Z H H') (hz : ∀ a, Z a → Z' a) : ∀ {v : V} {d : D}, Rp B Z H v d → Rp B Z' H' v d
  | _, _, .non => .non
  | _, _, .bl b => .bl b
  | _, _, .int i => .int i
  | _, _, .str x => .str x
  | _, _, .tup h r => .tup (SqT.keep h (s.t _) (s.f _)) (RpL.stay s hz r)
  | _, _, .lst z h r => .lst (hz _ z) (RdL.keep h fun o e => s.z _ o z e) (RpL.stay s hz r)
  | _, _, .lsK h r => .lsK h (RpL.stay s hz r)
  | _, _, .dK z h r => .dK (hz _ z) (s.z _ _ z h) (RKV.stay s hz r)
theorem RpL.stay (s : Stay Z H H') (hz : ∀ a, Z a → Z' a) : ∀ {vs : List V} {ds : List D}, RpL B Z H vs ds → RpL B Z' H' vs ds
  | _, _, .nil => .nil
  | _, _, .cons h r => .cons (Rp.stay s hz h) (RpL.stay s hz r)
theorem RKV.stay (s : Stay Z H H') (hz : ∀ a, Z a → Z' a) : ∀ {ks : List (Key × V)} {kvs : List (D × D)}, RKV B Z H ks kvs → RKV B Z' H' ks kvs
  | _, _, .nil => .nil
  | _, _, .cons h r => .cons (Rp.stay s hz h) (RKV.stay s hz r)
end
theorem RN.stay (s : Stay Z H H') (hz : ∀ a, Z a → Z' a) : ∀ {vs : List V} {dss : List (List D)} {O : List Addr}, RN B Z H vs dss O → (∀ a o, a ∈ O → H a = some o → H' a = some o) → RN B Z' H' vs dss O
  | _, _, _, .nil, _ => .nil
  | _, _, _, .cons h r t, ho => .cons (ho _ _ List.mem_cons_self h) (r.stay s hz) (RN.stay s hz t fun a o hm => ho a o (List.mem_cons_of_mem _ hm))
theorem RM.stay (s : Stay Z H H') (hz : ∀ a, Z a → Z' a) {v : V} {m : M} {O : List Addr} (h : RM B Z H v m O) (ho : ∀ a o, a ∈ O → H a = some o → H' a = some o) : RM B Z' H' v m O := by
  cases h with
  | pu h => exact .pu (h.stay s hz)
  | li h r => exact .li (ho _ _ List.mem_cons_self h) (r.stay s hz)
  | nl h r => exact .nl (ho _ _ List.mem_cons_self h) (r.stay s hz fun a o hm => ho a o (List.mem_cons_of_mem _ hm))
  | dK h r => exact .dK (ho _ _ List.mem_cons_self h) (r.stay s hz)
theorem RpL.length {vs : List V} {ds : List D} (h : RpL B Z H vs ds) : vs.length = ds.length := by
  induction ds generalizing vs with
  | nil => cases h; rfl
  | cons d ds ih => cases h with | cons _ r => simp [ih r]
theorem RpL.get {vs : List V} {ds : List D} (h : RpL B Z H vs ds) : ∀ {i : Nat} {d : D}, ds[i]? = some d → ∃ v, vs[i]? = some v ∧ Rp B Z H v d := by
  induction ds generalizing vs with
  | nil => intro i d e; simp at e
  | cons x ds ih =>
    cases h with
    | cons h r =>
      intro i d e
      cases i with
      | zero => simp at e; subst e; exact ⟨_, rfl, h⟩
      | succ i => simpa using ih r (by simpa using e)
theorem RpL.get' {vs : List V} {ds : List D} (h : RpL B Z H vs ds) {i : Nat} {v : V} (e : vs[i]? = some v) : ∃ d, ds[i]? = some d ∧ Rp B Z H v d := by
  have hl := h.length
  have hi : i < ds.length := by rw [← hl]; exact (List.getElem?_eq_some_iff.mp e).1
  obtain ⟨w, hw, r⟩ := h.get (List.getElem?_eq_getElem hi)
  rw [e] at hw; cases hw
  exact ⟨_, List.getElem?_eq_getElem hi, r⟩
theorem RpL.append {vs ws : List V} {ds es : List D} (h : RpL B Z H vs ds) (g : RpL B Z H ws es) : RpL B Z H (vs ++ ws) (ds ++ es) := by
  induction ds generalizing vs with
  | nil => cases h; exact g
  | cons d ds ih => cases h with | cons h r => exact .cons h (ih r)
theorem RpL.drop {vs : List V} {ds : List D} (h : RpL B Z H vs ds) : ∀ n, RpL B Z H (vs.drop n) (ds.drop n) := by
  induction ds generalizing vs with
  | nil => cases h; intro n; simpa using RpL.nil
  | cons d ds ih => cases h with | cons h r => intro n; cases n with
    | zero => exact .cons h r
    | succ n => exact ih r n
theorem RpL.take {vs : List V} {ds : List D} (h : RpL B Z H vs ds) : ∀ n, RpL B Z H (vs.take n) (ds.take n) := by
  induction ds generalizing vs with
  | nil => cases h; intro n; simpa using RpL.nil
  | cons d ds ih => cases h with | cons h r => intro n; cases n with
    | zero => exact .nil
    | succ n => exact .cons h (ih r n)
theorem RpL.set {vs : List V} {ds : List D} (h : RpL B Z H vs ds) {v : V} {d : D} (hv : Rp B Z H v d) : ∀ n, RpL B Z H (vs.set n v) (ds.set n d) := by
  induction ds generalizing vs with
  | nil => cases h; intro n; simpa using RpL.nil
  | cons x ds ih => cases h with | cons h r => intro n; cases n with
    | zero => exact .cons hv r
    | succ n => exact .cons h (ih r n)
theorem RpL.reverse {vs : List V} {ds : List D} (h : RpL B Z H vs ds) : RpL B Z H vs.reverse ds.reverse := by
  induction ds generalizing vs with
  | nil => cases h; exact .nil
  | cons d ds ih => cases h with | cons h r => rw [List.reverse_cons, List.reverse_cons]; exact (ih r).append (.cons h .nil)
theorem RpL.eraseIdx {vs : List V} {ds : List D} (h : RpL B Z H vs ds) : ∀ n, RpL B Z H (vs.eraseIdx n) (ds.eraseIdx n) := by
  induction ds generalizing vs with
  | nil => cases h; intro n; simpa using RpL.nil
  | cons x ds ih => cases h with | cons h r => intro n; cases n with
    | zero => exact r
    | succ n => exact .cons h (ih r n)
theorem RpL.replicate {vs : List V} {ds : List D} (h : RpL B Z H vs ds) : ∀ n, RpL B Z H (List.replicate n vs).flatten (List.replicate n ds).flatten
  | 0 => .nil
  | n + 1 => by rw [List.replicate_succ, List.replicate_succ, List.flatten_cons, List.flatten_cons]; exact h.append (RpL.replicate h n)
theorem RpL.mem {vs : List V} {ds : List D} (h : RpL B Z H vs ds) {v : V} (hv : v ∈ vs) : ∃ d, d ∈ ds ∧ Rp B Z H v d := by
  obtain ⟨i, hi, e⟩ := List.getElem_of_mem hv
  obtain ⟨d, h1, h2⟩ := h.get' (i := i) (v := v) (by rw [List.getElem?_eq_getElem hi, e])
  exact ⟨d, List.mem_of_getElem? h1, h2⟩
/-- what is one's own stands -/
theorem RN.there : ∀ {vs : List V} {dss : List (List D)} {O : List Addr}, RN B Z H vs dss O → ∀ a ∈ O, ∃ o, H a = some o
  | _, _, _, .nil, a, h => by cases h
  | _, _, _, .cons h _ t, a, hm => by
    rcases List.mem_cons.mp hm with e | hm
    · subst e; exact ⟨_, h⟩
    · exact RN.there t a hm
theorem RM.there {v : V} {m : M} {O : List Addr} (h : RM B Z H v m O) : ∀ a ∈ O, ∃ o, H a = some o := by
  intro a ha
  cases h with
  | pu h => cases ha
  | li h r => simp at ha; subst ha; exact ⟨_, h⟩
  | nl h r =>
    rcases List.mem_cons.mp ha with e | ha
    · subst e; exact ⟨_, h⟩
    · exact r.there a ha
  | dK h r => simp at ha; subst ha; exact ⟨_, h⟩
theorem RN.view : ∀ {vs : List V} {dss : List (List D)} {O : List Addr}, RN B Z H vs dss O → (∀ a, Z a → Z' a) → (∀ a ∈ O, Z' a) → RpL B Z' H vs (dss.map .list)
  | _, _, _, .nil, _, _ => .nil
  | _, _, _, .cons h r t, hz, ho => .cons (.lst (ho _ List.mem_cons_self) (.of h) (r.stay .refl hz)) (RN.view t hz fun a hm => ho a (List.mem_cons_of_mem _ hm))
/-- one's own, as data, where it may not be written -/
theorem RM.view {v : V} {m : M} {O : List Addr} (h : RM B Z H v m O) (hz : ∀ a, Z a → Z' a) (ho : ∀ a ∈ O, Z' a) : Rp B Z' H v m.toD := by
  cases h with
  | pu h => exact h.stay .refl hz
  | li h r => exact .lst (ho _ List.mem_cons_self) (.of h) (r.stay .refl hz)
  | nl h r => exact .lst (ho _ List.mem_cons_self) (.of h) (r.view hz fun a hm => ho a (List.mem_cons_of_mem _ hm))
  | dK h r => exact .dK (ho _ List.mem_cons_self) h (r.stay .refl hz)
/-! data as the library's own relation -/
def noDict : D → Bool
  | .dict _ => false
  | _ => true
mutual
theorem Rp.dp : ∀ {v : V} {d : D}, Rp B Z H v d → d.plain = true → Dp B.K H v d
  | _, _, .non, _ => .non
  | _, _, .bl b, _ => .bl b
  | _, _, .int i, _ => .int i
  | _, _, .str x, _ => .str x
  | _, _, .tup h r, c => .tup h (RpL.dp r (by simpa [PyData.plain] using c))
  | _, _, .lst _ h r, c => .lst (.inl h) (RpL.dp r (by simpa [PyData.plain] using c))
  | _, _, .lsK h r, c => .lst (.inr h) (RpL.dp r (by simpa [PyData.plain] using c))
  | _, _, .dK _ _ _, c => by simp [PyData.plain] at c
theorem RpL.dp : ∀ {vs : List V} {ds : List D}, RpL B Z H vs ds → PyData.plainAll ds = true → DpAll B.K H vs ds
  | _, _, .nil, _ => .nil
  | _, _, .cons h r, c => by
    simp only [PyData.plainAll, Bool.and_eq_true] at c
    exact .cons (Rp.dp h c.1) (RpL.dp r c.2)
end
end
end TR

set_option Elab.async false
set_option linter.all false
/-! states of the small language against the abstract heap -/
namespace TR
open PySem L2

theorem PE.of {X : Cx} {e : Expr} {t t' : TE} (h : PE X e t) (w : ∀ σ H Q, t' σ H Q → t σ H Q) : PE X e t' := ⟨fun pins s σ H Q I q => h.run pins s σ H Q I (w σ H Q q)⟩
theorem PT.of {X : Cx} {e : Expr} {t t' : TT} (h : PT X e t) (w : ∀ σ H Q, t' σ H Q → t σ H Q) : PT X e t' := ⟨fun pins s σ H Q I q => h.run pins s σ H Q I (w σ H Q q)⟩
theorem PW.of {X : Cx} {e : Expr} {t t' : TT} (h : PW X e t) (w : ∀ σ H Q, t' σ H Q → t σ H Q) : PW X e t' := ⟨fun whole pins s σ H Q I q => h.run whole pins s σ H Q I (w σ H Q q)⟩
theorem PA.of {X : Cx} {es : List Expr} {t t' : TA} (h : PA X es t) (w : ∀ σ H Q, t' σ H Q → t σ H Q) : PA X es t' := ⟨fun pos pins s σ H Q I q => h.run pos pins s σ H Q I (w σ H Q q)⟩
theorem PS.of {X : Cx} {st : Stmt} {t t' : TS} (h : PS X st t) (w : ∀ D σ H, t' D σ H → t D σ H) : PS X st t' := ⟨fun pins s σ H D I q => h.run pins s σ H D I (w D σ H q)⟩
theorem PSs.of {X : Cx} {st : List Stmt} {t t' : TS} (h : PSs X st t) (w : ∀ D σ H, t' D σ H → t D σ H) : PSs X st t' := ⟨fun pins s σ H D I q => h.run pins s σ H D I (w D σ H q)⟩

section
variable {B : Wd} {Z Z' Z'' : Zn} {H H' H'' : Hp}
theorem RN.mut : ∀ {vs : List V} {dss : List (List D)} {O : List Addr}, RN B Z H vs dss O → ∀ a ∈ O, Mut (H a)
  | _, _, _, .nil, a, h => by cases h
  | _, _, _, .cons h _ t, a, hm => by
    rcases List.mem_cons.mp hm with e | hm
    · subst e; rw [h]; trivial
    · exact RN.mut t a hm
theorem RM.mut {v : V} {m : M} {O : List Addr} (h : RM B Z H v m O) : ∀ a ∈ O, Mut (H a) := by
  intro a ha
  cases h with
  | pu h => cases ha
  | li h r => simp at ha; subst ha; rw [h]; trivial
  | nl h r =>
    rcases List.mem_cons.mp ha with e | ha
    · subst e; rw [h]; trivial
    · exact r.mut a ha
  | dK h r => simp at ha; subst ha; rw [h]; trivial

/-- what was tracked stands -/
def Grow (H H' : Hp) : Prop := ∀ a o, H a = some o → H' a = some o
theorem Grow.refl : Grow H H := fun _ _ h => h
theorem Grow.trans (a : Grow H H') (b : Grow H' H'') : Grow H H'' := fun x o h => b x o (a x o h)
theorem Grow.upd {p : Addr} {o : HO} (h : H p = none) : Grow H (upd H p o) := fun b x e => by rw [upd_ne (ne_of_none e h)]; exact e
theorem Grow.none (g : Grow H H') {a : Addr} (h : H' a = none) : H a = none := by
  cases q : H a with
  | none => rfl
  | some o => rw [g a o q] at h; cases h
theorem Grow.stay (g : Grow H H') : Stay Z H H' := ⟨fun a o _ h => g a o h, fun a ys h => g a _ h, fun a o u h => g a _ h⟩

structure Sat (B : Wd) (Z : Zn) (σ : St) (H : Hp) (env : Env) (Os : List (List Addr)) : Prop where
  len1 : Os.length = env.length
  len2 : σ.length = env.length
  val : ∀ (i : Nat) (m : M), env[i]? = some (some m) → ∃ v O, σ[i]? = some (some v) ∧ Os[i]? = some O ∧ RM B Z H v m O
  emp : ∀ i : Nat, env[i]? = some none → Os[i]? = some []
  nd : Os.flatten.Nodup
  nz : ∀ a ∈ Os.flatten, ¬ Z a
  zh : ∀ a, Z a → H a ≠ none
theorem mem_flat {Os : List (List Addr)} {a : Addr} : a ∈ Os.flatten ↔ ∃ (i : Nat) (O : List Addr), Os[i]? = some O ∧ a ∈ O := by
  constructor
  · intro h
    obtain ⟨O, h1, h2⟩ := List.mem_flatten.mp h
    obtain ⟨i, hi, e⟩ := List.getElem_of_mem h1
    exact ⟨i, O, by rw [List.getElem?_eq_getElem hi, e], h2⟩
  · rintro ⟨i, O, h1, h2⟩
    exact List.mem_flatten.mpr ⟨O, List.mem_of_getElem? h1, h2⟩
section
variable {σ : St} {env env' env'' : Env} {Os Os' Os'' : List (List Addr)}
theorem Sat.own (s : Sat B Z σ H env Os) : ∀ a ∈ Os.flatten, Mut (H a) := by
  intro a ha
  obtain ⟨i, O, h1, h2⟩ := mem_flat.mp ha
  have hi : i < env.length := by rw [← s.len1]; exact (List.getElem?_eq_some_iff.mp h1).1
  cases e : env[i] with
  | none =>
    have := s.emp i (by rw [List.getElem?_eq_getElem hi, e])
    rw [h1] at this; cases this; cases h2
  | some m =>
    obtain ⟨v, O', h3, h4, r⟩ := s.val i m (by rw [List.getElem?_eq_getElem hi, e])
    rw [h1] at h4; cases h4
    exact r.mut a h2
theorem Mut.some {o : Option HO} (h : Mut o) : ∃ u, o = some u := by
  cases o with
  | none => exact h.elim
  | some u => exact ⟨u, rfl⟩
theorem Sat.there (s : Sat B Z σ H env Os) {a : Addr} (h : a ∈ Os.flatten) : H a ≠ none := by
  obtain ⟨u, e⟩ := Mut.some (s.own a h)
  rw [e]; simp
theorem Sat.not_tup (s : Sat B Z σ H env Os) {a : Addr} {ys : List V} (h : H a = some (.tup ys)) : a ∉ Os.flatten := fun ha => by
  have := s.own a ha
  rw [h] at this; exact this
theorem Sat.not_frz (s : Sat B Z σ H env Os) {a : Addr} {o : Obj} {u : HO} (h : H a = some (.frz o u)) : a ∉ Os.flatten := fun ha => by
  have := s.own a ha
  rw [h] at this; exact this
theorem Sat.grow (s : Sat B Z σ H env Os) (g : Grow H H') : Sat B Z σ H' env Os :=
  ⟨s.len1, s.len2, fun i m e => let ⟨v, O, h1, h2, r⟩ := s.val i m e; ⟨v, O, h1, h2, r.stay g.stay (fun _ z => z) fun a o _ h => g a o h⟩, s.emp, s.nd, s.nz, fun a z q => s.zh a z (g.none q)⟩

/-- from one state to a later one; mu: the slots whose binding or content may change -/
structure Step (mu : List Nat) (Z : Zn) (H : Hp) (env : Env) (Os : List (List Addr)) (Z' : Zn) (H' : Hp) (env' : Env) (Os' : List (List Addr)) : Prop where
  elen : env'.length = env.length
  zz : ∀ a, Z a → Z' a
  zn : ∀ a, Z' a → Z a ∨ H a = none ∨ a ∈ Os.flatten
  on : ∀ a ∈ Os'.flatten, H a = none ∨ a ∈ Os.flatten
  keep : ∀ a o, H a = some o → a ∉ Os.flatten → H' a = some o
  dom : ∀ a, H' a = none → H a = none
  slot : ∀ i : Nat, i ∉ mu → env'[i]? = env[i]? ∧ Os'[i]? = Os[i]? ∧ ∀ O, Os[i]? = some O → ∀ a ∈ O, H' a = H a
theorem Step.refl {mu : List Nat} : Step mu Z H env Os Z H env Os :=
  ⟨rfl, fun _ z => z, fun _ z => .inl z, fun _ h => .inr h, fun _ _ h _ => h, fun _ h => h, fun _ _ => ⟨rfl, rfl, fun _ _ _ _ => rfl⟩⟩
theorem Step.mono {mu mu' : List Nat} (s : Step mu Z H env Os Z' H' env' Os') (h : ∀ i ∈ mu, i ∈ mu') : Step mu' Z H env Os Z' H' env' Os' :=
  ⟨s.elen, s.zz, s.zn, s.on, s.keep, s.dom, fun i hi => s.slot i fun z => hi (h i z)⟩
theorem Step.trans {mu1 mu2 mu : List Nat} (a : Step mu1 Z H env Os Z' H' env' Os') (b : Step mu2 Z' H' env' Os' Z'' H'' env'' Os'') (h1 : ∀ i ∈ mu1, i ∈ mu) (h2 : ∀ i ∈ mu2, i ∈ mu) : Step mu Z H env Os Z'' H'' env'' Os'' := by
  refine ⟨b.elen.trans a.elen, fun x z => b.zz x (a.zz x z), fun x z => ?_, fun x hx => ?_, fun x o e hn => ?_, fun x e => a.dom x (b.dom x e), fun i hi => ?_⟩
  · rcases b.zn x z with z | z | z
    · exact a.zn x z
    · exact .inr (.inl (a.dom x z))
    · exact .inr (a.on x z)
  · rcases b.on x hx with z | z
    · exact .inl (a.dom x z)
    · exact a.on x z
  · refine b.keep x o (a.keep x o e hn) fun z => ?_
    rcases a.on x z with z | z
    · rw [z] at e; cases e
    · exact hn z
  · obtain ⟨e1, o1, k1⟩ := a.slot i fun z => hi (h1 i z)
    obtain ⟨e2, o2, k2⟩ := b.slot i fun z => hi (h2 i z)
    refine ⟨e2.trans e1, o2.trans o1, fun O hO x hx => ?_⟩
    rw [k2 O (o1.trans hO) x hx, k1 O hO x hx]
theorem Step.stay {mu : List Nat} (s : Step mu Z H env Os Z' H' env' Os') (q : Sat B Z σ H env Os) : Stay Z H H' :=
  ⟨fun a o z e => s.keep a o e fun h => q.nz a h z, fun a ys e => s.keep a _ e (q.not_tup e), fun a o u e => s.keep a _ e (q.not_frz e)⟩
theorem Step.grow {mu : List Nat} (s : Step mu Z H env Os Z' H' env' Os') (g : Grow H' H'') (q : Sat B Z' σ H' env' Os') : Step mu Z H env Os Z' H'' env' Os' :=
  ⟨s.elen, s.zz, s.zn, s.on, fun a o e hn => g a o (s.keep a o e hn), fun a e => s.dom a (g.none e), fun i hi => by
    obtain ⟨e1, o1, k1⟩ := s.slot i hi
    refine ⟨e1, o1, fun O hO a ha => ?_⟩
    have hm : a ∈ Os'.flatten := mem_flat.mpr ⟨i, O, o1.trans hO, ha⟩
    obtain ⟨u, hu⟩ := Mut.some (q.own a hm)
    rw [g a u hu, ← hu, k1 O hO a ha]⟩

/-- what is said of the addresses of one's own in a result -/
def ResO (Z' : Zn) (H : Hp) (Os Os' : List (List Addr)) (rs : List Nat) (O : List Addr) : Prop :=
  (rs = [] → (O ++ Os'.flatten).Nodup ∧ ∀ a ∈ O, ¬ Z' a ∧ (H a = none ∨ a ∈ Os.flatten)) ∧ (rs ≠ [] → ∀ a ∈ O, ∃ i ∈ rs, ∃ Oi, Os'[i]? = some Oi ∧ a ∈ Oi) ∧ O.Nodup
/-- behind the evaluation of an expression -/
def Post (B : Wd) (mu : List Nat) (σ : St) (Z : Zn) (H : Hp) (env : Env) (Os : List (List Addr)) (m : M) (rs : List Nat) (env' : Env) (v : V) (H' : Hp) : Prop :=
  ∃ Z' Os' O, Sat B Z' σ H' env' Os' ∧ Step mu Z H env Os Z' H' env' Os' ∧ RM B Z' H' v m O ∧ ResO Z' H Os Os' rs O

/-- a reading by a run of the small language -/
def Rx (B : Wd) (mu : List Nat) (run : Env → R (M × List Nat × Env)) : TE := fun σ H Q =>
  ∃ Z env Os, Sat B Z σ H env Os ∧ ∃ m rs env', run env = .ok (m, rs, env') ∧ ∀ v H', Post B mu σ Z H env Os m rs env' v H' → Q v H'

/-- a result stands while a later part runs -/
theorem carry {mu2 : List Nat} {H0 : Hp} {Os0 : List (List Addr)} {v : V} {m : M} {O : List Addr} {rs : List Nat}
    (q : Sat B Z σ H env Os) (r : RM B Z H v m O) (ro : ResO Z H0 Os0 Os rs O) (s : Step mu2 Z H env Os Z' H' env' Os') (ap : apart rs mu2 = true) : RM B Z' H' v m O := by
  refine r.stay (s.stay q) s.zz fun a o ha e => ?_
  cases rs with
  | nil =>
    refine s.keep a o e fun hm => ?_
    have := (ro.1 rfl).1
    exact (List.nodup_append.mp this).2.2 a ha a hm rfl
  | cons i rs =>
    obtain ⟨j, hj, Oj, h1, h2⟩ := ro.2.1 (by simp) a ha
    have hn : j ∉ mu2 := by
      unfold apart at ap
      have := List.all_eq_true.mp ap j hj
      simpa using this
    rw [(s.slot j hn).2.2 Oj h1 a h2]; exact e
/-- a new value over a heap -/
def New (B : Wd) (Z : Zn) (H : Hp) (m : M) (v : V) (H' : Hp) : Prop := Grow H H' ∧ ∃ O, RM B Z H' v m O ∧ O.Nodup ∧ ∀ a ∈ O, H a = none
theorem New.pure {d : D} {v : V} (h : Rp B Z H v d) : New B Z H (.pu d) v H := ⟨Grow.refl, [], .pu h, List.nodup_nil, fun _ h => nomatch h⟩
theorem New.post {mu : List Nat} {Z0 : Zn} {H0 : Hp} {env0 : Env} {Os0 : List (List Addr)} {m : M} {v : V} (n : New B Z H m v H') (q : Sat B Z σ H env Os) (s : Step mu Z0 H0 env0 Os0 Z H env Os) :
    Post B mu σ Z0 H0 env0 Os0 m [] env v H' := by
  obtain ⟨g, O, r, nd, hn⟩ := n
  refine ⟨Z, Os, O, q.grow g, s.grow g q, r, fun _ => ⟨List.nodup_append.mpr ⟨nd, q.nd, fun a h1 b h2 e => ?_⟩, fun a ha => ⟨fun z => q.zh a z (hn a ha), .inl (s.dom a (hn a ha))⟩⟩, fun h => (h rfl).elim, nd⟩
  subst e
  exact q.there h2 (hn a h1)
end
end
end TR

set_option Elab.async false
set_option linter.all false
set_option maxHeartbeats 4000000
/-! two-place operators of the small language over the layer's rules -/
namespace TR
open PySem PySem.Spec PyProof.Rows L2

/-- the reading of an operation on two values -/
def rOp (B : Wd) (f : M → M → R M) : R2 := fun x y H Q => ∃ Z ma mb m O1 O2, (∀ a, Z a → H a ≠ none) ∧ RM B Z H x ma O1 ∧ RM B Z H y mb O2 ∧ f ma mb = .ok m ∧ ∀ v H', New B Z H m v H' → Q v H'

section
variable {B : Wd} {Z : Zn} {H : Hp}
theorem New.tup {a : Addr} {xs : List V} {ds : List D} (h : H a = none) (r : RpL B Z H xs ds) : New B Z H (.pu (.tuple ds)) (.ref a) (upd H a (.tup xs)) :=
  ⟨Grow.upd h, [], .pu (.tup (.inl (.inl upd_same)) (r.stay (Grow.upd h).stay fun _ z => z)), List.nodup_nil, fun _ h => nomatch h⟩
theorem New.li {a : Addr} {xs : List V} {ds : List D} (h : H a = none) (r : RpL B Z H xs ds) : New B Z H (.li ds) (.ref a) (upd H a (.lst xs)) :=
  ⟨Grow.upd h, [a], .li upd_same (r.stay (Grow.upd h).stay fun _ z => z), by simp, fun b hb => by simp at hb; subst hb; exact h⟩
/-- a sequence of data: a list (one's own or not), a tuple -/
theorem RM.seq {v : V} {m : M} {O : List Addr} (r : RM B Z H v m O) {xs : List D} (e : m.seq = .ok xs) :
    ∃ a vs, v = .ref a ∧ RpL B Z H vs xs ∧ (SqL B.K H a vs ∨ (SqT B.K H a vs ∧ m = .pu (.tuple xs))) := by
  cases r with
  | pu h =>
    cases h with
    | tup h r => simp [M.seq] at e; subst e; exact ⟨_, _, rfl, r, .inr ⟨h, rfl⟩⟩
    | lst z h r => simp [M.seq] at e; subst e; exact ⟨_, _, rfl, r, .inl (.inl h)⟩
    | lsK h r => simp [M.seq] at e; subst e; exact ⟨_, _, rfl, r, .inl (.inr h)⟩
    | _ => simp [M.seq] at e
  | li h r => simp [M.seq] at e; subst e; exact ⟨_, _, rfl, r, .inl (.inl (.of h))⟩
  | _ => simp [M.seq] at e
theorem RM.int {v : V} {i : Int} {O : List Addr} (r : RM B Z H v (.pu (.int i)) O) : v = .int i := by
  cases r with | pu h => cases h; rfl
theorem RM.boo {v : V} {b : Bool} {O : List Addr} (r : RM B Z H v (.pu (.bool b)) O) : v = .bl b := by
  cases r with | pu h => cases h; rfl
theorem RM.str {v : V} {x : Str} {O : List Addr} (r : RM B Z H v (.pu (.str x)) O) : v = .str x := by
  cases r with | pu h => cases h; rfl
theorem RM.tup {v : V} {ds : List D} {O : List Addr} (r : RM B Z H v (.pu (.tuple ds)) O) : ∃ a vs, v = .ref a ∧ SqT B.K H a vs ∧ RpL B Z H vs ds := by
  cases r with | pu h => cases h with | tup h r => exact ⟨_, _, rfl, h, r⟩
end

theorem big_eq : big = sizeLine := by rw [sizeLine_eq]; rfl

section
variable {X : Cx} {pins : List (Addr × Obj)} {σ : L2.St} {H : Hp} {s : Shared}
end
/-! ### tuple * int -/
theorem tuple_mul_same (l : Addr) (items : Array Value) (n : Nat) (dd : Option Addr) (sl : Array (Option Value)) (x : Int) (u : Tok) (c0 : (decide (x < -(2 ^ 63)) || decide (x ≥ 2 ^ 63)) = false) (c1 : (items.isEmpty || x == 1) = true) :
    Meets (Builtin.«tuple.__mul__» ⟨[.ref l, .int x u], []⟩) (fun _ R s => s.heap.get? l = some { cls := .type "tuple", dict := dd, data := .seq items n, slots := sl } ∧ R (.ok (.ret (Value.ref l))) s) :=
  .of_wp fun prog w A R s h => by
    obtain ⟨hp, g, d, tk, os⟩ := s
    obtain ⟨hl, h⟩ := h
    have f1 := AutoSeq1.idx_int
    wp_walk using wpAny_loadPart' hl
    repeat (first
      | (refine wpAny_ite_false (decide_eq_false (by rw [c0]; exact Bool.false_ne_true)) ?_; wp_walk using wpAny_loadPart' hl)
      | (refine wpAny_ite_true (decide_eq_true (by rw [c1])) ?_; wp_walk using wpAny_loadPart' hl))
    exact ⟨_, rfl, h⟩
theorem tuple_mul_none (l : Addr) (items : Array Value) (n : Nat) (dd : Option Addr) (sl : Array (Option Value)) (x : Int) (u : Tok) (c0 : (decide (x < -(2 ^ 63)) || decide (x ≥ 2 ^ 63)) = false) (c1 : (items.isEmpty || x == 1) = false) (c2 : (decide (x ≤ 0) || items.isEmpty) = true) :
    Meets (Builtin.«tuple.__mul__» ⟨[.ref l, .int x u], []⟩) (fun _ R s => s.heap.get? l = some { cls := .type "tuple", dict := dd, data := .seq items n, slots := sl } ∧
      R (.ok (.ret (Value.ref s.heap.objs.size))) { s with heap := s.heap.push { cls := Value.type "tuple", data := Data.seq #[] }, toks := s.toks }) :=
  .of_wp fun prog w A R s h => by
    obtain ⟨hp, g, d, tk, os⟩ := s
    obtain ⟨hl, h⟩ := h
    have f1 := AutoSeq1.idx_int
    wp_walk using wpAny_loadPart' hl
    repeat (first
      | (refine wpAny_ite_false (decide_eq_false (by rw [c0]; exact Bool.false_ne_true)) ?_; wp_walk using wpAny_loadPart' hl)
      | (refine wpAny_ite_false (decide_eq_false (by rw [c1]; exact Bool.false_ne_true)) ?_; wp_walk using wpAny_loadPart' hl)
      | (refine wpAny_ite_true (decide_eq_true (by rw [c2])) ?_; wp_walk using wpAny_loadPart' hl)
      | (refine wpAny_ite_false (decide_eq_false (Nat.not_lt.mpr (Nat.zero_le _))) ?_; wp_walk using wpAny_loadPart' hl))
    exact ⟨_, rfl, h⟩
theorem op_mulT {X : Cx} : OpR X (binaryOp .Mult) (fun x y H Q => ∃ l k xs, x = .ref l ∧ y = .int k ∧ SqT X.K H l xs ∧ -1000 ≤ k ∧ k ≤ 1000 ∧ xs.length ≤ 1000 ∧
    ((List.replicate k.toNat xs).flatten = xs → Q (.ref l) H) ∧ ∀ p, H p = none → Q (.ref p) (upd H p (.tup (List.replicate k.toNat xs).flatten))) := by
  intro pins s σ H x y v u Q I rx ry h
  obtain ⟨l, k, xs, rfl, rfl, hT, h0, h1, hz, q1, q2⟩ := h
  by_cases hbig : xs ≠ [] ∧ 2 ≤ k
  · exact op_repT pins s σ H _ _ v u Q I rx ry ⟨l, k, xs, rfl, rfl, hT, hbig.1, hbig.2, h1, hz, q2⟩
  cases rx
  obtain ⟨t, rfl⟩ := ry
  obtain ⟨its, r, ⟨⟨cls, dd, data, sl⟩, ho, hc, n, hd⟩, hs⟩ := I.tuple hT
  simp only at hc hd
  subst hc hd
  have hle : its.length = xs.length := r.length.symm
  have c0 : (decide (k < -(2 ^ 63)) || decide (k ≥ 2 ^ 63)) = false := by
    rw [decide_eq_false (by omega), decide_eq_false (by omega)] <;> rfl
  have road : ∀ {R : Value → Shared → Prop}, (codeAny (model X.prog X.w) X.A (.call (.builtin "tuple.__mul__") ⟨[.ref l, .int k t], []⟩) (fun r s' => match r with | .ok (.ret v) => R v s' | _ => False) s → True) := fun _ => trivial
  by_cases c1 : (its.toArray.isEmpty || k == 1) = true
  · refine wpAny_binaryOp_repeat_ref (T := "tuple") (U := "int") (by decide) ⟨_, ho, rfl⟩ (fun s' => typeIs_int s' k t) noFill_tuple_mul F.fills_int_mul F.slot_int_rmul repeat_tuple F.slot_int_index.lookup
      (call_meets F.slot_int_rmul (typeIs_int s k t) F.entry_int_rmul (F.args_int_rmul_2 _ _) (int_rmul_tuple k t l its.toArray n dd sl)
        ⟨ho, rfl, ⟨_, ho, rfl⟩, call_meets F.slot_tuple_mul ⟨_, ho, rfl⟩ F.entry_tuple_mul (F.args_tuple_mul_2 _ _) (tuple_mul_same l its.toArray n dd sl k t c0 c1) ⟨ho, ?_⟩⟩)
    refine ⟨.ref l, H, I, rfl, q1 ?_⟩
    rcases Bool.or_eq_true_iff.mp c1 with c | c
    · have e : xs = [] := List.eq_nil_of_length_eq_zero (by
        rw [← hle]
        have : its.toArray = #[] := Array.isEmpty_iff.mp c
        have := congrArg Array.size this
        simpa using this)
      subst e
      rw [List.flatten_replicate_nil]
    · have e : k = 1 := by simpa using c
      subst e
      simp
  · have c1' : (its.toArray.isEmpty || k == 1) = false := by simpa using c1
    have hne : xs ≠ [] := fun e => by
      apply c1
      rw [e] at hle
      have : its = [] := List.eq_nil_of_length_eq_zero hle
      rw [this]; rfl
    have hk1 : k ≠ 1 := fun e => c1 (by rw [e]; simp)
    have hk0 : k ≤ 0 := by
      rcases Classical.not_and_iff_not_or_not.mp hbig with z | z
      · exact absurd hne z
      · omega
    have c2 : (decide (k ≤ 0) || its.toArray.isEmpty) = true := by rw [decide_eq_true hk0]; rfl
    refine wpAny_binaryOp_repeat_ref (T := "tuple") (U := "int") (by decide) ⟨_, ho, rfl⟩ (fun s' => typeIs_int s' k t) noFill_tuple_mul F.fills_int_mul F.slot_int_rmul repeat_tuple F.slot_int_index.lookup
      (call_meets F.slot_int_rmul (typeIs_int s k t) F.entry_int_rmul (F.args_int_rmul_2 _ _) (int_rmul_tuple k t l its.toArray n dd sl)
        ⟨ho, rfl, ⟨_, ho, rfl⟩, call_meets F.slot_tuple_mul ⟨_, ho, rfl⟩ F.entry_tuple_mul (F.args_tuple_mul_2 _ _) (tuple_mul_none l its.toArray n dd sl k t c0 c1' c2) ⟨ho, ?_⟩⟩)
    have e : (List.replicate k.toNat xs).flatten = [] := by
      have : k.toNat = 0 := by omega
      rw [this]; rfl
    refine ⟨.ref s.heap.objs.size, _, I.laid (t' := s.toks) (o := .tup (List.replicate k.toNat xs).flatten) (fun b ob q => Heap.get?_push_of_some _ q) (Nat.le_refl _) ?_, rfl, q2 _ (I.hok.fresh (Nat.le_refl _))⟩
    rw [e]
    exact ⟨Nat.zero_le _, [], .nil, IsTup.new _ _⟩

/-! ### the operators -/
def opOf : BOp → Operator
  | .add => .Add
  | .sub => .Sub
  | .mul => .Mult
  | .fdiv => .FloorDiv
  | .mod => .Mod
  | .pow => .Pow
theorem or_bin {X : Cx} (o : BOp) : OpR X (binaryOp (opOf o)) (rOp (wd X) (binD o)) := by
  intro pins s σ H x y v u Q I rx ry ⟨Z, ma, mb, m, O1, O2, zh, r1, r2, e, q⟩
  unfold binD at e
  split at e
  · cases e; have := r1.int; subst this; have := r2.int; subst this
    exact op_add pins s σ H _ _ v u Q I rx ry ⟨_, _, rfl, rfl, q _ _ (.pure (.int _))⟩
  · cases e; have := r1.int; subst this; have := r2.int; subst this
    exact op_sub pins s σ H _ _ v u Q I rx ry ⟨_, _, rfl, rfl, q _ _ (.pure (.int _))⟩
  · split at e
    · rename_i hc
      cases e; have := r1.int; subst this; have := r2.int; subst this
      refine op_mul pins s σ H _ _ v u Q I rx ry ⟨_, _, rfl, rfl, ?_, q _ _ (.pure (.int _))⟩
      simp only [okBits, Bool.or_eq_true, decide_eq_true_eq] at hc
      exact hc
    · cases e
  · split at e
    · rename_i hc
      cases e; have := r1.int; subst this; have := r2.int; subst this
      exact op_fdivN pins s σ H _ _ v u Q I rx ry ⟨_, _, rfl, rfl, hc, q _ _ (.pure (.int _))⟩
    · cases e
  · split at e
    · rename_i hc
      cases e; have := r1.int; subst this; have := r2.int; subst this
      exact op_modN pins s σ H _ _ v u Q I rx ry ⟨_, _, rfl, rfl, hc, q _ _ (.pure (.int _))⟩
    · cases e
  · split at e
    · rename_i hc
      cases e; have := r1.int; subst this; have := r2.int; subst this
      exact op_pow pins s σ H _ _ v u Q I rx ry ⟨_, _, rfl, rfl, hc, q _ _ (.pure (.int _))⟩
    · cases e
  · split at e
    · rename_i hc
      cases e
      obtain ⟨a, xs, rfl, ha, ra⟩ := r1.tup
      obtain ⟨b, ys, rfl, hb, rb⟩ := r2.tup
      have l1 := ra.length
      have l2 := rb.length
      refine op_catA pins s σ H _ _ v u Q I rx ry ⟨a, b, xs, ys, rfl, rfl, ha, hb, by rw [← big_eq]; omega, fun e => ?_, fun _ e => ?_, fun _ _ p hp => q _ _ (.tup hp (ra.append rb))⟩
      · subst e; cases ra; exact q _ _ (.pure (.tup hb rb))
      · subst e; cases rb; simp only [List.append_nil] at q; exact q _ _ (.pure (.tup ha ra))
    · cases e
  · split at e
    · rename_i hc
      cases e; have := r1.str; subst this; have := r2.str; subst this
      exact op_add_str pins s σ H _ _ v u Q I rx ry ⟨_, _, rfl, rfl, by rw [← big_eq]; exact hc, q _ _ (.pure (.str _))⟩
    · cases e
  · split at e
    · rename_i hc
      cases e
      obtain ⟨a, xs, rfl, ha, ra⟩ := r1.tup
      have := r2.int; subst this
      have l1 := ra.length
      refine op_mulT pins s σ H _ _ v u Q I rx ry ⟨a, _, xs, rfl, rfl, ha, hc.1, hc.2.1, by omega, fun e => ?_, fun p hp => q _ _ (.tup hp (ra.replicate _))⟩
      exact q _ _ (.pure (.tup ha (e ▸ ra.replicate _)))
    · cases e
  · split at e
    · rename_i hc
      cases e
      cases r1 with | li ha ra =>
      cases r2 with | li hb rb =>
      have l1 := ra.length
      have l2 := rb.length
      exact op_cat pins s σ H _ _ v u Q I rx ry ⟨_, _, _, _, rfl, rfl, ha, hb, by rw [← big_eq]; omega, fun p hp => q _ _ (.li hp (ra.append rb))⟩
    · cases e
  · split at e
    · rename_i hc
      cases e
      have := r2.int; subst this
      cases r1 with
      | li h ra =>
        have l1 := ra.length
        refine op_rep pins s σ H _ _ v u Q I rx ry ⟨_, _, _, rfl, rfl, h, by omega, by omega, ?_, fun p hp => q _ _ (.li hp (ra.replicate _))⟩
        have two : ∀ a b : Nat, a ≤ 1000 → b ≤ 1000 → a * b ≤ sizeLine := fun a b h1 h2 => by
          rw [sizeLine_eq]
          exact Nat.le_trans (Nat.mul_le_mul h1 h2) (by decide)
        exact two _ _ (by omega) (by omega)
    · cases e
  · cases e
end TR

set_option Elab.async false
set_option linter.all false
set_option maxHeartbeats 4000000
/-! comparisons -/
namespace TR
open PySem PySem.Spec PyProof.Rows L2

section
variable {B : Wd} {Z : Zn} {H : Hp}
theorem RN.dp : ∀ {vs : List V} {dss : List (List D)} {O : List Addr}, RN B Z H vs dss O → PyData.plainAll (dss.map .list) = true → DpAll B.K H vs (dss.map .list)
  | _, _, _, .nil, _ => .nil
  | _, _, _, .cons h r t, c => by
    simp only [List.map_cons, PyData.plainAll, Bool.and_eq_true] at c
    exact .cons (.lst (.inl (.of h)) (r.dp (by simpa [PyData.plain] using c.1))) (RN.dp t c.2)
theorem RM.dp {v : V} {m : M} {O : List Addr} (r : RM B Z H v m O) (c : m.toD.plain = true) : Dp B.K H v m.toD := by
  cases r with
  | pu h => exact h.dp c
  | li h r => exact .lst (.inl (.of h)) (r.dp (by simpa [M.toD, PyData.plain] using c))
  | nl h r => exact .lst (.inl (.of h)) (r.dp (by simpa [M.toD, PyData.plain] using c))
  | dK h r => simp [M.toD, PyData.plain] at c
end
theorem okD_plain {d : D} (h : okD d = true) : d.plain = true := by unfold okD at h; simp only [Bool.and_eq_true] at h; exact h.1
theorem okD_depth {d : D} (h : okD d = true) : d.depth ≤ 60 := by unfold okD at h; simp only [Bool.and_eq_true, decide_eq_true_eq] at h; exact h.2
theorem depth_tuple (xs : List D) : (PyData.tuple xs).depth = PyData.depthAll xs + 1 := by simp [PyData.depth]
def cmpOf : COp → CmpOp
  | .eq => .Eq
  | .ne => .NotEq
  | .lt => .Lt
  | .le => .LtE
  | .gt => .Gt
  | .ge => .GtE
  | .inn => .In
  | .nin => .NotIn
section
variable {X : Cx} {pins : List (Addr × Obj)} {σ : L2.St} {H : Hp} {s : Shared}
theorem Rp.reads {Z : Zn} (I : Inv X pins σ H s) {v : V} {d : D} {u : Value} (r : Rp (wd X) Z H v d) (c : d.plain = true) (ru : RelV v u) : ∃ as, Reads s.heap u d as := Dp.reads I d v u (r.dp c) ru
theorem RpL.reads {Z : Zn} (I : Inv X pins σ H s) {vs : List V} {ds : List D} {us : List Value} (r : RpL (wd X) Z H vs ds) (c : PyData.plainAll ds = true) (ru : Vals vs us) : ∃ as, ReadsAll s.heap us ds as := by
  induction ds generalizing vs us with
  | nil => cases r; cases ru; exact ⟨_, .nil⟩
  | cons d ds ih =>
    cases r with | cons h r => cases ru with | cons h2 r2 =>
    simp only [PyData.plainAll, Bool.and_eq_true] at c
    obtain ⟨as, h3⟩ := h.reads I c.1 h2
    obtain ⟨bs, h4⟩ := ih r c.2 r2
    exact ⟨_, .cons h3 h4⟩
theorem RM.reads {Z : Zn} {O : List Addr} (I : Inv X pins σ H s) {v : V} {m : M} {u : Value} (r : RM (wd X) Z H v m O) (c : m.toD.plain = true) (ru : RelV v u) : ∃ as, Reads s.heap u m.toD as := Dp.reads I _ v u (r.dp c) ru

/-! dicts: keys ints and texts -/
theorem atomKey_key {d : D} (h : atomKey d = true) : ∃ k : Key, keyD k = d := by
  cases d <;> simp [atomKey] at h
  · exact ⟨.inl _, rfl⟩
  · exact ⟨.inr _, rfl⟩
theorem eqv_int (i j : Int) : PyData.eqv (.int i) (.int j) = decide (i = j) := by simp [PyData.eqv, Bool.beq_eq_decide_eq]
theorem eqv_str (x y : Str) : PyData.eqv (.str x) (.str y) = decide (x = y) := by simp [PyData.eqv, Bool.beq_eq_decide_eq]
theorem eqv_key (a b : Key) : PyData.eqv (keyD a) (keyD b) = decide (a = b) := by
  cases a <;> cases b
  · rw [keyD, keyD, eqv_int]; simp
  · simp [keyD, PyData.eqv]
  · simp [keyD, PyData.eqv]
  · rw [keyD, keyD, eqv_str]; simp
theorem dLook_cons (kv : D × D) (kvs : List (D × D)) (k : D) : dLook (kv :: kvs) k = if PyData.eqv kv.1 k = true then some kv.2 else dLook kvs k := by
  unfold dLook
  rw [List.find?_cons]
  cases h : PyData.eqv kv.1 k <;> simp
theorem RKV.look {B : Wd} {Z : Zn} {ks : List (Key × V)} {kvs : List (D × D)} (r : RKV B Z H ks kvs) (k : Key) :
    (∃ v d, valV ks k = some v ∧ dLook kvs (keyD k) = some d ∧ Rp B Z H v d) ∨ (valV ks k = none ∧ dLook kvs (keyD k) = none) := by
  induction kvs generalizing ks with
  | nil => cases r; exact .inr ⟨rfl, rfl⟩
  | cons kv kvs ih =>
    cases r with
    | cons h r =>
      rename_i j v ks d
      rw [dLook_cons, eqv_key]
      by_cases e : j = k
      · rw [valV_pos (p := (j, v)) e]
        simp only [decide_eq_true e, if_true]
        exact .inl ⟨_, _, rfl, rfl, h⟩
      · rw [valV_neg (p := (j, v)) e]
        simp only [decide_eq_false e, Bool.false_eq_true, if_false]
        exact ih r
theorem RKV.isSome {B : Wd} {Z : Zn} {ks : List (Key × V)} {kvs : List (D × D)} (r : RKV B Z H ks kvs) (k : Key) : (valV ks k).isSome = (dLook kvs (keyD k)).isSome := by
  rcases r.look k with ⟨v, d, h1, h2, _⟩ | ⟨h1, h2⟩ <;> rw [h1, h2] <;> rfl
theorem RM.dic {B : Wd} {Z : Zn} {O : List Addr} {v : V} {m : M} (r : RM B Z H v m O) {kvs : List (D × D)} (e : m.dic = .ok kvs) : ∃ a ks, v = .ref a ∧ H a = some (.dK ks) ∧ RKV B Z H ks kvs := by
  cases r with
  | pu h =>
    cases h with
    | dK z h r => simp [M.dic] at e; subst e; exact ⟨_, _, rfl, h, r⟩
    | _ => simp [M.dic] at e
  | dK h r => simp [M.dic] at e; subst e; exact ⟨_, _, rfl, h, r⟩
  | _ => simp [M.dic] at e
theorem keyFit_key {B : Wd} {Z : Zn} {O : List Addr} {v : V} {d : D} {kvs : List (D × D)} (h : keyFit kvs d = true) (r : RM B Z H v (.pu d) O) : ∃ k : Key, d = keyD k ∧ v = kV k := by
  unfold keyFit at h
  simp only [Bool.and_eq_true] at h
  obtain ⟨k, rfl⟩ := atomKey_key h.1
  refine ⟨k, rfl, ?_⟩
  cases r with | pu r => cases k <;> (unfold keyD at r; cases r; rfl)

theorem R.of_if {α : Type} {c : Prop} [Decidable c] {a : R α} {x : α} (h : (if c then a else R.bad) = .ok x) : c ∧ a = .ok x := by
  split at h
  · exact ⟨by assumption, h⟩
  · cases h
theorem R.bind_ok {α β : Type} {r : R α} {f : α → R β} {x : β} (h : (r >>= f) = .ok x) : ∃ a, r = .ok a ∧ f a = .ok x := by
  cases r with
  | ok a => exact ⟨a, rfl, h⟩
  | exc y => cases h
  | bad => cases h

theorem ord_at (hu : X.A.units + 100 < cLine) {op : CmpOp} {f : D → D → Bool}
    (hf : ∀ (s : Shared) (a b : Value) (da db : PyData) (as bs : List Addr) (Q : Value → Shared → Prop), Reads s.heap a da as → Reads s.heap b db bs → W.alike da db = true → da ≠ .none → X.A.units + min da.depth db.depth < cLine → Q (.bool (f da db)) s → wpAny (model X.prog X.w) X.A (compareOp op a b) Q X.xe s) :
    OpR X (compareOp op) (rOp (wd X) fun a b => do
      let c ← ordC a b f
      .ok (.pu (.bool c))) := by
  intro pins s σ H x y v u Q I rx ry ⟨Z, ma, mb, m, O1, O2, zh, r1, r2, e, q⟩
  obtain ⟨c, e1, e2⟩ := R.bind_ok e
  cases e2; clear e; have e := e1; clear e1
  unfold ordC at e
  split at e
  · rename_i da db
    obtain ⟨hc, e⟩ := R.of_if e
    cases e
    simp only [Bool.and_eq_true] at hc
    obtain ⟨⟨⟨h1, h2⟩, h3⟩, h4⟩ := hc
    obtain ⟨as, ra⟩ := r1.reads I (okD_plain h1) rx
    obtain ⟨bs, rb⟩ := r2.reads I (okD_plain h2) ry
    have d1 := okD_depth h1
    have hm : min da.depth db.depth ≤ da.depth := Nat.min_le_left _ _
    have hn : da ≠ .none := fun z => by subst z; cases h4
    exact hf s v u da db as bs _ ra rb h3 hn (by omega) ⟨.bl _, H, I, rfl, q _ _ (.pure (.bl _))⟩
  · cases e

theorem or_cmp (hu : X.A.units + 100 < cLine) (o : COp) : OpR X (compareOp (cmpOf o)) (rOp (wd X) fun a b => do
    let c ← cmpD o a b
    .ok (.pu (.bool c))) := by
  cases o with
  | lt => exact ord_at hu fun s a b da db as bs Q ra rb h hn hr q => W.lt_data ra rb h hn hr q
  | le => exact ord_at hu fun s a b da db as bs Q ra rb h hn hr q => W.le_data ra rb h hn hr q
  | gt => exact ord_at hu fun s a b da db as bs Q ra rb h hn hr q => W.gt_data ra rb h hn hr q
  | ge => exact ord_at hu fun s a b da db as bs Q ra rb h hn hr q => W.ge_data ra rb h hn hr q
  | eq =>
    intro pins s σ H x y v u Q I rx ry ⟨Z, ma, mb, m, O1, O2, zh, r1, r2, e, q⟩
    obtain ⟨c, e1, e2⟩ := R.bind_ok e
    cases e2; clear e; have e := e1; clear e1
    obtain ⟨hc, e⟩ := R.of_if (show (if (okD ma.toD && okD mb.toD) = true then R.ok (PyData.eqv ma.toD mb.toD) else R.bad) = .ok c from e)
    cases e
    simp only [Bool.and_eq_true] at hc
    obtain ⟨as, ra⟩ := r1.reads I (okD_plain hc.1) rx
    obtain ⟨bs, rb⟩ := r2.reads I (okD_plain hc.2) ry
    have d1 := okD_depth hc.1
    have hm : min ma.toD.depth mb.toD.depth ≤ ma.toD.depth := Nat.min_le_left _ _
    exact SeqAt.eq_plain ra rb (okD_plain hc.1) (okD_plain hc.2) (by omega) ⟨.bl _, H, I, rfl, q _ _ (.pure (.bl _))⟩
  | ne =>
    intro pins s σ H x y v u Q I rx ry ⟨Z, ma, mb, m, O1, O2, zh, r1, r2, e, q⟩
    obtain ⟨c, e1, e2⟩ := R.bind_ok e
    cases e2; clear e; have e := e1; clear e1
    obtain ⟨hc, e⟩ := R.of_if (show (if (okD ma.toD && okD mb.toD) = true then R.ok (!PyData.eqv ma.toD mb.toD) else R.bad) = .ok c from e)
    cases e
    simp only [Bool.and_eq_true] at hc
    obtain ⟨as, ra⟩ := r1.reads I (okD_plain hc.1) rx
    obtain ⟨bs, rb⟩ := r2.reads I (okD_plain hc.2) ry
    have d1 := okD_depth hc.1
    have hm : min ma.toD.depth mb.toD.depth ≤ ma.toD.depth := Nat.min_le_left _ _
    exact SeqAt.ne_plain ra rb (okD_plain hc.1) (okD_plain hc.2) (by omega) ⟨.bl _, H, I, rfl, q _ _ (.pure (.bl _))⟩
  | inn =>
    intro pins s σ H x y v u Q I rx ry ⟨Z, ma, mb, m, O1, O2, zh, r1, r2, e, q⟩
    obtain ⟨c, e1, e2⟩ := R.bind_ok e
    cases e2; clear e; have e := e1; clear e1
    have dic : ∀ {d : D} {kvs : List (D × D)} {O1 O2 : List Addr}, RM (wd X) Z H x (.pu d) O1 → RM (wd X) Z H y mb O2 → mb.dic = .ok kvs → keyFit kvs d = true → c = (dLook kvs d).isSome →
        wpAny (model X.prog X.w) X.A (compareOp .In v u) (EP X pins σ Q) X.xe s := fun {d kvs O1 O2} r1 r2 hd hk e => by
      obtain ⟨k, rfl, rfl⟩ := keyFit_key hk r1
      obtain ⟨a, ks, rfl, ha, rk⟩ := r2.dic hd
      cases ry
      refine d_in (by omega) I (DGet.k ha) rx fun s' I' => ⟨.bl _, H, I', rfl, ?_⟩
      rw [rk.isSome k, ← e]
      exact q _ _ (.pure (.bl _))
    unfold cmpD at e
    simp only at e
    split at e
    · rename_i d kvs
      obtain ⟨hc, e⟩ := R.of_if e
      exact dic r1 r2 rfl hc (by cases e; rfl)
    · rename_i d kvs
      obtain ⟨hc, e⟩ := R.of_if e
      exact dic r1 r2 rfl hc (by cases e; rfl)
    · rename_i d n1 n2
      obtain ⟨xs, hs, e⟩ := R.bind_ok e
      obtain ⟨hc, e⟩ := R.of_if e
      cases e
      simp only [Bool.and_eq_true] at hc
      obtain ⟨as, ra⟩ : ∃ as, Reads s.heap v d as := r1.reads I (okD_plain hc.1) rx
      have hp : PyData.plainAll xs = true := by simpa [PyData.plain] using okD_plain hc.2
      have d1 : d.depth ≤ 60 := okD_depth hc.1
      have hm : min (PyData.depthAll xs) d.depth ≤ d.depth := Nat.min_le_right _ _
      have r2' := r2
      obtain ⟨a, vs, rfl, rv, hq⟩ := r2.seq hs
      cases ry
      rcases hq with hq | ⟨hq, e3⟩
      · obtain ⟨bs, rb⟩ := Dp.reads I (.list xs) (.ref a) (.ref a) (.lst hq (rv.dp hp)) rfl
        exact SeqAt.in_list_data rb ra hp (okD_plain hc.1) (by omega) ⟨.bl _, H, I, rfl, q _ _ (.pure (.bl _))⟩
      · obtain ⟨bs, rb⟩ := Dp.reads I (.tuple xs) (.ref a) (.ref a) (.tup hq (rv.dp hp)) rfl
        exact SeqAt.in_tuple_data rb ra hp (okD_plain hc.1) (by omega) ⟨.bl _, H, I, rfl, q _ _ (.pure (.bl _))⟩
    · cases e
  | nin =>
    intro pins s σ H x y v u Q I rx ry ⟨Z, ma, mb, m, O1, O2, zh, r1, r2, e, q⟩
    obtain ⟨c, e1, e2⟩ := R.bind_ok e
    cases e2; clear e; have e := e1; clear e1
    have dic : ∀ {d : D} {kvs : List (D × D)} {O1 O2 : List Addr}, RM (wd X) Z H x (.pu d) O1 → RM (wd X) Z H y mb O2 → mb.dic = .ok kvs → keyFit kvs d = true → c = (!(dLook kvs d).isSome) →
        wpAny (model X.prog X.w) X.A (compareOp .NotIn v u) (EP X pins σ Q) X.xe s := fun {d kvs O1 O2} r1 r2 hd hk e => by
      obtain ⟨k, rfl, rfl⟩ := keyFit_key hk r1
      obtain ⟨a, ks, rfl, ha, rk⟩ := r2.dic hd
      cases ry
      refine d_notIn (by omega) I (DGet.k ha) rx fun s' I' => ⟨.bl _, H, I', rfl, ?_⟩
      rw [rk.isSome k, ← e]
      exact q _ _ (.pure (.bl _))
    unfold cmpD at e
    simp only at e
    split at e
    · rename_i d kvs
      obtain ⟨hc, e⟩ := R.of_if e
      exact dic r1 r2 rfl hc (by cases e; rfl)
    · rename_i d kvs
      obtain ⟨hc, e⟩ := R.of_if e
      exact dic r1 r2 rfl hc (by cases e; rfl)
    · rename_i d n1 n2
      obtain ⟨xs, hs, e⟩ := R.bind_ok e
      obtain ⟨hc, e⟩ := R.of_if e
      cases e
      simp only [Bool.and_eq_true] at hc
      obtain ⟨as, ra⟩ : ∃ as, Reads s.heap v d as := r1.reads I (okD_plain hc.1) rx
      have hp : PyData.plainAll xs = true := by simpa [PyData.plain] using okD_plain hc.2
      have d1 : d.depth ≤ 60 := okD_depth hc.1
      have hm : min (PyData.depthAll xs) d.depth ≤ d.depth := Nat.min_le_right _ _
      obtain ⟨a, vs, rfl, rv, hq⟩ := r2.seq hs
      cases ry
      rcases hq with hq | ⟨hq, e3⟩
      · obtain ⟨bs, rb⟩ := Dp.reads I (.list xs) (.ref a) (.ref a) (.lst hq (rv.dp hp)) rfl
        exact SeqAt.notIn_list_data rb ra hp (okD_plain hc.1) (by omega) ⟨.bl _, H, I, rfl, q _ _ (.pure (.bl _))⟩
      · obtain ⟨bs, rb⟩ := Dp.reads I (.tuple xs) (.ref a) (.ref a) (.tup hq (rv.dp hp)) rfl
        exact SeqAt.notIn_tuple_data rb ra hp (okD_plain hc.1) (by omega) ⟨.bl _, H, I, rfl, q _ _ (.pure (.bl _))⟩
    · cases e
end
end TR

set_option Elab.async false
set_option linter.all false
set_option maxHeartbeats 4000000
/-! builtins of one and two values -/
namespace TR
open PySem PySem.Spec PyProof.Rows L2

def rB1 (B : Wd) (f : M → R M) : List V → Hp → VK → Prop := fun xs H Q => ∃ x Z ma m O, xs = [x] ∧ (∀ a, Z a → H a ≠ none) ∧ RM B Z H x ma O ∧ f ma = .ok m ∧ ∀ v H', New B Z H m v H' → Q v H'
def rB2 (B : Wd) (f : M → M → R M) : List V → Hp → VK → Prop := fun xs H Q => ∃ x y Z ma mb m O1 O2, xs = [x, y] ∧ (∀ a, Z a → H a ≠ none) ∧ RM B Z H x ma O1 ∧ RM B Z H y mb O2 ∧ f ma mb = .ok m ∧ ∀ v H', New B Z H m v H' → Q v H'

section
variable {B : Wd} {Z : Zn} {H : Hp}
theorem RM.lst {v : V} {m : M} {O : List Addr} (r : RM B Z H v m O) {xs : List D} (e : m.lst = .ok xs) : ∃ a vs, v = .ref a ∧ RpL B Z H vs xs ∧ SqL B.K H a vs := by
  cases r with
  | pu h =>
    cases h with
    | lst z h r => simp [M.lst] at e; subst e; exact ⟨_, _, rfl, r, .inl h⟩
    | lsK h r => simp [M.lst] at e; subst e; exact ⟨_, _, rfl, r, .inr h⟩
    | _ => simp [M.lst] at e
  | li h r => simp [M.lst] at e; subst e; exact ⟨_, _, rfl, r, .inl (.of h)⟩
  | _ => simp [M.lst] at e
theorem RM.sq {v : V} {m : M} {O : List Addr} (r : RM B Z H v m O) {xs : List D} (e : m.seq = .ok xs) : ∃ a vs, v = .ref a ∧ RpL B Z H vs xs ∧ (SqL B.K H a vs ∨ SqT B.K H a vs) := by
  obtain ⟨a, vs, h1, h2, h3⟩ := r.seq e
  exact ⟨a, vs, h1, h2, h3.elim (fun h => .inl h) fun h => .inr h.1⟩
theorem RpL.ints {vs : List V} : ∀ {is : List Int}, RpL B Z H vs (is.map .int) → vs = is.map .int := by
  intro is
  induction is generalizing vs with
  | nil => intro h; cases h; rfl
  | cons i is ih => intro h; cases h with | cons h r => cases h; rw [ih r]; rfl
theorem RpL.boos {vs : List V} : ∀ {is : List Bool}, RpL B Z H vs (is.map .bool) → vs = is.map .bl := by
  intro is
  induction is generalizing vs with
  | nil => intro h; cases h; rfl
  | cons i is ih => intro h; cases h with | cons h r => cases h; rw [ih r]; rfl
theorem RKV.keys {ks : List (Key × V)} : ∀ {kvs : List (D × D)}, RKV B Z H ks kvs → RpL B Z H (ks.map fun kv => kV kv.1) (kvs.map (·.1)) := by
  intro kvs
  induction kvs generalizing ks with
  | nil => intro h; cases h; exact .nil
  | cons kv kvs ih =>
    intro h
    cases h with | cons h r =>
    rename_i k v ks d
    refine .cons ?_ (ih r)
    cases k
    · exact .int _
    · exact .str _
theorem RKV.length {ks : List (Key × V)} {kvs : List (D × D)} (h : RKV B Z H ks kvs) : ks.length = kvs.length := by
  have := h.keys.length
  simpa using this
end
theorem sumD_ints : ∀ {xs : List D} {a i : Int}, sumD a xs = .ok i → ∃ is : List Int, xs = is.map .int ∧ i = a + is.sum := by
  intro xs
  induction xs with
  | nil => intro a i h; simp [sumD] at h; exact ⟨[], rfl, by simp [h]⟩
  | cons x xs ih =>
    intro a i h
    cases x <;> simp only [sumD] at h <;> try (cases h)
    obtain ⟨is, rfl, rfl⟩ := ih h
    exact ⟨_ :: is, rfl, by simp only [List.sum_cons]; omega⟩
theorem boolsD_bools : ∀ {xs : List D} {bs : List Bool}, boolsD xs = .ok bs → xs = bs.map .bool := by
  intro xs
  induction xs with
  | nil => intro bs h; simp [boolsD] at h; subst h; rfl
  | cons x xs ih =>
    intro bs h
    cases x <;> simp only [boolsD] at h <;> try (cases h)
    obtain ⟨cs, h1, h2⟩ := R.bind_ok h
    cases h2
    rw [ih h1]; rfl
theorem okD_tup {xs : List D} (h : okD (.tuple xs) = true) : PyData.plainAll xs = true ∧ PyData.depthAll xs ≤ 60 := by
  refine ⟨by simpa [PyData.plain] using okD_plain h, ?_⟩
  have := okD_depth h
  rw [depth_tuple] at this
  omega
theorem cmpAll_alike {xs : List D} (h : cmpAll xs = true) : W.AlikeAll xs ∧ PyData.plainAll xs = true ∧ PyData.depthAll xs ≤ 60 := by
  unfold cmpAll at h
  simp only [Bool.and_eq_true, List.all_eq_true] at h
  obtain ⟨⟨h1, h2⟩, h3⟩ := h
  refine ⟨⟨fun x hx y hy => h1 x hx y hy, fun x hx e => ?_⟩, okD_tup h3⟩
  subst e
  cases h2 _ hx
theorem plain_at : ∀ {xs : List D} {x : D}, PyData.plainAll xs = true → x ∈ xs → x.plain = true
  | y :: ys, x, h, m => by
    simp only [PyData.plainAll, Bool.and_eq_true] at h
    rcases List.mem_cons.mp m with e | m
    · subst e; exact h.1
    · exact plain_at h.2 m

section
variable {X : Cx}
theorem cr_len : CallR X (.builtin "len") (rB1 (wd X) lenD) := by
  intro pins s σ H xs us Q I rv ⟨x, Z, ma, m, O, ex, zh, r, e, q⟩
  subst ex
  have seq : ∀ {ys : List D}, ma.seq = .ok ys → m = .pu (.int ys.length) → wpAny (model X.prog X.w) X.A (call (.builtin "len") us) (EP X pins σ Q) X.xe s := fun {ys} es em => by
    obtain ⟨a, vs, rfl, rl, h⟩ := r.sq es
    subst em
    refine call_len_seq pins s σ H _ us Q I rv ⟨a, vs, rfl, h, ?_⟩
    rw [rl.length]
    exact q _ _ (.pure (.int _))
  have dict : ∀ {ys : List (D × D)}, ma.dic = .ok ys → m = .pu (.int ys.length) → wpAny (model X.prog X.w) X.A (call (.builtin "len") us) (EP X pins σ Q) X.xe s := fun {ys} es em => by
    obtain ⟨a, ks, rfl, h, rk⟩ := r.dic es
    subst em
    cases rv with | cons h1 h2 =>
    cases h2
    cases (show _ = Value.ref a from h1)
    refine d_len I (.of h) fun t s' I' => ⟨.int ks.length, H, I', ⟨t, rfl⟩, ?_⟩
    rw [rk.length]
    exact q _ _ (.pure (.int _))
  unfold lenD at e
  split at e
  · cases r with | nl h rn =>
    cases e
    refine call_len_seq pins s σ H _ us Q I rv ⟨_, _, rfl, .inl (.inl (.of h)), ?_⟩
    have := (rn.view (Z' := fun a => Z a ∨ a ∈ _) (fun a z => .inl z) fun a h => .inr h).length
    rw [this, List.length_map]
    exact q _ _ (.pure (.int _))
  · cases e; exact dict rfl rfl
  · obtain ⟨hc, e⟩ := R.of_if e
    cases e
    have := r.str; subst this
    exact call_len_str pins s σ H _ us Q I rv ⟨_, rfl, by rw [← big_eq]; exact hc, q _ _ (.pure (.int _))⟩
  · cases e; exact dict rfl rfl
  · cases e; exact seq rfl rfl
  · cases e; exact seq rfl rfl
  · cases e; exact seq rfl rfl
  · cases e
theorem best_at {id : String} {f : D → List D → D}
    (hl : ∀ (s : Shared) (l : Addr) (vs : Array Value) (x : D) (xs : List D) (as : List Addr) (Q : Value → Shared → Prop), s.heap.IsList l vs → ReadsAll s.heap vs.toList (x :: xs) as → W.AlikeAll (x :: xs) → X.A.units + 1 + PyData.depthAll (x :: xs) < cLine →
      (∀ (i : Nat) v h' tk bs, vs[i]? = some v → Reads h' v (f x xs) bs → (∀ b o, s.heap.get? b = some o → h'.get? b = some o) → Q v { s with heap := h', toks := tk }) → wpAny (model X.prog X.w) X.A (call (.builtin id) [.ref l]) Q X.xe s)
    (ht : ∀ (s : Shared) (l : Addr) (vs : Array Value) (x : D) (xs : List D) (as : List Addr) (Q : Value → Shared → Prop), s.heap.IsTuple l vs → ReadsAll s.heap vs.toList (x :: xs) as → W.AlikeAll (x :: xs) → X.A.units + 1 + PyData.depthAll (x :: xs) < cLine →
      (∀ (i : Nat) v h' tk bs, vs[i]? = some v → Reads h' v (f x xs) bs → (∀ b o, s.heap.get? b = some o → h'.get? b = some o) → Q v { s with heap := h', toks := tk }) → wpAny (model X.prog X.w) X.A (call (.builtin id) [.ref l]) Q X.xe s)
    (hu : X.A.units + 100 < cLine) : CallR X (.builtin id) (rB1 (wd X) (bestD f)) := by
  intro pins s σ H xs us Q I rv ⟨x, Z, ma, m, O, ex, zh, r, e, q⟩
  subst ex
  obtain ⟨ys, e1, e2⟩ := R.bind_ok e
  split at e2
  · cases e2
  · rename_i y ys
    obtain ⟨hc, e2⟩ := R.of_if e2
    cases e2
    obtain ⟨hA, hP, hD⟩ := cmpAll_alike hc
    obtain ⟨a, vs, rfl, rl, h⟩ := r.sq e1
    cases rv with | cons h1 h2 =>
    cases h2
    cases (show _ = Value.ref a from h1)
    have fin : ∀ {its : List Value}, Vals vs its → ∀ (i : Nat) v h' tk bs, its.toArray[i]? = some v → Reads h' v (f y ys) bs → (∀ b o, s.heap.get? b = some o → h'.get? b = some o) → EP X pins σ Q v { s with heap := h', toks := tk } := by
      intro its rv i v h' tk bs hi hr hk
      have hi' : its[i]? = some v := by simpa using hi
      have hv : ∃ x, vs[i]? = some x := by
        cases z : vs[i]? with
        | none => rw [rv.none_of z] at hi'; cases hi'
        | some x => exact ⟨x, rfl⟩
      obtain ⟨x, hx⟩ := hv
      obtain ⟨u, hu1, ru⟩ := rv.get hx
      rw [hi'] at hu1; cases hu1
      obtain ⟨d, hd, rd⟩ := rl.get' hx
      have hpd := plain_at hP (List.mem_of_getElem? hd)
      obtain ⟨as, hra⟩ := rd.reads I hpd ru
      have e3 : d = f y ys := SeqAt.plain_unique d _ v _ _ hpd (PyProof.Rows.Reads.keeps hk hra) hr
      subst e3
      exact ⟨x, H, I.kept hk, ru, q _ _ (.pure rd)⟩
    rcases h with h | h
    · obtain ⟨its, rv, p, hz⟩ := I.list h
      obtain ⟨as, hr⟩ := rl.reads I hP rv
      exact hl s a its.toArray y ys as _ p.isList (by simpa using hr) hA (by omega) (fin rv)
    · obtain ⟨its, rv, p, hz⟩ := I.tuple h
      obtain ⟨as, hr⟩ := rl.reads I hP rv
      exact ht s a its.toArray y ys as _ p (by simpa using hr) hA (by omega) (fin rv)
theorem cr_bestMax (hc : X.calm = true) (hok : X.A.handled = none) (hu : X.A.units + 100 < cLine) : CallR X (.builtin "max") (rB1 (wd X) (bestD maxD)) :=
  best_at (fun s l vs x xs as Q a b c d e => W.max_list_data hok a b c d e) (fun s l vs x xs as Q a b c d e => W.max_tuple_data hok a b c d e) hu
theorem cr_bestMin (hc : X.calm = true) (hok : X.A.handled = none) (hu : X.A.units + 100 < cLine) : CallR X (.builtin "min") (rB1 (wd X) (bestD minD)) :=
  best_at (fun s l vs x xs as Q a b c d e => W.min_list_data hok a b c d e) (fun s l vs x xs as Q a b c d e => W.min_tuple_data hok a b c d e) hu
theorem cr_sumM (hc : X.calm = true) : CallR X (.builtin "sum") (rB1 (wd X) sumM) := by
  intro pins s σ H xs us Q I rv ⟨x, Z, ma, m, O, ex, zh, r, e, q⟩
  subst ex
  obtain ⟨ys, e1, e2⟩ := R.bind_ok e
  obtain ⟨i, e3, e4⟩ := R.bind_ok e2
  cases e4
  obtain ⟨is, rfl, rfl⟩ := sumD_ints e3
  obtain ⟨a, vs, rfl, rl, h⟩ := r.lst e1
  have := rl.ints; subst this
  refine cr_sum hc pins s σ H _ us Q I rv ⟨a, is, rfl, h, ?_⟩
  have := q _ _ (.pure (.int _))
  simpa using this
theorem cr_anyM (hc : X.calm = true) : CallR X (.builtin "any") (rB1 (wd X) (quaM (·.any id))) := by
  intro pins s σ H xs us Q I rv ⟨x, Z, ma, m, O, ex, zh, r, e, q⟩
  subst ex
  obtain ⟨ys, e1, e2⟩ := R.bind_ok e
  obtain ⟨bs, e3, e4⟩ := R.bind_ok e2
  cases e4
  have := boolsD_bools e3; subst this
  obtain ⟨a, vs, rfl, rl, h⟩ := r.lst e1
  have := rl.boos; subst this
  exact cr_any hc pins s σ H _ us Q I rv ⟨a, bs, rfl, h, q _ _ (.pure (.bl _))⟩
theorem cr_allM (hc : X.calm = true) : CallR X (.builtin "all") (rB1 (wd X) (quaM (·.all id))) := by
  intro pins s σ H xs us Q I rv ⟨x, Z, ma, m, O, ex, zh, r, e, q⟩
  subst ex
  obtain ⟨ys, e1, e2⟩ := R.bind_ok e
  obtain ⟨bs, e3, e4⟩ := R.bind_ok e2
  cases e4
  have := boolsD_bools e3; subst this
  obtain ⟨a, vs, rfl, rl, h⟩ := r.lst e1
  have := rl.boos; subst this
  exact cr_all hc pins s σ H _ us Q I rv ⟨a, bs, rfl, h, q _ _ (.pure (.bl _))⟩
theorem each_of {B : Wd} {Z : Zn} {H : Hp} : ∀ {vs : List V} {ds : List D} {us : List Value}, RpL B Z H vs ds → Vals vs us → W.EachIs (fun u d => ∃ v, RelV v u ∧ Rp B Z H v d) us ds := by
  intro vs ds
  induction ds generalizing vs with
  | nil => intro us h r; cases h; cases r; exact .nil
  | cons d ds ih => intro us h r; cases h with | cons h h2 => cases r with | cons r r2 => exact .cons ⟨_, r, h⟩ (ih h2 r2)
theorem of_each {B : Wd} {Z : Zn} {H : Hp} : ∀ {ds : List D} {us : List Value}, W.EachIs (fun u d => ∃ v, RelV v u ∧ Rp B Z H v d) us ds → ∃ vs, Vals vs us ∧ RpL B Z H vs ds := by
  intro ds
  induction ds with
  | nil => intro us h; cases h; exact ⟨[], .nil, .nil⟩
  | cons d ds ih =>
    intro us h
    cases h with | cons h h2 =>
    obtain ⟨v, h3, h4⟩ := h
    obtain ⟨vs, h5, h6⟩ := ih h2
    exact ⟨v :: vs, .cons h3 h5, .cons h4 h6⟩
theorem cr_sortM (hu : X.A.units + 100 < cLine) : CallR X (.builtin "sorted") (rB1 (wd X) sortM) := by
  intro pins s σ H xs us Q I rv ⟨x, Z, ma, m, O, ex, zh, r, e, q⟩
  subst ex
  have e0 : (do let xs ← ma.lst; if sortAll xs then R.ok (M.li (sortD xs)) else R.bad) = R.ok m := by
    cases ma <;> first | exact e | (cases r)
  have e := e0
  obtain ⟨ys, e1, e2⟩ := R.bind_ok e
  obtain ⟨hc, e2⟩ := R.of_if e2
  cases e2
  unfold sortAll at hc
  simp only [Bool.and_eq_true, Bool.or_eq_true, decide_eq_true_eq, List.all_eq_true] at hc
  obtain ⟨⟨hc, hk⟩, hL⟩ := hc
  obtain ⟨hA, hP, hD⟩ := cmpAll_alike hc
  obtain ⟨a, vs, rfl, rl, h⟩ := r.lst e1
  cases rv with | cons h1 h2 =>
  cases h2
  cases (show _ = Value.ref a from h1)
  obtain ⟨its, rv, p, hz⟩ := I.list h
  have hS : W.Sortable ys := by
    rcases hk with hk | hk
    · refine .inl fun d hd => ?_
      have := hk d hd
      cases d with
      | tuple zs => cases zs with
        | nil => cases this
        | cons z zs => exact ⟨z, zs, rfl⟩
      | _ => cases this
    · refine .inr fun d hd => ⟨hA.2 d hd, fun zs e => ?_⟩
      have := hk d hd
      subst e
      cases this
  have ea := each_of rl rv
  refine W.sorted_data (R := fun u d => ∃ v, RelV v u ∧ Rp (wd X) Z H v d) (enc := id) p.isList ea ?_ ?_ ?_ (by rw [← big_eq]; exact hL) (fun b hb => ?_) fun out h1 h2 => ?_
  · have : ∀ {us : List Value} {ds : List D}, PyData.plainAll ds = true → W.EachIs (fun u d => ∃ v, RelV v u ∧ Rp (wd X) Z H v d) us ds → W.EachIs (fun v b => ∃ as, Reads s.heap v (id b) as) us ds := by
      intro us ds
      induction ds generalizing us with
      | nil => intro _ h; cases h; exact .nil
      | cons d ds ih =>
        intro hp h
        simp only [PyData.plainAll, Bool.and_eq_true] at hp
        cases h with | cons h h2 =>
        obtain ⟨v, h3, h4⟩ := h
        exact .cons (h4.reads I hp.1 h3) (ih hp.2 h2)
    exact this hP ea
  · rw [List.map_id]; exact hA.1
  · rw [List.map_id]; exact hS
  · have : ∀ {ds : List D}, b ∈ ds → b.depth ≤ PyData.depthAll ds := by
      intro ds
      induction ds with
      | nil => intro h; cases h
      | cons d ds ih =>
        intro h
        simp only [PyData.depthAll]
        rcases List.mem_cons.mp h with e | h
        · subst e; exact Nat.le_max_left _ _
        · exact Nat.le_trans (ih h) (Nat.le_max_right _ _)
    have := this hb
    show X.A.units + 2 + b.depth < cLine
    omega
  · obtain ⟨ws, h3, h4⟩ := of_each h2
    obtain ⟨ep, he'⟩ := PyProof.Rows.sortedAll_at s.heap its out.toArray
    refine ⟨.ref _, upd H (s.heap.objs.size + 1) (.lst ws), I.laid (t' := s.toks) (fun _ _ => PyProof.Rows.sortedAll_old) (Nat.le_succ _) ⟨?_, out, ep, h3, he'⟩, rfl, q _ _ (.li (I.hok.fresh (Nat.le_succ _)) h4)⟩
    rw [h3.length, h1, ← big_eq]
    exact hL
theorem cr_listM (hc : X.calm = true) : CallR X (.type "list") (rB1 (wd X) listM) := by
  intro pins s σ H xs us Q I rv ⟨x, Z, ma, m, O, ex, zh, r, e, q⟩
  subst ex
  have dict : ∀ {ys : List (D × D)}, ma.dic = .ok ys → m = .li (ys.map (·.1)) → wpAny (model X.prog X.w) X.A (call (.type "list") us) (EP X pins σ Q) X.xe s := fun {ys} es em => by
    obtain ⟨a, ks, rfl, h, rk⟩ := r.dic es
    subst em
    exact call_listD hc pins s σ H _ us Q I rv ⟨a, ks, rfl, .of h, fun p hp => q _ _ (.li hp rk.keys)⟩
  unfold listM at e
  split at e
  · cases e; exact dict rfl rfl
  · cases e; exact dict rfl rfl
  · obtain ⟨ys, h1, h2⟩ := R.bind_ok e
    cases h2
    obtain ⟨a, vs, rfl, rl, h⟩ := r.sq h1
    exact call_list_of pins s σ H _ us Q I rv ⟨a, vs, rfl, h, fun p hp => q _ _ (.li hp rl)⟩
theorem cr_tupM : CallR X (.type "tuple") (rB1 (wd X) tupM) := by
  intro pins s σ H xs us Q I rv ⟨x, Z, ma, m, O, ex, zh, r, e, q⟩
  subst ex
  obtain ⟨ys, h1, h2⟩ := R.bind_ok e
  cases h2
  obtain ⟨a, vs, rfl, rl, h⟩ := r.sq h1
  refine call_tuple_of pins s σ H _ us Q I rv ⟨a, vs, rfl, ?_⟩
  rcases h with h | h
  · exact .inl ⟨h, fun p hp => q _ _ (.tup hp rl)⟩
  · exact .inr ⟨h, q _ _ (.pure (.tup h rl))⟩
theorem cr_intM : CallR X (.type "int") (rB1 (wd X) intM) := by
  intro pins s σ H xs us Q I rv ⟨x, Z, ma, m, O, ex, zh, r, e, q⟩
  subst ex
  unfold intM at e
  split at e
  · cases e; have := r.int; subst this
    exact call_int1 pins s σ H _ us Q I rv (.inl ⟨_, rfl, q _ _ (.pure (.int _))⟩)
  · cases e; have := r.boo; subst this
    exact call_int1 pins s σ H _ us Q I rv (.inr ⟨_, rfl, q _ _ (.pure (.int _))⟩)
  · cases e
theorem cr_boolM : CallR X (.type "bool") (rB1 (wd X) (bi1 .bool)) := by
  intro pins s σ H xs us Q I rv ⟨x, Z, ma, m, O, ex, zh, r, e, q⟩
  subst ex
  simp only [bi1] at e
  split at e
  · cases e; have := r.int; subst this
    exact call_bool1 pins s σ H _ us Q I rv (.inl ⟨_, rfl, q _ _ (.pure (.bl _))⟩)
  · cases e
theorem cr_strM : CallR X (.type "str") (rB1 (wd X) (bi1 .str)) := by
  intro pins s σ H xs us Q I rv ⟨x, Z, ma, m, O, ex, zh, r, e, q⟩
  subst ex
  simp only [bi1] at e
  split at e
  · obtain ⟨hc, e⟩ := R.of_if e
    cases e; have := r.int; subst this
    exact call_str_int pins s σ H _ us Q I rv ⟨_, rfl, hc, q _ _ (.pure (.str _))⟩
  · cases e
theorem cr_absM : CallR X (.builtin "abs") (rB1 (wd X) (bi1 .abs)) := by
  intro pins s σ H xs us Q I rv ⟨x, Z, ma, m, O, ex, zh, r, e, q⟩
  subst ex
  simp only [bi1] at e
  split at e
  · cases e; have := r.int; subst this
    exact call_abs pins s σ H _ us Q I rv ⟨_, rfl, q _ _ (.pure (.int _))⟩
  · cases e
theorem cr_max2M (hc : X.calm = true) : CallR X (.builtin "max") (rB2 (wd X) (bi2 .max)) := by
  intro pins s σ H xs us Q I rv ⟨x, y, Z, ma, mb, m, O1, O2, ex, zh, r, r2, e, q⟩
  subst ex
  unfold bi2 at e
  split at e
  · cases e; have := r.int; subst this; have := r2.int; subst this
    exact call_max2 hc pins s σ H _ us Q I rv ⟨_, _, rfl, q _ _ (.pure (.int _))⟩
  · rename_i h; cases h
  · cases (by assumption : Bi.max = Bi.set)
  · cases e
theorem cr_min2M (hc : X.calm = true) : CallR X (.builtin "min") (rB2 (wd X) (bi2 .min)) := by
  intro pins s σ H xs us Q I rv ⟨x, y, Z, ma, mb, m, O1, O2, ex, zh, r, r2, e, q⟩
  subst ex
  unfold bi2 at e
  split at e
  · rename_i h; cases h
  · cases e; have := r.int; subst this; have := r2.int; subst this
    exact call_min2 hc pins s σ H _ us Q I rv ⟨_, _, rfl, q _ _ (.pure (.int _))⟩
  · cases (by assumption : Bi.min = Bi.set)
  · cases e

/-! ### isinstance -/
def tyName : Ty → String
  | .non => "NoneType"
  | .bool => "bool"
  | .int => "int"
  | .str => "str"
  | .list => "list"
  | .tuple => "tuple"
  | .dict => "dict"
theorem RM.ty {B : Wd} {Z : Zn} {H : Hp} {v : V} {m : M} {O : List Addr} (r : RM B Z H v m O) : TyX B.K H v (.type (tyName (tyD m))) := by
  cases r with
  | pu h =>
    cases h with
    | non => exact .base .non
    | bl b => exact .base (.bl b)
    | int i => exact .base (.int i)
    | str x => exact .base (.str x)
    | tup h r =>
      rcases h with (h | ⟨o, h⟩) | ⟨o, its, n, hk, hc, _⟩
      · exact .base (.tup h)
      · exact .fTuple h
      · exact .kTuple hk hc
    | lst z h r =>
      rcases h with h | ⟨o, h⟩
      · exact .base (.lst h)
      · exact .base (.frz h)
    | lsK h r => obtain ⟨o, its, n, hk, hc, _⟩ := h; exact .kList hk hc
    | dK z h r => exact .base (.dK h)
  | li h r => exact .base (.lst h)
  | nl h r => exact .base (.lst h)
  | dK h r => exact .base (.dK h)
theorem kit_all (a b : Ty) (hb : b ≠ .non) : kitB (tyName a) (tyName b) = some (decide (a = b) || (decide (a = .bool) && decide (b = .int))) := by
  cases a <;> cases b <;> first | exact absurd rfl hb | (simp only [tyName]; decide +kernel)
end
end TR

set_option Elab.async false
set_option linter.all false
set_option maxHeartbeats 4000000
/-! items, slices, methods -/
namespace TR
open PySem PySem.Spec PyProof.Rows L2

/-- an item: data, or one of a list's own lists -/
def rSub (B : Wd) : R2 := fun x y H Q => ∃ Z ma mb m O1 O2, (∀ a, Z a → H a ≠ none) ∧ RM B Z H x ma O1 ∧ RM B Z H y mb O2 ∧ subD ma mb = .ok m ∧
  ∀ v, (∃ O, RM B Z H v m O ∧ (∀ a ∈ O, a ∈ O1) ∧ O.length ≤ 1 ∧ (ma.isNl = false → O = [])) → Q v H
theorem ixOf_eq (n : Nat) (i : Int) : ixOf n i = ixN n i := rfl
theorem slIx_eq (n d : Nat) (o : Option Int) : slIx n d o = HT.sIx n d o := by
  cases o with
  | none => rfl
  | some i =>
    show (if 0 ≤ i then min i.toNat n else (i + n).toNat) = if i < 0 then (i + (n : Int)).toNat else min i.toNat n
    by_cases h : 0 ≤ i
    · rw [if_pos h, if_neg (by omega)]
    · rw [if_neg h, if_pos (by omega)]
section
variable {B : Wd} {Z : Zn} {H : Hp}
theorem RpL.atI {vs : List V} {ds : List D} (h : RpL B Z H vs ds) {i : Int} {d : D} (e : atD ds i = .ok d) : ∃ v, L2.atI vs i = some v ∧ Rp B Z H v d := by
  unfold atD at e
  rw [ixOf_eq, ← h.length] at e
  unfold L2.atI
  cases q : ixN vs.length i with
  | none => rw [q] at e; cases e
  | some j =>
    rw [q] at e
    simp only [Option.bind_some] at e ⊢
    cases w : ds[j]? with
    | none => rw [w] at e; cases e
    | some d' =>
      rw [w] at e
      cases e
      exact h.get w
theorem RpL.cut {vs : List V} {ds : List D} (h : RpL B Z H vs ds) (lo hi : Option Int) : RpL B Z H (cutV vs lo hi) (cutD ds lo hi) := by
  unfold cutV cutD
  rw [slIx_eq, slIx_eq, h.length]
  exact (h.drop _).take _
theorem RN.at : ∀ {vs : List V} {dss : List (List D)} {O : List Addr}, RN B Z H vs dss O → ∀ {j : Nat} {xs : List D}, dss[j]? = some xs → ∃ a ws, vs[j]? = some (.ref a) ∧ O[j]? = some a ∧ H a = some (.lst ws) ∧ RpL B Z H ws xs
  | _, _, _, .nil, j, xs, e => by simp at e
  | _, _, _, .cons h r t, 0, xs, e => by simp at e; subst e; exact ⟨_, _, rfl, rfl, h, r⟩
  | _, _, _, .cons h r t, j + 1, xs, e => by simpa using RN.at t (by simpa using e)
theorem RN.length : ∀ {vs : List V} {dss : List (List D)} {O : List Addr}, RN B Z H vs dss O → vs.length = dss.length
  | _, _, _, .nil => rfl
  | _, _, _, .cons _ _ t => by simp [RN.length t]
end
section
variable {X : Cx}
theorem tail_of {value slice : Expr} {T id : String} {o i : Value} {s : Shared} {E : Value → Shared → Prop} {Q : Value → Shared → Prop} (hl : typeLookup (.type T) "__getitem__" = pure (some (.builtin id)))
    (hs : subscripted slice false o i = operate [o, i] (getItem o i)) (hT : s.TypeIs o T) (h : wpAny (model X.prog X.w) X.A (getItem o i) Q E s) : wpAny (model X.prog X.w) X.A (subscriptTail value slice o i) Q E s := by
  unfold subscriptTail
  refine wpAny_bind ?_
  rw [getitemInPython_of_ne hT.not_modules]
  have fin : wpAny (model X.prog X.w) X.A (subscripted slice false o i) (fun r s3 => wpAny (model X.prog X.w) X.A (do letTemporaryGo value o r; pure r) Q E s3) E s := by
    rw [hs]
    exact wpAny_operating (wpAny_mono h (fun r s3 h3 => wpAny_bind (wpAny_letTemporaryGo (wpAny_pure h3))) fun _ _ z => z)
  refine wpAny_bind (wpAny_specialOf hT hl ?_)
  first
    | exact wpAny_bind (wpAny_pure (wpAny_bind fin))
    | exact wpAny_pure (wpAny_bind fin)
    | exact wpAny_bind fin
theorem ix_dic (hu : X.A.units + 100 < cLine) : IxR X (fun x y H Q => ∃ a v, x = .ref a ∧ DGet H a y (some v) ∧ Q v H) := by
  intro value slice pins s σ H x y v u Q I rx ry ⟨a, z, ex, g, q⟩ hs
  subst ex
  cases (show v = Value.ref a from rx)
  exact tail_of PySem.F.slot_dict_getitem.lookup hs (dict_typeIs I g) (d_getItem (by omega) I g ry fun w' s3 I3 rw' => ⟨z, H, I3, rw', q⟩)
theorem ix_sub (hu : X.A.units + 100 < cLine) : IxR X (rSub (wd X)) := by
  intro value slice pins s σ H x y v u Q I rx ry ⟨Z, ma, mb, m, O1, O2, zh, r1, r2, e, q⟩ hs
  have dic : ∀ {kvs : List (D × D)} {k : D} {O2 : List Addr}, ma.dic = .ok kvs → RM (wd X) Z H y (.pu k) O2 → keyFit kvs k = true → (do
      let v ← R.ofOpt (dLook kvs k)
      R.ok (M.pu v)) = .ok m → wpAny (model X.prog X.w) X.A (subscriptTail value slice v u) (EP X pins σ Q) X.xe s := fun {kvs k O2} hd r2 hk e => by
    obtain ⟨d, h1, h2⟩ := R.bind_ok e
    cases h2
    obtain ⟨k, rfl, rfl⟩ := keyFit_key hk r2
    obtain ⟨a, ks, rfl, ha, rk⟩ := r1.dic hd
    rcases rk.look k with ⟨w, d', h3, h4, h5⟩ | ⟨h3, h4⟩
    · rw [h4] at h1
      cases h1
      refine ix_dic hu value slice pins s σ H _ _ v u Q I rx ry ⟨a, w, rfl, ?_, q _ ⟨[], .pu h5, by simp, by simp, fun _ => rfl⟩⟩ hs
      rw [← h3]
      exact DGet.k ha
    · rw [h4] at h1; cases h1
  unfold subD at e
  split at e
  · obtain ⟨hk, e⟩ := R.of_if e
    exact dic rfl r2 hk e
  · obtain ⟨hk, e⟩ := R.of_if e
    exact dic rfl r2 hk e
  · obtain ⟨ys, h1, h2⟩ := R.bind_ok e
    cases h2
    have := r2.int; subst this
    cases r1 with | nl h rn =>
    rename_i xss i a vs O
    rw [ixOf_eq] at h1
    cases hj : ixN xss.length i with
    | none => rw [hj] at h1; cases h1
    | some j =>
      rw [hj] at h1
      simp only [Option.bind_some] at h1
      cases hx : xss[j]? with
      | none => rw [hx] at h1; cases h1
      | some zs =>
        rw [hx] at h1
        cases h1
        obtain ⟨b, ws, h3, h4, h5, h6⟩ := rn.at hx
        refine ix_seq value slice pins s σ H _ _ v u Q I rx ry (.inl ⟨a, vs, i, .ref b, rfl, rfl, .inl (.of h), ?_, q _ ⟨[b], .li h5 h6, fun c hc => ?_, by simp, fun z => by simp [M.isNl] at z⟩⟩) hs
        · unfold L2.atI
          rw [rn.length, hj]
          exact h3
        · simp at hc; subst hc
          exact List.mem_cons_of_mem _ (List.mem_of_getElem? h4)
  · rename_i i n1 n2 n3
    obtain ⟨ys, h1, h2⟩ := R.bind_ok e
    obtain ⟨d, h3, h4⟩ := R.bind_ok h2
    cases h4
    have := r2.int; subst this
    obtain ⟨a, vs, rfl, rl, h⟩ := r1.sq h1
    obtain ⟨w, h5, h6⟩ := rl.atI h3
    have hq := q w ⟨[], .pu h6, by simp, by simp, fun _ => rfl⟩
    rcases h with h | h
    · exact ix_seq value slice pins s σ H _ _ v u Q I rx ry (.inl ⟨a, vs, i, w, rfl, rfl, h, h5, hq⟩) hs
    · exact ix_seq value slice pins s σ H _ _ v u Q I rx ry (.inr (.inl ⟨a, vs, i, w, rfl, rfl, h, h5, hq⟩)) hs
  · cases e
/-- slices -/
def rSlc (B : Wd) : V → Option Int → Option Int → Hp → VK → Prop := fun x lo hi H Q => ∃ Z ma m O, (∀ a, Z a → H a ≠ none) ∧ RM B Z H x ma O ∧ slcD ma lo hi = .ok m ∧ ∀ v H', New B Z H m v H' → Q v H'
theorem cut_whole (xs : List D) (lo hi : Option Int) (h : HT.sIx xs.length 0 lo = 0 ∧ HT.sIx xs.length xs.length hi = xs.length) : cutD xs lo hi = xs := by
  unfold cutD
  rw [slIx_eq, slIx_eq, h.1, h.2]
  simp
theorem sl_slc : SlR X (rSlc (wd X)) := by
  intro pins s σ H x v vl vu lo hi sl Q I rx hs pl pu ⟨Z, ma, m, O, zh, r, e, q⟩
  unfold slcD at e
  split at e
  · rename_i xs
    cases e
    obtain ⟨a, vs, rfl, h, rl⟩ := r.tup
    refine sl_tupA pins s σ H _ v vl vu lo hi sl Q I rx hs pl pu ⟨a, vs, rfl, h, fun hw => ?_, fun hw p hp => q _ _ (.tup hp (rl.cut lo hi))⟩
    rw [rl.length] at hw
    rw [cut_whole xs lo hi hw] at q
    exact q _ _ (.pure (.tup h rl))
  · rename_i n1
    obtain ⟨ys, h1, h2⟩ := R.bind_ok e
    cases h2
    obtain ⟨a, vs, rfl, rl, h⟩ := r.seq h1
    rcases h with h | ⟨_, h⟩
    · exact sl_list pins s σ H _ v vl vu lo hi sl Q I rx hs pl pu ⟨a, vs, rfl, h, fun p hp => q _ _ (.li hp (rl.cut lo hi))⟩
    · exact (n1 _ h).elim

/-! methods of lists -/
def rM1 (B : Wd) (f : M → M → R M) : V → List V → Hp → VK → Prop := fun x xs H Q => ∃ y Z ma mb m O1 O2, xs = [y] ∧ (∀ a, Z a → H a ≠ none) ∧ RM B Z H x ma O1 ∧ RM B Z H y mb O2 ∧ f ma mb = .ok m ∧ ∀ v H', New B Z H m v H' → Q v H'
theorem shaped_plain {d : D} (h : SeqAt.shaped d = true) : d.plain = true := PyData.plain_of_canLay0 d (SeqAt.canLay_of_shaped h)
theorem mt_indexM (hu : X.A.units + 100 < cLine) : MtR X "list.index" (rM1 (wd X) idxM) := by
  intro pins s σ H x xs v us Q I rx rxs ⟨y, Z, ma, mb, m, O1, O2, exs, zh, r1, r2, e, q⟩
  subst exs
  unfold idxM at e
  split at e
  case h_2 => cases e
  rename_i d
  obtain ⟨ys, h1, h2⟩ := R.bind_ok e
  obtain ⟨hc, h3⟩ := R.of_if h2
  simp only [Bool.and_eq_true] at hc
  cases hi : idxD ys d with
  | none => rw [hi] at h3; cases h3
  | some j =>
    rw [hi] at h3
    cases h3
    obtain ⟨a, vs, rfl, rl, h⟩ := r1.lst h1
    obtain ⟨hj, h4, h5⟩ := List.findIdx?_eq_some_iff_getElem.mp hi
    refine mt_indexD (by omega) pins s σ H _ _ v us Q I rx rxs ⟨a, y, d, ys, j, ys[j], rfl, rfl, .lst h (rl.dp (by simpa [PyData.plain] using shaped_plain hc.2)), r2.dp (m := .pu d) (shaped_plain hc.1), hc.2, hc.1, List.getElem?_eq_getElem hj, h4, fun m z' hm hz => ?_, q _ _ (.pure (.int _))⟩
    have hl : m < ys.length := by omega
    rw [List.getElem?_eq_getElem hl] at hz
    cases hz
    simpa using h5 m hm
theorem mt_countM (hu : X.A.units + 100 < cLine) : MtR X "list.count" (rM1 (wd X) cntM) := by
  intro pins s σ H x xs v us Q I rx rxs ⟨y, Z, ma, mb, m, O1, O2, exs, zh, r1, r2, e, q⟩
  subst exs
  unfold cntM at e
  split at e
  case h_2 => cases e
  rename_i d
  obtain ⟨ys, h1, h2⟩ := R.bind_ok e
  obtain ⟨hc, h3⟩ := R.of_if h2
  cases h3
  simp only [Bool.and_eq_true] at hc
  obtain ⟨a, vs, rfl, rl, h⟩ := r1.lst h1
  cases (show v = Value.ref a from rx)
  cases rxs with | cons ry rt =>
  cases rt
  obtain ⟨hp, hd⟩ := okD_tup hc.2
  obtain ⟨its, rv, p, hz⟩ := I.list h
  obtain ⟨as, hr⟩ := rl.reads I hp rv
  obtain ⟨bs, hb⟩ := r2.reads I (okD_plain hc.1) ry
  have hm : min (PyData.depthAll ys) (M.toD (.pu d)).depth ≤ PyData.depthAll ys := Nat.min_le_left _ _
  exact SeqAt.count_list_data p.isList (by simpa using hr) hb hp (okD_plain hc.1) (by omega) ⟨.int _, H, I.tok _, ⟨_, rfl⟩, q _ _ (.pure (.int _))⟩
end
end TR

set_option Elab.async false
set_option linter.all false
set_option maxHeartbeats 4000000
/-! readings by runs; the parts of expressions -/
namespace TR
open PySem PySem.Spec PyProof.Rows L2

section
variable {B : Wd} {Z Z' Z0 : Zn} {H H' H0 : Hp} {σ : L2.St} {env env' env0 env1 env2 : Env} {Os Os' Os0 : List (List Addr)} {mu mu1 mu2 : List Nat} {v : V} {m : M} {d : D}

/-- behind a value that is data -/
def TPost (B : Wd) (mu : List Nat) (σ : L2.St) (Z : Zn) (H : Hp) (env : Env) (Os : List (List Addr)) (d : D) (env' : Env) (v : V) (H' : Hp) : Prop :=
  ∃ Z' Os', Sat B Z' σ H' env' Os' ∧ Step mu Z H env Os Z' H' env' Os' ∧ Rp B Z' H' v d
def Tx (B : Wd) (mu : List Nat) (run : Env → R (D × Env)) : TE := fun σ H Q =>
  ∃ Z env Os, Sat B Z σ H env Os ∧ ∃ d env', run env = .ok (d, env') ∧ ∀ v H', TPost B mu σ Z H env Os d env' v H' → Q v H'
/-- behind a list of data -/
def LPost (B : Wd) (mu : List Nat) (σ : L2.St) (Z : Zn) (H : Hp) (env : Env) (Os : List (List Addr)) (ds : List D) (env' : Env) (vs : List V) (H' : Hp) : Prop :=
  ∃ Z' Os', Sat B Z' σ H' env' Os' ∧ Step mu Z H env Os Z' H' env' Os' ∧ RpL B Z' H' vs ds
def Lx (B : Wd) (mu : List Nat) (run : Env → R (List D × Env)) : TA := fun σ H Q =>
  ∃ Z env Os, Sat B Z σ H env Os ∧ ∃ ds env', run env = .ok (ds, env') ∧ ∀ vs H', LPost B mu σ Z H env Os ds env' vs H' → Q vs H'
/-- behind a test -/
def BPost (B : Wd) (mu : List Nat) (σ : L2.St) (Z : Zn) (H : Hp) (env : Env) (Os : List (List Addr)) (env' : Env) (H' : Hp) : Prop :=
  ∃ Z' Os', Sat B Z' σ H' env' Os' ∧ Step mu Z H env Os Z' H' env' Os'
def Bx (B : Wd) (mu : List Nat) (run : Env → R (Bool × Env)) : TT := fun σ H Q =>
  ∃ Z env Os, Sat B Z σ H env Os ∧ ∃ b env', run env = .ok (b, env') ∧ ∀ H', BPost B mu σ Z H env Os env' H' → Q b H'

theorem Rx.go {run : Env → R (M × List Nat × Env)} {Q : VK} (q : Sat B Z σ H env Os) {rs : List Nat} (e : run env = .ok (m, rs, env')) (h : ∀ v H', Post B mu σ Z H env Os m rs env' v H' → Q v H') : Rx B mu run σ H Q :=
  ⟨Z, env, Os, q, m, rs, env', e, h⟩
/-- a pure result as Post -/
theorem TPost.post (p : TPost B mu σ Z H env Os d env' v H') : Post B mu σ Z H env Os (.pu d) [] env' v H' := by
  obtain ⟨Z', Os', q, s, r⟩ := p
  exact ⟨Z', Os', [], q, s, .pu r, fun _ => ⟨by simpa using q.nd, fun a h => nomatch h⟩, fun h => (h rfl).elim, List.nodup_nil⟩
theorem Post.mono (p : Post B mu1 σ Z H env Os m rs env' v H') (h : ∀ i ∈ mu1, i ∈ mu) : Post B mu σ Z H env Os m rs env' v H' := by
  obtain ⟨Z', Os', O, q, s, r, ro⟩ := p
  exact ⟨Z', Os', O, q, s.mono h, r, ro⟩
theorem Post.pure (p : Post B mu σ Z H env Os (.pu d) rs env' v H') : TPost B mu σ Z H env Os d env' v H' := by
  obtain ⟨Z', Os', O, q, s, r, ro⟩ := p
  cases r with | pu r => exact ⟨Z', Os', q, s, r⟩
theorem TPost.mono (p : TPost B mu1 σ Z H env Os d env' v H') (h : ∀ i ∈ mu1, i ∈ mu) : TPost B mu σ Z H env Os d env' v H' := by
  obtain ⟨Z', Os', q, s, r⟩ := p
  exact ⟨Z', Os', q, s.mono h, r⟩
theorem BPost.mono (p : BPost B mu1 σ Z H env Os env' H') (h : ∀ i ∈ mu1, i ∈ mu) : BPost B mu σ Z H env Os env' H' := by
  obtain ⟨Z', Os', q, s⟩ := p
  exact ⟨Z', Os', q, s.mono h⟩

theorem app_sub {a b mu : List Nat} (h : ∀ i ∈ a ++ b, i ∈ mu) : (∀ i ∈ a, i ∈ mu) ∧ ∀ i ∈ b, i ∈ mu := ⟨fun i hi => h i (List.mem_append_left _ hi), fun i hi => h i (List.mem_append_right _ hi)⟩

/-- one value, then an operation -/
theorem Rx.one {r1 : Env → R (M × List Nat × Env)} {f : M → R M} {Q : VK} (q : Sat B Z σ H env Os) {ma m : M} {ra : List Nat} {e1 : Env} (h1 : r1 env = .ok (ma, ra, e1)) (h3 : f ma = .ok m)
    (h : ∀ v H', Post B mu1 σ Z H env Os m [] e1 v H' → Q v H') :
    Rx B mu1 r1 σ H fun x H1 => ∃ Z ma m O, (∀ a, Z a → H1 a ≠ none) ∧ RM B Z H1 x ma O ∧ f ma = .ok m ∧ ∀ v H', New B Z H1 m v H' → Q v H' :=
  Rx.go q h1 fun x H1 ⟨Z1, Os1, O1, q1, s1, r, ro1⟩ => ⟨Z1, ma, m, O1, q1.zh, r, h3, fun v H' n => h v H' (n.post q1 s1)⟩
/-- two values, then an operation -/
theorem Rx.two {r1 r2 : Env → R (M × List Nat × Env)} {f : M → M → R M} {Q : VK} (q : Sat B Z σ H env Os) {ma mb m : M} {ra rb : List Nat} {e1 e2 : Env} (h1 : r1 env = .ok (ma, ra, e1)) (h3 : r2 e1 = .ok (mb, rb, e2)) (ap : apart ra mu2 = true) (h5 : f ma mb = .ok m)
    (h : ∀ v H', Post B (mu1 ++ mu2) σ Z H env Os m [] e2 v H' → Q v H') :
    Rx B mu1 r1 σ H fun x H1 => Rx B mu2 r2 σ H1 fun y H2 => rOp B f x y H2 Q := by
  refine Rx.go q h1 fun x H1 ⟨Z1, Os1, O1, q1, s1, ra1, ro1⟩ => Rx.go q1 h3 fun y H2 ⟨Z2, Os2, O2, q2, s2, ra2, ro2⟩ => ?_
  exact ⟨Z2, ma, mb, m, O1, O2, q2.zh, carry q1 ra1 ro1 s2 ap, ra2, h5, fun v H' n => h v H' (n.post q2 (s1.trans s2 (fun i hi => List.mem_append_left _ hi) fun i hi => List.mem_append_right _ hi))⟩

/-! ### a value taken for good -/
/-- addresses given up: they are data now -/
theorem Sat.give {O : List Addr} (q : Sat B Z σ H env Os) (nd : (O ++ Os.flatten).Nodup) (th : ∀ a ∈ O, H a ≠ none) : Sat B (fun a => Z a ∨ a ∈ O) σ H env Os where
  len1 := q.len1
  len2 := q.len2
  val := fun i m e => let ⟨v, O', h1, h2, r⟩ := q.val i m e; ⟨v, O', h1, h2, r.stay .refl (fun a z => .inl z) fun a o _ h => h⟩
  emp := q.emp
  nd := q.nd
  nz := fun a ha z => z.elim (q.nz a ha) fun h => (List.nodup_append.mp nd).2.2 a h a ha rfl
  zh := fun a z => z.elim (q.zh a) (th a)
theorem RM.ne {v : V} {m : M} {O : List Addr} (r : RM B Z H v m O) : ∀ a ∈ O, H a ≠ none := fun a ha => by
  obtain ⟨o, e⟩ := r.there a ha
  rw [e]; simp
/-- a slot's content put another way: Os at i emptied -/
theorem flat_set_nil {Os : List (List Addr)} {i : Nat} {a : Addr} (h : a ∈ (Os.set i []).flatten) : a ∈ Os.flatten ∧ ∀ O, Os[i]? = some O → Os.flatten.Nodup → a ∉ O := by
  obtain ⟨j, O, h1, h2⟩ := mem_flat.mp h
  by_cases hj : i = j
  · subst hj
    by_cases hl : i < Os.length
    · rw [List.getElem?_set_self hl] at h1; cases h1; cases h2
    · rw [List.getElem?_eq_none (by rw [List.length_set]; omega)] at h1; cases h1
  · rw [List.getElem?_set_ne hj] at h1
    refine ⟨mem_flat.mpr ⟨j, O, h1, h2⟩, fun O' hO nd ha => ?_⟩
    exact flat_apart nd hj hO h1 ha h2
where
  flat_apart : ∀ {Os : List (List Addr)} {i j : Nat} {O O' : List Addr} {a : Addr}, Os.flatten.Nodup → i ≠ j → Os[i]? = some O → Os[j]? = some O' → a ∈ O → a ∈ O' → False
    | [], i, j, O, O', a, _, _, h, _, _, _ => by simp at h
    | P :: Os, 0, 0, _, _, _, _, hn, _, _, _, _ => hn rfl
    | P :: Os, 0, j + 1, O, O', a, nd, _, h1, h2, ha, hb => by
      simp at h1 h2; subst h1
      rw [List.flatten_cons] at nd
      exact (List.nodup_append.mp nd).2.2 a ha a (mem_flat.mpr ⟨j, O', h2, hb⟩) rfl
    | P :: Os, i + 1, 0, O, O', a, nd, _, h1, h2, ha, hb => by
      simp at h1 h2; subst h2
      rw [List.flatten_cons] at nd
      exact (List.nodup_append.mp nd).2.2 a hb a (mem_flat.mpr ⟨i, O, h1, ha⟩) rfl
    | P :: Os, i + 1, j + 1, O, O', a, nd, hn, h1, h2, ha, hb => by
      simp at h1 h2
      rw [List.flatten_cons] at nd
      exact flat_apart (List.nodup_append.mp nd).2.1 (fun e => hn (by rw [e])) h1 h2 ha hb
theorem nodup_set_nil : ∀ {Os : List (List Addr)} {i : Nat}, Os.flatten.Nodup → (Os.set i []).flatten.Nodup
  | [], i, h => by simpa using h
  | P :: Os, 0, h => by
    simp only [List.set_cons_zero, List.flatten_cons, List.nil_append]
    rw [List.flatten_cons] at h
    exact (List.nodup_append.mp h).2.1
  | P :: Os, i + 1, h => by
    simp only [List.set_cons_succ, List.flatten_cons]
    rw [List.flatten_cons] at h
    obtain ⟨h1, h2, h3⟩ := List.nodup_append.mp h
    refine List.nodup_append.mpr ⟨h1, nodup_set_nil h2, fun a ha b hb => h3 a ha b (flat_set_nil hb).1⟩
theorem getElem?_set_or {α : Type} {l : List α} {i j : Nat} {x y : α} (h : (l.set i x)[j]? = some y) : (j = i ∧ y = x ∧ i < l.length) ∨ (j ≠ i ∧ l[j]? = some y) := by
  by_cases e : i = j
  · subst e
    by_cases hl : i < l.length
    · rw [List.getElem?_set_self hl] at h; cases h; exact .inl ⟨rfl, rfl, hl⟩
    · rw [List.getElem?_eq_none (by rw [List.length_set]; omega)] at h; cases h
  · rw [List.getElem?_set_ne e] at h
    exact .inr ⟨fun z => e z.symm, h⟩
/-- a slot's own object becomes data where it is -/
theorem Sat.freeze {i : Nat} {w : M} {Oi : List Addr} (q : Sat B Z σ H env Os) (e : env[i]? = some (some w)) (eo : Os[i]? = some Oi) :
    Sat B (fun a => Z a ∨ a ∈ Oi) σ H (env.set i (some (.pu w.toD))) (Os.set i []) where
  len1 := by rw [List.length_set, List.length_set]; exact q.len1
  len2 := by rw [List.length_set]; exact q.len2
  val := fun j m h => by
    rcases getElem?_set_or h with ⟨rfl, h1, h2⟩ | ⟨hj, h1⟩
    · cases h1
      obtain ⟨v, O, h3, h4, r⟩ := q.val j w e
      rw [eo] at h4; cases h4
      exact ⟨v, [], h3, by rw [List.getElem?_set_self (by rw [q.len1]; exact h2)], .pu (r.view (fun a z => .inl z) fun a h => .inr h)⟩
    · obtain ⟨v, O, h3, h4, r⟩ := q.val j m h1
      exact ⟨v, O, h3, by rw [List.getElem?_set_ne (Ne.symm hj)]; exact h4, r.stay .refl (fun a z => .inl z) fun a o _ h => h⟩
  emp := fun j h => by
    rcases getElem?_set_or h with ⟨rfl, h1, h2⟩ | ⟨hj, h1⟩
    · cases h1
    · rw [List.getElem?_set_ne (Ne.symm hj)]; exact q.emp j h1
  nd := nodup_set_nil q.nd
  nz := fun a ha z => by
    obtain ⟨h1, h2⟩ := flat_set_nil ha
    exact z.elim (q.nz a h1) (h2 Oi eo q.nd)
  zh := fun a z => z.elim (q.zh a) fun h => q.there (mem_flat.mpr ⟨i, Oi, eo, h⟩)
theorem Step.freeze {i : Nat} {w : M} {Oi : List Addr} (hi : i ∈ mu) (q : Sat B Z' σ H' env' Os') (eo : Os'[i]? = some Oi) (s : Step mu Z H env Os Z' H' env' Os') :
    Step mu Z H env Os (fun a => Z' a ∨ a ∈ Oi) H' (env'.set i w) (Os'.set i []) where
  elen := by rw [List.length_set]; exact s.elen
  zz := fun a z => .inl (s.zz a z)
  zn := fun a z => z.elim (s.zn a) fun h => .inr (s.on a (mem_flat.mpr ⟨i, Oi, eo, h⟩))
  on := fun a ha => s.on a (flat_set_nil ha).1
  keep := s.keep
  dom := s.dom
  slot := fun j hj => by
    have hn : i ≠ j := fun e => hj (e ▸ hi)
    rw [List.getElem?_set_ne hn, List.getElem?_set_ne hn]
    exact s.slot j hj
theorem Step.give {O : List Addr} (s : Step mu Z H env Os Z' H' env' Os') (h : ∀ a ∈ O, H a = none ∨ a ∈ Os.flatten) : Step mu Z H env Os (fun a => Z' a ∨ a ∈ O) H' env' Os' :=
  ⟨s.elen, fun a z => .inl (s.zz a z), fun a z => z.elim (s.zn a) fun k => .inr (h a k), s.on, s.keep, s.dom, s.slot⟩
theorem muT_of (p : E) : (∀ i ∈ muE p, i ∈ muT p) ∧ ∀ i, p = .var i → i ∈ muT p := by
  cases p <;> first | exact ⟨fun i h => h, fun i h => by cases h⟩ | (simp [muE, muT])
theorem Env.get_ok {env : Env} {i : Nat} {m : M} (h : env.get i = .ok m) : env[i]? = some (some m) := by
  unfold Env.get at h
  split at h
  · cases h; assumption
  · cases h
theorem ev_var {G : List Fn} {i : Nat} {env env' : Env} {m : M} {rs : List Nat} (h : ev G (.var i) env = .ok (m, rs, env')) : env' = env ∧ env[i]? = some (some m) ∧ ((∃ d, m = .pu d ∧ rs = []) ∨ ((∀ d, m ≠ .pu d) ∧ rs = [i])) := by
  simp only [ev] at h
  obtain ⟨m', h1, h2⟩ := R.bind_ok h
  have := Env.get_ok h1
  split at h2
  · cases h2; exact ⟨rfl, this, .inl ⟨_, rfl, rfl⟩⟩
  · rename_i n1
    cases h2; exact ⟨rfl, this, .inr ⟨fun d hd => n1 d hd, rfl⟩⟩
/-- taking: what ev gives becomes data -/
theorem take_post {G : List Fn} {p : E} {rs : List Nat} (he : ev G p env = .ok (m, rs, env1)) (ht : takeR p (m, rs, env1) = .ok (d, env2)) (hp : Post B (muE p) σ Z H env Os m rs env1 v H') : TPost B (muT p) σ Z H env Os d env2 v H' := by
  obtain ⟨Z1, Os1, O, q, s, r, ro⟩ := hp
  have hm := (muT_of p).1
  unfold takeR at ht
  split at ht
  · rename_i d' rs' env'' heq
    cases heq; cases ht
    cases r with | pu r => exact ⟨Z1, Os1, q, s.mono hm, r⟩
  · rename_i n1 heq
    cases heq
    cases ht
    exact ⟨_, Os1, q.give (ro.1 rfl).1 r.ne, (s.mono hm).give fun a ha => ((ro.1 rfl).2 a ha).2, r.view (fun a z => .inl z) fun a h => .inr h⟩
  · rename_i n1 heq
    cases heq
    split at ht
    · rename_i i
      cases ht
      obtain ⟨e1, e2, e3⟩ := ev_var he
      cases e1
      rcases e3 with ⟨d, e4, e5⟩ | ⟨e4, e5⟩
      · cases e5
      · cases e5
        obtain ⟨w, Oi, h3, ho, hr⟩ := q.val _ m e2
        refine ⟨_, _, q.freeze e2 ho, Step.freeze ((muT_of (.var _)).2 _ rfl) q ho (s.mono hm), r.view (fun a z => .inl z) fun a ha => ?_⟩
        obtain ⟨j, hj, Oj, h1, h2⟩ := ro.2.1 (by simp) a ha
        simp at hj; subst hj
        rw [ho] at h1; cases h1
        exact .inr h2
    · cases ht
end
end TR

set_option Elab.async false
set_option linter.all false
set_option maxHeartbeats 4000000
/-! each form of an expression by its parts -/
namespace TR
open PySem PySem.Spec PyProof.Rows L2

def visB (sc : Scope) (x : Str) : Bool := match sc.names.lookup x with
  | some .local => true
  | some .cell => true
  | some .free => true
  | _ => false
def glB (sc : Scope) (x : Str) : Bool := decide (sc.names.lookup x = some .globalImplicit)
def noDbg (x : Str) : Bool := !(x == ("__debug__" : Str)) && !(x == ("__classdict__" : Str)) && !(x == ("__name__" : Str))
def noStar : Expr → Bool
  | .Starred .. => false
  | _ => true
def noSet : Expr → Bool
  | .Set .. => false
  | _ => true
def plainIx : Expr → Bool
  | .Slice .. => false
  | _ => true
/-- a test in the plain way: what it gives, then its truth -/
def plainT : Expr → Bool
  | .UnaryOp .. => false
  | .BoolOp .. => false
  | .IfExp .. => false
  | .Compare .. => false
  | _ => true
def bnames : List Str := ["len", "abs", "max", "min", "sum", "any", "all", "sorted", "list", "tuple", "set", "int", "bool", "str", "isinstance", "range", "enumerate", "zip", "reversed"]

/-- behind a call of a def: new data, a new value -/
def NewC (B : Wd) (Z : Zn) (H : Hp) (m : M) (v : V) (H' : Hp) : Prop :=
  Grow H H' ∧ ∃ Z' O, (∀ a, Z a → Z' a) ∧ (∀ a, Z' a → (Z a ∨ H a = none) ∧ H' a ≠ none) ∧ RM B Z' H' v m O ∧ O.Nodup ∧ ∀ a ∈ O, H a = none ∧ ¬ Z' a
/-- what a def of data promises -/
def spP (B : Wd) (n : Nat) (f : FP) : Sp := fun vs H Q _ => vs.length = n ∧ ∃ Z ds m, (∀ a, Z a → H a ≠ none) ∧ RpL B Z H vs ds ∧ f ds = .ok m ∧ ∀ v H', NewC B Z H m v H' → Q v H'
/-- behind a call of a def that writes what it is given: H ahead, O its own addresses -/
def NewW (B : Wd) (Z : Zn) (H : Hp) (O : List Addr) (w : V) (m m1 : M) (v : V) (H' : Hp) : Prop :=
  (∀ a o, H a = some o → a ∉ O → H' a = some o) ∧ (∀ a, H' a = none → H a = none) ∧ ∃ Z' O' O1, (∀ a, Z a → Z' a) ∧ (∀ a, Z' a → (Z a ∨ H a = none ∨ a ∈ O) ∧ H' a ≠ none) ∧ RM B Z' H' v m O' ∧ RM B Z' H' w m1 O1 ∧
    (O' ++ O1).Nodup ∧ ∀ a ∈ O' ++ O1, (H a = none ∨ a ∈ O) ∧ ¬ Z' a
/-- .. its first parameter is written -/
def spW (B : Wd) (n : Nat) (f : FW) : Sp := fun vs H Q _ => vs.length = n ∧ ∃ Z m0 x ds m m1 O us, (∀ a, Z a → H a ≠ none) ∧ vs = x :: us ∧ RpL B Z H us ds ∧ RM B Z H x m0 O ∧ O.Nodup ∧ (∀ a ∈ O, ¬ Z a) ∧ f m0 ds = .ok (m, m1) ∧
  ∀ v H', NewW B Z H O x m m1 v H' → Q v H'
def FnAt (X : Cx) (x : Str) (n : Nat) : Fn → Prop
  | .pr f => ∃ (j : Nat) (a : Addr) (fd : FuncData) (ps : List Str), X.mg x = some (.ref a) ∧ PySem.W.keepIn X.K (.ref a) = true ∧ Binds X.K fd ps [] ∧ ps.length = n ∧ FnOk X.prog X.w X.K X.mg X.base CX0 j a fd ps (spP (wd X) n f) ∧ Room j X.A
  | .wr f => ∃ (j : Nat) (a : Addr) (fd : FuncData) (ps : List Str), X.mg x = some (.ref a) ∧ PySem.W.keepIn X.K (.ref a) = true ∧ Binds X.K fd ps [] ∧ ps.length = n ∧ FnOk X.prog X.w X.K X.mg X.base CX0 j a fd ps (spW (wd X) n f) ∧ Room j X.A

structure Ctx where
  N : List Str
  sc : Scope
  fn : List (Str × Nat)
  con : List (Str × D)
  loc : List Str
structure XOk (G : List Fn) (C : Ctx) (X : Cx) : Prop where
  N : X.N = C.N
  nd : C.N.Nodup
  sc : X.env.scope = C.sc
  calm : X.calm = true
  hu : X.A.units + 100 < cLine
  hd : X.A.handled = none
  bl : ∀ x ∈ bnames, X.mg x = none
  fns : ∀ (k : Nat) (x : Str) (n : Nat) (f : Fn), C.fn[k]? = some (x, n) → G[k]? = some f → FnAt X x n f
  loc : ∀ x ∈ C.loc, Loc X.env.scope x ∧ (X.fn x = true ∨ X.env.scope.names.lookup x = some .local)
  con : ∀ (k : Nat) (x : Str) (d : D), C.con[k]? = some (x, d) → ∃ v u, X.mg x = some u ∧ RelV v u ∧ ∀ Z H, Rp (wd X) Z H v d

section
variable {G : List Fn} {C : Ctx} {X : Cx} {B : Wd} {Z Z' : Zn} {H H' : Hp} {σ : L2.St} {env env' : Env} {Os Os' : List (List Addr)} {mu : List Nat} {v : V} {m : M} {d : D}

theorem starEach_no {e : Expr} {es : List Expr} {env : PySem.Env} (h : noStar e = true) : starEach (e :: es) env = (false, eval e env) :: starEach es env := by
  cases e <;> first | rfl | cases h
theorem backTo_no {pos : Pos} {env : PySem.Env} : ∀ {es : List Expr}, es.all noStar = true → (backTo pos (starEach es env)).any (·.1) = false
  | [], _ => rfl
  | e :: es, h => by
    simp only [List.all_cons, Bool.and_eq_true] at h
    rw [starEach_no h.1]
    show (false || (backTo pos (starEach es env)).any (·.1)) = false
    rw [backTo_no h.2]; rfl
theorem behind_no {e : Expr} {op : CmpOp} (h : noSet e = true) : behindInMarks op e = false := by
  cases e <;> first | rfl | cases h
theorem plainIx_ok {e : Expr} (h : plainIx e = true) : PlainIx e := by
  intro o i
  cases e <;> first | rfl | cases h
theorem vis_of {x : Str} (ok : XOk G C X) (h : visB C.sc x = true) : Vis X.env.scope x := by
  rw [ok.sc]
  unfold visB at h
  split at h
  · exact .inl (by assumption)
  · exact .inr (.inl (by assumption))
  · exact .inr (.inr (by assumption))
  · cases h
theorem gl_of {x : Str} (ok : XOk G C X) (h : glB C.sc x = true) : Gl X x := by
  unfold glB at h
  show X.env.scope.names.lookup x = _
  rw [ok.sc]
  exact of_decide_eq_true h
theorem noDbg_of {x : Str} (h : noDbg x = true) : (x == ("__debug__" : Str)) = false ∧ (x == ("__classdict__" : Str)) = false ∧ x ≠ "__name__" := by
  unfold noDbg at h
  simp only [Bool.and_eq_true, Bool.not_eq_true'] at h
  refine ⟨h.1.1, h.1.2, fun e => ?_⟩
  subst e
  simp at h

theorem flat_mem : ∀ {Os : List (List Addr)} {O : List Addr}, Os.flatten.Nodup → O ∈ Os → O.Nodup
  | P :: Os, O, h, hm => by
    rw [List.flatten_cons] at h
    rcases List.mem_cons.mp hm with e | hm
    · subst e; exact (List.nodup_append.mp h).1
    · exact flat_mem (List.nodup_append.mp h).2.1 hm
/-! ### names, constants -/
theorem Rx.val {run : Env → R (M × List Nat × Env)} {Q : VK} (h : Rx B mu run σ H Q) (e : ∀ env, run env = .ok (.pu d, [], env)) (r : ∀ Z, Rp B Z H v d) : Q v H := by
  obtain ⟨Z, env, Os, q, m, rs, env', h1, h2⟩ := h
  rw [e] at h1
  cases h1
  exact h2 v H ((New.pure (r Z)).post q Step.refl)
def chkC : D → Const → Bool
  | .none, .none => true
  | .bool b, .bool c => b == c
  | .int i, .int j => decide (i = j)
  | .str x, .str y => decide (x = y)
  | _, _ => false
theorem k_cst {c : Const} {j : Nat} {pos : Pos} (h : chkC d c = true) : PE X (.Constant c j pos) (Rx (wd X) (muE (.cst d)) (ev G (.cst d))) := by
  unfold chkC at h
  split at h
  · exact PE.of pe_non fun σ H Q h => h.val (fun _ => rfl) fun _ => .non
  · have := eq_of_beq h; subst this
    exact PE.of pe_bl fun σ H Q h => h.val (fun _ => rfl) fun _ => .bl _
  · have := of_decide_eq_true h; subst this
    exact PE.of pe_int fun σ H Q h => h.val (fun _ => rfl) fun _ => .int _
  · have := of_decide_eq_true h; subst this
    exact PE.of pe_str fun σ H Q h => h.val (fun _ => rfl) fun _ => .str _
  · cases h
theorem k_var (ok : XOk G C X) {i : Nat} {x : Str} {pos : Pos} (hN : C.N[i]? = some x) (hv : visB C.sc x = true) (hd : noDbg x = true) : PE X (.Name x pos) (Rx (wd X) (muE (.var i)) (ev G (.var i))) := by
  refine PE.of (pe_var (i := i) (by rw [ok.N]; exact hN) (vis_of ok hv) (noDbg_of hd).1 (noDbg_of hd).2.1) fun σ H Q ⟨Z, env, Os, q, m, rs, env', h1, h2⟩ => ?_
  obtain ⟨e1, e2, e3⟩ := ev_var h1
  cases e1
  obtain ⟨v, O, h3, h4, r⟩ := q.val i m e2
  refine ⟨v, h3, h2 v H ⟨Z, Os, O, q, Step.refl, r, ?_⟩⟩
  rcases e3 with ⟨d, rfl, rfl⟩ | ⟨e3, rfl⟩
  · cases r
    exact ⟨fun _ => ⟨by simpa using q.nd, fun a h => nomatch h⟩, fun h => (h rfl).elim, List.nodup_nil⟩
  · refine ⟨fun h => (nomatch h), fun _ a ha => ⟨i, List.mem_cons_self, O, h4, ha⟩, ?_⟩
    have := q.nd
    exact flat_mem this (List.mem_of_getElem? h4)
theorem k_glb (ok : XOk G C X) {k : Nat} {x : Str} {pos : Pos} (hN : C.con[k]? = some (x, d)) (hg : glB C.sc x = true) (hd : noDbg x = true) : PE X (.Name x pos) (Rx (wd X) (muE (.glb k d)) (ev G (.glb k d))) := by
  obtain ⟨v, u, h1, h2, h3⟩ := ok.con k x d hN
  exact PE.of (pe_glob (gl_of ok hg) h1 h2 (noDbg_of hd).1) fun σ H Q h => h.val (fun _ => rfl) fun Z => h3 Z H

/-! ### operators -/
section
variable {a b c : E} {xa xb xc : Expr} {pos : Pos}
theorem k_bin (o : BOp) (ha : PE X xa (Rx (wd X) (muE a) (ev G a))) (hb : PE X xb (Rx (wd X) (muE b) (ev G b))) : PE X (.BinOp xa (opOf o) xb pos) (Rx (wd X) (muE (.bin o a b)) (ev G (.bin o a b))) := by
  refine PE.of (pe_op (or_bin o) ha hb) fun σ H Q ⟨Z, env, Os, q, m, rs, env', h1, h2⟩ => ?_
  simp only [ev] at h1
  simp only [muE] at h2
  obtain ⟨⟨ma, ra, e1⟩, e1, h1⟩ := R.bind_ok h1
  obtain ⟨⟨mb, rb, e2⟩, e2, h1⟩ := R.bind_ok h1
  obtain ⟨ap, h1⟩ := R.of_if h1
  obtain ⟨_, e3, h1⟩ := R.bind_ok h1
  cases h1
  exact Rx.two q e1 e2 ap e3 h2
theorem cmp_run {o : COp} {ma mb : M} {k : Bool} (h : cmpD o ma mb = .ok k) : (do
    let c ← cmpD o ma mb
    R.ok (M.pu (.bool c))) = .ok (.pu (.bool k)) := by rw [h]; rfl
theorem k_cmp (ok : XOk G C X) (o : COp) (ha : PE X xa (Rx (wd X) (muE a) (ev G a))) (hb : PE X xb (Rx (wd X) (muE b) (ev G b))) (hs : noSet xb = true) : PE X (.Compare xa [cmpOf o] [xb] pos) (Rx (wd X) (muE (.cmp o a b)) (ev G (.cmp o a b))) := by
  refine PE.of (pe_cmpR (or_cmp ok.hu o) ha hb (behind_no hs)) fun σ H Q ⟨Z, env, Os, q, m, rs, env', h1, h2⟩ => ?_
  simp only [ev] at h1
  simp only [muE] at h2
  obtain ⟨⟨ma, ra, e1⟩, e1, h1⟩ := R.bind_ok h1
  obtain ⟨⟨mb, rb, e2⟩, e2, h1⟩ := R.bind_ok h1
  obtain ⟨ap, h1⟩ := R.of_if h1
  obtain ⟨_, e3, h1⟩ := R.bind_ok h1
  cases h1
  exact Rx.two q e1 e2 ap (cmp_run e3) h2
/-- a test's run from a value's run -/
def bRun (G : List Fn) (p : E) : Env → R (Bool × Env) := fun env => do
  let r ← ev G p env
  boolR r
theorem boolR_ok {r : M × List Nat × Env} {c : Bool} {env' : Env} (h : boolR r = .ok (c, env')) : ∃ rs, r = (.pu (.bool c), rs, env') := by
  unfold boolR at h
  split at h
  · cases h; exact ⟨_, rfl⟩
  · cases h
theorem bx_of {p : E} {Q : Bool → Hp → Prop} (h : Bx B (muE p) (bRun G p) σ H Q) : Rx B (muE p) (ev G p) σ H fun x H1 => ∃ c, x = .bl c ∧ Q c H1 := by
  obtain ⟨Z, env, Os, q, c, env', h1, h2⟩ := h
  obtain ⟨r, h3, h4⟩ := R.bind_ok h1
  obtain ⟨rs, rfl⟩ := boolR_ok h4
  refine Rx.go q h3 fun v H' p => ?_
  obtain ⟨Z', Os', q', s', r'⟩ := p.pure
  cases r'
  exact ⟨c, rfl, h2 H' ⟨Z', Os', q', s'⟩⟩
theorem t_val {p : E} {x : Expr} (h : PE X x (Rx (wd X) (muE p) (ev G p))) (hp : plainT x = true) : PT X x (Bx (wd X) (muE p) (bRun G p)) := by
  refine PT.of (pt_val h fun whole => ?_) fun σ H Q h => bx_of h
  cases x <;> first | rfl | cases hp
theorem t_cmp (ok : XOk G C X) (o : COp) (ha : PE X xa (Rx (wd X) (muE a) (ev G a))) (hb : PE X xb (Rx (wd X) (muE b) (ev G b))) (hs : noSet xb = true) : PT X (.Compare xa [cmpOf o] [xb] pos) (Bx (wd X) (muE (.cmp o a b)) (bRun G (.cmp o a b))) := by
  refine PT.of (pt_cmpR (or_cmp ok.hu o) ha hb (behind_no hs)) fun σ H Q h => ?_
  obtain ⟨Z, env, Os, q, m, rs, env', h1, h2⟩ := bx_of h
  simp only [ev] at h1
  simp only [muE] at h2
  obtain ⟨⟨ma, ra, e1⟩, e1, h1⟩ := R.bind_ok h1
  obtain ⟨⟨mb, rb, e2⟩, e2, h1⟩ := R.bind_ok h1
  obtain ⟨ap, h1⟩ := R.of_if h1
  obtain ⟨_, e3, h1⟩ := R.bind_ok h1
  cases h1
  exact Rx.two q e1 e2 ap (cmp_run e3) h2
theorem chn_run {o1 o2 : COp} {Q : VK} (h : Rx B (muE (.chn o1 o2 a b c)) (ev G (.chn o1 o2 a b c)) σ H Q) :
    tChain (rOp B fun x y => do let c ← cmpD o1 x y; R.ok (M.pu (.bool c))) (rOp B fun x y => do let c ← cmpD o2 x y; R.ok (M.pu (.bool c))) (Rx B (muE a) (ev G a)) (Rx B (muE b) (ev G b)) (Rx B (muE c) (ev G c)) σ H Q := by
  obtain ⟨Z, env, Os, q, m, rs, env', h1, h2⟩ := h
  simp only [ev] at h1
  simp only [muE] at h2
  obtain ⟨⟨ma, ra, e1⟩, e1, h1⟩ := R.bind_ok h1
  obtain ⟨⟨mb, rb, e2⟩, e2, h1⟩ := R.bind_ok h1
  obtain ⟨ap, h1⟩ := R.of_if h1
  obtain ⟨k, e3, h1⟩ := R.bind_ok h1
  simp only [Bool.and_eq_true] at ap
  refine Rx.go q e1 fun x H1 ⟨Z1, Os1, O1, q1, s1, r1, ro1⟩ => Rx.go q1 e2 fun y H2 ⟨Z2, Os2, O2, q2, s2, r2, ro2⟩ => ?_
  refine ⟨Z2, ma, mb, .pu (.bool k), O1, O2, q2.zh, carry q1 r1 ro1 s2 ap.1, r2, cmp_run e3, fun z H3 n => ?_⟩
  have g := n.1
  have hz : z = .bl k := by
    obtain ⟨_, O, r, _⟩ := n
    exact r.boo
  have s3 := (s1.trans s2 (mu := muE a ++ muE b ++ muE c) (fun i hi => List.mem_append_left _ (List.mem_append_left _ hi)) fun i hi => List.mem_append_left _ (List.mem_append_right _ hi)).grow g q2
  refine ⟨k, hz, ?_⟩
  cases k with
  | false =>
    rw [if_neg (by simp)]
    rw [if_neg (by simp)] at h1
    cases h1
    exact h2 _ _ ((New.pure (.bl false)).post (q2.grow g) s3)
  | true =>
    rw [if_pos rfl]
    rw [if_pos rfl] at h1
    obtain ⟨⟨mc, rc, e4⟩, e5, h1⟩ := R.bind_ok h1
    obtain ⟨k2, e6, h1⟩ := R.bind_ok h1
    cases h1
    refine Rx.go (q2.grow g) e5 fun w H4 ⟨Z4, Os4, O4, q4, s4, r4, ro4⟩ => ?_
    refine ⟨Z4, mb, mc, _, O2, O4, q4.zh, carry (q2.grow g) (r2.stay g.stay (fun _ z => z) fun a o _ h => g a o h) ro2 s4 ap.2, r4, cmp_run e6, fun v H' n => h2 v H' (n.post q4 (s3.trans s4 (fun i hi => hi) fun i hi => List.mem_append_right _ hi))⟩
theorem last_no {op op' : CmpOp} {xb xc : Expr} (h : noSet xc = true) : lastMarks [op, op'] [xb, xc] = false := by
  show lastMarks [op'] [xc] = false
  exact behind_no h
theorem k_chn (ok : XOk G C X) (o1 o2 : COp) (ha : PE X xa (Rx (wd X) (muE a) (ev G a))) (hb : PE X xb (Rx (wd X) (muE b) (ev G b))) (hc : PE X xc (Rx (wd X) (muE c) (ev G c))) (hs : noSet xc = true) :
    PE X (.Compare xa [cmpOf o1, cmpOf o2] [xb, xc] pos) (Rx (wd X) (muE (.chn o1 o2 a b c)) (ev G (.chn o1 o2 a b c))) :=
  PE.of (pe_chain (or_cmp ok.hu o1) (or_cmp ok.hu o2) ha hb hc (last_no hs)) fun σ H Q h => chn_run h
theorem t_chn (ok : XOk G C X) (o1 o2 : COp) (ha : PE X xa (Rx (wd X) (muE a) (ev G a))) (hb : PE X xb (Rx (wd X) (muE b) (ev G b))) (hc : PE X xc (Rx (wd X) (muE c) (ev G c))) (hs : noSet xc = true) :
    PT X (.Compare xa [cmpOf o1, cmpOf o2] [xb, xc] pos) (Bx (wd X) (muE (.chn o1 o2 a b c)) (bRun G (.chn o1 o2 a b c))) :=
  PT.of (pt_chain (or_cmp ok.hu o1) (or_cmp ok.hu o2) ha hb hc (last_no hs)) fun σ H Q h => chn_run (bx_of h)
theorem isc_run {n : Bool} {r : R2} (hr : ∀ (x : V) (H : Hp) (Q : VK), Q (.bl (decide (x = .non) != n)) H → r x .non H Q) {Q : VK} (h : Rx B (muE (.isc n a .none)) (ev G (.isc n a .none)) σ H Q) :
    tOp r (Rx B (muE a) (ev G a)) (tC .non) σ H Q := by
  obtain ⟨Z, env, Os, q, m, rs, env', h1, h2⟩ := h
  simp only [ev] at h1
  simp only [muE] at h2
  obtain ⟨⟨ma, ra, e1⟩, e1, h1⟩ := R.bind_ok h1
  cases h1
  refine Rx.go q e1 fun x H1 ⟨Z1, Os1, O1, q1, s1, r1, ro1⟩ => hr x H1 Q ?_
  have : decide (x = .non) = isNon ma := by
    cases r1 with
    | pu h => cases h <;> simp [isNon]
    | _ => simp [isNon]
  rw [this]
  exact h2 _ _ ((New.pure (.bl _)).post q1 s1)
theorem k_isN {j : Nat} {p : Pos} (ha : PE X xa (Rx (wd X) (muE a) (ev G a))) : PE X (.Compare xa [.Is] [.Constant .none j p] pos) (Rx (wd X) (muE (.isc false a .none)) (ev G (.isc false a .none))) :=
  PE.of (pe_cmpR op_isN ha pe_non rfl) fun σ H Q h => isc_run (fun x H Q q => ⟨rfl, by simpa using q⟩) h
theorem t_isN {j : Nat} {p : Pos} (ha : PE X xa (Rx (wd X) (muE a) (ev G a))) : PT X (.Compare xa [.Is] [.Constant .none j p] pos) (Bx (wd X) (muE (.isc false a .none)) (bRun G (.isc false a .none))) :=
  PT.of (pt_cmpR op_isN ha pe_non rfl) fun σ H Q h => isc_run (fun x H Q q => ⟨rfl, by simpa using q⟩) (bx_of h)
theorem k_notN {j : Nat} {p : Pos} (ha : PE X xa (Rx (wd X) (muE a) (ev G a))) : PE X (.Compare xa [.IsNot] [.Constant .none j p] pos) (Rx (wd X) (muE (.isc true a .none)) (ev G (.isc true a .none))) :=
  PE.of (pe_cmpR op_notN ha pe_non rfl) fun σ H Q h => isc_run (fun x H Q q => ⟨rfl, by simpa using q⟩) h
theorem t_notN {j : Nat} {p : Pos} (ha : PE X xa (Rx (wd X) (muE a) (ev G a))) : PT X (.Compare xa [.IsNot] [.Constant .none j p] pos) (Bx (wd X) (muE (.isc true a .none)) (bRun G (.isc true a .none))) :=
  PT.of (pt_cmpR op_notN ha pe_non rfl) fun σ H Q h => isc_run (fun x H Q q => ⟨rfl, by simpa using q⟩) (bx_of h)
theorem intR_ok {m : M} {i : Int} (h : intR m = .ok i) : m = .pu (.int i) := by
  unfold intR at h
  split at h
  · cases h; rfl
  · cases h
theorem k_neg (ha : PE X xa (Rx (wd X) (muE a) (ev G a))) : PE X (.UnaryOp .USub xa pos) (Rx (wd X) (muE (.neg a)) (ev G (.neg a))) := by
  refine PE.of (pe_un un_neg ha) fun σ H Q ⟨Z, env, Os, q, m, rs, env', h1, h2⟩ => ?_
  simp only [ev] at h1
  simp only [muE] at h2
  obtain ⟨⟨ma, ra, e1⟩, e1, h1⟩ := R.bind_ok h1
  obtain ⟨i, e3, h1⟩ := R.bind_ok h1
  cases h1
  cases intR_ok e3
  refine Rx.go q e1 fun x H1 p => ?_
  obtain ⟨Z1, Os1, q1, s1, r1⟩ := p.pure
  cases r1
  exact ⟨_, rfl, h2 _ _ ((New.pure (.int _)).post q1 s1)⟩
/-! ### and, or, not -/
theorem not_run {p : E} {env env' : Env} {m : M} {rs : List Nat} (h : ev G (.not p) env = .ok (m, rs, env')) : ∃ c, bRun G p env = .ok (c, env') ∧ m = .pu (.bool (!c)) ∧ rs = [] := by
  simp only [ev] at h
  obtain ⟨r, e1, h1⟩ := R.bind_ok h
  obtain ⟨⟨c, e2⟩, e3, h1⟩ := R.bind_ok h1
  cases h1
  exact ⟨c, by unfold bRun; rw [e1]; exact e3, rfl, rfl⟩
theorem k_not (ha : PE X xa (Rx (wd X) (muE a) (ev G a))) : PE X (.UnaryOp .Not xa pos) (Rx (wd X) (muE (.not a)) (ev G (.not a))) := by
  refine PE.of (pe_not ha) fun σ H Q ⟨Z, env, Os, q, m, rs, env', h1, h2⟩ => ?_
  simp only [muE] at h2
  obtain ⟨c, e1, rfl, rfl⟩ := not_run h1
  refine bx_of (Q := fun c H1 => Q (.bl (!c)) H1) ⟨Z, env, Os, q, c, env', e1, fun H' ⟨Z', Os', q', s'⟩ => h2 _ _ ((New.pure (.bl _)).post q' s')⟩
theorem t_not (ha : PT X xa (Bx (wd X) (muE a) (bRun G a))) : PT X (.UnaryOp .Not xa pos) (Bx (wd X) (muE (.not a)) (bRun G (.not a))) := by
  refine PT.of (pt_not ha) fun σ H Q ⟨Z, env, Os, q, c, env', h1, h2⟩ => ?_
  simp only [muE] at h2
  obtain ⟨r, e1, e2⟩ := R.bind_ok h1
  obtain ⟨rs, rfl⟩ := boolR_ok e2
  obtain ⟨c', e3, e4, e5⟩ := not_run e1
  cases e4
  exact ⟨Z, env, Os, q, c', env', e3, h2⟩
theorem and_run {p r : E} {env env' : Env} {m : M} {rs : List Nat} (h : ev G (.and p r) env = .ok (m, rs, env')) : ∃ c, m = .pu (.bool c) ∧ rs = [] ∧ ((bRun G p env = .ok (false, env') ∧ c = false) ∨ ∃ e1, bRun G p env = .ok (true, e1) ∧ bRun G r e1 = .ok (c, env')) := by
  simp only [ev] at h
  obtain ⟨r1, e1, h1⟩ := R.bind_ok h
  obtain ⟨⟨c, e2⟩, e3, h1⟩ := R.bind_ok h1
  have hb : bRun G p env = .ok (c, e2) := by unfold bRun; rw [e1]; exact e3
  cases c with
  | false =>
    rw [if_neg (by simp)] at h1
    cases h1
    exact ⟨false, rfl, rfl, .inl ⟨hb, rfl⟩⟩
  | true =>
    rw [if_pos rfl] at h1
    obtain ⟨r2, e4, h1⟩ := R.bind_ok h1
    obtain ⟨⟨c2, e5⟩, e6, h1⟩ := R.bind_ok h1
    cases h1
    exact ⟨c2, rfl, rfl, .inr ⟨e2, hb, by unfold bRun; rw [e4]; exact e6⟩⟩
theorem or_run {p r : E} {env env' : Env} {m : M} {rs : List Nat} (h : ev G (.or p r) env = .ok (m, rs, env')) : ∃ c, m = .pu (.bool c) ∧ rs = [] ∧ ((bRun G p env = .ok (true, env') ∧ c = true) ∨ ∃ e1, bRun G p env = .ok (false, e1) ∧ bRun G r e1 = .ok (c, env')) := by
  simp only [ev] at h
  obtain ⟨r1, e1, h1⟩ := R.bind_ok h
  obtain ⟨⟨c, e2⟩, e3, h1⟩ := R.bind_ok h1
  have hb : bRun G p env = .ok (c, e2) := by unfold bRun; rw [e1]; exact e3
  cases c with
  | true =>
    rw [if_pos rfl] at h1
    cases h1
    exact ⟨true, rfl, rfl, .inl ⟨hb, rfl⟩⟩
  | false =>
    rw [if_neg (by simp)] at h1
    obtain ⟨r2, e4, h1⟩ := R.bind_ok h1
    obtain ⟨⟨c2, e5⟩, e6, h1⟩ := R.bind_ok h1
    cases h1
    exact ⟨c2, rfl, rfl, .inr ⟨e2, hb, by unfold bRun; rw [e4]; exact e6⟩⟩
theorem b_run {p : E} {env env' : Env} {c : Bool} (h : bRun G p env = .ok (c, env')) : ∃ rs, ev G p env = .ok (.pu (.bool c), rs, env') := by
  obtain ⟨r, e1, e2⟩ := R.bind_ok h
  obtain ⟨rs, rfl⟩ := boolR_ok e2
  exact ⟨rs, e1⟩
theorem if_t {A B : Prop} (h : A) : if (true = true) then A else B := by rw [if_pos rfl]; exact h
theorem if_f {A B : Prop} (h : B) : if (false = true) then A else B := by rw [if_neg (by simp)]; exact h
theorem ml {l r : List Nat} : ∀ i ∈ l, i ∈ l ++ r := fun _ h => List.mem_append_left _ h
theorem mr {l r : List Nat} : ∀ i ∈ r, i ∈ l ++ r := fun _ h => List.mem_append_right _ h
variable {rest : List Expr}
theorem k_and (ha : PE X xa (Rx (wd X) (muE a) (ev G a))) (hb : PE X (.BoolOp .And (xb :: rest) pos) (Rx (wd X) (muE b) (ev G b))) : PE X (.BoolOp .And (xa :: xb :: rest) pos) (Rx (wd X) (muE (.and a b)) (ev G (.and a b))) := by
  refine PE.of (pe_and ha hb) fun σ H Q ⟨Z, env, Os, q, m, rs, env', h1, h2⟩ => ?_
  simp only [muE] at h2
  obtain ⟨c, rfl, rfl, h | ⟨e1, h3, h4⟩⟩ := and_run h1
  · obtain ⟨h3, rfl⟩ := h
    exact bx_of (Q := fun c H1 => if c = true then _ else Q (.bl false) H1) ⟨Z, env, Os, q, _, _, h3, fun H' ⟨Z', Os', q', s'⟩ => if_f (h2 _ _ ((New.pure (.bl _)).post q' (s'.mono ml)))⟩
  · refine bx_of (Q := fun c H1 => if c = true then _ else Q (.bl false) H1) ⟨Z, env, Os, q, _, _, h3, fun H1 ⟨Z1, Os1, q1, s1⟩ => ?_⟩
    refine if_t ?_
    obtain ⟨rs, h5⟩ := b_run h4
    exact Rx.go q1 h5 fun v H2 p => by
      obtain ⟨Z2, Os2, q2, s2, r2⟩ := p.pure
      cases r2
      exact h2 _ _ ((New.pure (.bl _)).post q2 (s1.trans s2 ml mr))
theorem k_or (ha : PE X xa (Rx (wd X) (muE a) (ev G a))) (hb : PE X (.BoolOp .Or (xb :: rest) pos) (Rx (wd X) (muE b) (ev G b))) : PE X (.BoolOp .Or (xa :: xb :: rest) pos) (Rx (wd X) (muE (.or a b)) (ev G (.or a b))) := by
  refine PE.of (pe_or ha hb) fun σ H Q ⟨Z, env, Os, q, m, rs, env', h1, h2⟩ => ?_
  simp only [muE] at h2
  obtain ⟨c, rfl, rfl, h | ⟨e1, h3, h4⟩⟩ := or_run h1
  · obtain ⟨h3, rfl⟩ := h
    exact bx_of (Q := fun c H1 => if c = true then Q (.bl true) H1 else _) ⟨Z, env, Os, q, _, _, h3, fun H' ⟨Z', Os', q', s'⟩ => if_t (h2 _ _ ((New.pure (.bl _)).post q' (s'.mono ml)))⟩
  · refine bx_of (Q := fun c H1 => if c = true then Q (.bl true) H1 else _) ⟨Z, env, Os, q, _, _, h3, fun H1 ⟨Z1, Os1, q1, s1⟩ => ?_⟩
    refine if_f ?_
    obtain ⟨rs, h5⟩ := b_run h4
    exact Rx.go q1 h5 fun v H2 p => by
      obtain ⟨Z2, Os2, q2, s2, r2⟩ := p.pure
      cases r2
      exact h2 _ _ ((New.pure (.bl _)).post q2 (s1.trans s2 ml mr))
theorem t_and (ha : PT X xa (Bx (wd X) (muE a) (bRun G a))) (hb : PW X (.BoolOp .And (xb :: rest) pos) (Bx (wd X) (muE b) (bRun G b))) : PW X (.BoolOp .And (xa :: xb :: rest) pos) (Bx (wd X) (muE (.and a b)) (bRun G (.and a b))) := by
  refine PW.of (pw_and ha hb) fun σ H Q ⟨Z, env, Os, q, c, env', h1, h2⟩ => ?_
  simp only [muE] at h2
  obtain ⟨r0, h0⟩ := b_run h1
  obtain ⟨c, e, rfl, h | ⟨e1, h3, h4⟩⟩ := and_run h0
  · obtain ⟨h3, rfl⟩ := h
    cases e
    exact ⟨Z, env, Os, q, _, _, h3, fun H' p => if_f (h2 _ (p.mono ml))⟩
  · cases e
    refine ⟨Z, env, Os, q, _, _, h3, fun H1 ⟨Z1, Os1, q1, s1⟩ => ?_⟩
    refine if_t ?_
    exact ⟨Z1, e1, Os1, q1, _, _, h4, fun H2 ⟨Z2, Os2, q2, s2⟩ => h2 _ ⟨Z2, Os2, q2, s1.trans s2 ml mr⟩⟩
theorem t_or (ha : PT X xa (Bx (wd X) (muE a) (bRun G a))) (hb : PW X (.BoolOp .Or (xb :: rest) pos) (Bx (wd X) (muE b) (bRun G b))) : PW X (.BoolOp .Or (xa :: xb :: rest) pos) (Bx (wd X) (muE (.or a b)) (bRun G (.or a b))) := by
  refine PW.of (pw_or ha hb) fun σ H Q ⟨Z, env, Os, q, c, env', h1, h2⟩ => ?_
  simp only [muE] at h2
  obtain ⟨r0, h0⟩ := b_run h1
  obtain ⟨c, e, rfl, h | ⟨e1, h3, h4⟩⟩ := or_run h0
  · obtain ⟨h3, rfl⟩ := h
    cases e
    exact ⟨Z, env, Os, q, _, _, h3, fun H' p => if_t (h2 _ (p.mono ml))⟩
  · cases e
    refine ⟨Z, env, Os, q, _, _, h3, fun H1 ⟨Z1, Os1, q1, s1⟩ => ?_⟩
    refine if_f ?_
    exact ⟨Z1, e1, Os1, q1, _, _, h4, fun H2 ⟨Z2, Os2, q2, s2⟩ => h2 _ ⟨Z2, Os2, q2, s1.trans s2 ml mr⟩⟩
end
end
end TR

set_option Elab.async false
set_option linter.all false
set_option maxHeartbeats 4000000
namespace TR
open PySem PySem.Spec PyProof.Rows L2 StX

section
variable {G : List Fn} {C : Ctx} {X : Cx} {B : Wd} {Z Z' Z1 Z2 : Zn} {H H' H1 H2 : Hp} {σ σ' : L2.St} {env env' env1 : Env} {Os Os' Os1 : List (List Addr)} {mu : List Nat} {v : V} {m : M} {d : D} {a b c : E} {xa xb xc : Expr} {pos p1 p2 p3 : Pos} {es : List E} {xs : List Expr}

/-! ### a value for good -/
def tRun (G : List Fn) (p : E) : Env → R (D × Env) := fun env => do
  let r ← ev G p env
  takeR p r
theorem k_take (h : PE X xa (Rx (wd X) (muE a) (ev G a))) : PE X xa (Tx (wd X) (muT a) (tRun G a)) := by
  refine PE.of h fun σ H Q ⟨Z, env, Os, q, d, env', h1, h2⟩ => ?_
  obtain ⟨⟨m, rs, e1⟩, h3, h4⟩ := R.bind_ok h1
  exact Rx.go q h3 fun v H' p => h2 v H' (take_post h3 h4 p)
theorem Tx.go {run : Env → R (D × Env)} {Q : VK} (q : Sat B Z σ H env Os) (e : run env = .ok (d, env')) (h : ∀ v H', TPost B mu σ Z H env Os d env' v H' → Q v H') : Tx B mu run σ H Q := ⟨Z, env, Os, q, d, env', e, h⟩
theorem tRun_eq {p : E} {r : M × List Nat × Env} {d : D} {e2 : Env} (h1 : ev G p env = .ok r) (h2 : takeR p r = .ok (d, e2)) : tRun G p env = .ok (d, e2) := by
  unfold tRun; rw [h1]; exact h2
theorem k_ite (hc : PT X xc (Bx (wd X) (muE c) (bRun G c))) (ha : PE X xa (Rx (wd X) (muE a) (ev G a))) (hb : PE X xb (Rx (wd X) (muE b) (ev G b))) : PE X (.IfExp xc xa xb pos) (Rx (wd X) (muE (.ite c a b)) (ev G (.ite c a b))) := by
  refine PE.of (pe_ifExp hc (k_take ha) (k_take hb)) fun σ H Q ⟨Z, env, Os, q, m, rs, env', h1, h2⟩ => ?_
  simp only [ev] at h1
  simp only [muE] at h2
  obtain ⟨r, e1, h1⟩ := R.bind_ok h1
  obtain ⟨⟨k, e2⟩, e3, h1⟩ := R.bind_ok h1
  refine ⟨Z, env, Os, q, k, e2, by unfold bRun; rw [e1]; exact e3, fun H1 ⟨Z1, Os1, q1, s1⟩ => ?_⟩
  cases k with
  | true =>
    rw [if_pos rfl] at h1
    obtain ⟨r2, e4, h1⟩ := R.bind_ok h1
    obtain ⟨⟨d, e5⟩, e6, h1⟩ := R.bind_ok h1
    cases h1
    refine if_t (Tx.go q1 (tRun_eq e4 e6) fun v H' ⟨Z2, Os2, q2, s2, r2⟩ => h2 v H' (TPost.post ⟨Z2, Os2, q2, s1.trans s2 (fun i hi => ml _ (ml _ hi)) (fun i hi => ml _ (mr _ hi)), r2⟩))
  | false =>
    rw [if_neg (by simp)] at h1
    obtain ⟨r2, e4, h1⟩ := R.bind_ok h1
    obtain ⟨⟨d, e5⟩, e6, h1⟩ := R.bind_ok h1
    cases h1
    refine if_f (Tx.go q1 (tRun_eq e4 e6) fun v H' ⟨Z2, Os2, q2, s2, r2⟩ => h2 v H' (TPost.post ⟨Z2, Os2, q2, s1.trans s2 (fun i hi => ml _ (ml _ hi)) (fun i hi => mr _ hi), r2⟩))

/-! ### lists of values -/
def isStar : E → Bool
  | .star _ => true
  | _ => false
theorem evTs_cons {e : E} (h : isStar e = false) : evTs G (e :: es) env = (do
    let (d, e1) ← tRun G e env
    let (ds, e2) ← evTs G es e1
    R.ok (d :: ds, e2)) := by
  cases e <;> first | (cases h; done) | (simp only [evTs, tRun]; cases ev G _ env <;> rfl)
theorem l_nil : PA X [] (Lx (wd X) (muTs []) (evTs G [])) := by
  refine ⟨fun pos pins s σ H Q I ⟨Z, env, Os, q, ds, env', h1, h2⟩ => pa_nil.run pos pins s σ H Q I ?_⟩
  simp only [evTs] at h1
  cases h1
  exact h2 [] H ⟨Z, Os, q, Step.refl, .nil⟩
theorem PA.of' {es : List Expr} {t t' : TA} (h : PA X es t) (w : ∀ σ H Q, t' σ H Q → t σ H Q) : PA X es t' := PA.of h w
theorem l_cons (hs : isStar a = false) (ha : PE X xa (Rx (wd X) (muE a) (ev G a))) (hr : PA X xs (Lx (wd X) (muTs es) (evTs G es))) (hn : noStar xa = true) : PA X (xa :: xs) (Lx (wd X) (muTs (a :: es)) (evTs G (a :: es))) := by
  refine PA.of (pa_cons (k_take ha) hr (starEach_no hn)) fun σ H Q ⟨Z, env, Os, q, ds, env', h1, h2⟩ => ?_
  rw [evTs_cons hs] at h1
  simp only [muTs] at h2
  obtain ⟨⟨d, e1⟩, e2, h1⟩ := R.bind_ok h1
  obtain ⟨⟨ds', e3⟩, e4, h1⟩ := R.bind_ok h1
  cases h1
  refine Tx.go q e2 fun v H1 ⟨Z1, Os1, q1, s1, r1⟩ => ⟨Z1, _, Os1, q1, _, _, e4, fun vs H2 ⟨Z2, Os2, q2, s2, r2⟩ => ?_⟩
  exact h2 _ _ ⟨Z2, Os2, q2, s1.trans s2 ml mr, .cons (r1.stay (s2.stay q1) s2.zz) r2⟩
theorem l_star (ha : PE X xa (Rx (wd X) (muE a) (ev G a))) (hr : PA X xs (Lx (wd X) (muTs es) (evTs G es))) : PA X (.Starred xa pos :: xs) (Lx (wd X) (muTs (.star a :: es)) (evTs G (.star a :: es))) := by
  refine PA.of (pa_star ha hr) fun σ H Q ⟨Z, env, Os, q, ds, env', h1, h2⟩ => ?_
  simp only [evTs] at h1
  simp only [muTs, muT, muE] at h2
  obtain ⟨⟨ma, ra, e1⟩, e2, h1⟩ := R.bind_ok h1
  obtain ⟨ys, e5, h1⟩ := R.bind_ok h1
  obtain ⟨⟨ds', e3⟩, e4, h1⟩ := R.bind_ok h1
  cases h1
  refine Rx.go q e2 fun v H1 ⟨Z1, Os1, O1, q1, s1, r1, ro1⟩ => ?_
  obtain ⟨p, ws, rfl, rl, h⟩ := r1.sq e5
  refine ⟨p, ws, rfl, h.symm, Z1, _, Os1, q1, _, _, e4, fun vs H2 ⟨Z2, Os2, q2, s2, r2⟩ => ?_⟩
  exact h2 _ _ ⟨Z2, Os2, q2, s1.trans s2 ml mr, (rl.stay (s2.stay q1) s2.zz).append r2⟩
theorem k_tup {j : Nat} (h : PA X xs (Lx (wd X) (muTs es) (evTs G es))) : PE X (.Tuple xs j pos) (Rx (wd X) (muE (.tup es)) (ev G (.tup es))) := by
  refine PE.of (pe_tup h) fun σ H Q ⟨Z, env, Os, q, m, rs, env', h1, h2⟩ => ?_
  simp only [ev] at h1
  simp only [muE] at h2
  obtain ⟨⟨ds, e1⟩, e2, h1⟩ := R.bind_ok h1
  obtain ⟨hz, h1⟩ := R.of_if h1
  cases h1
  refine ⟨Z, env, Os, q, _, _, e2, fun vs H1 ⟨Z1, Os1, q1, s1, r1⟩ => ⟨by rw [r1.length, ← big_eq]; exact hz, fun p hp => ?_⟩⟩
  exact h2 _ _ ((New.tup hp r1).post q1 s1)
theorem k_lst (h : PA X xs (Lx (wd X) (muTs es) (evTs G es))) : PE X (.List xs pos) (Rx (wd X) (muE (.lst es)) (ev G (.lst es))) := by
  refine PE.of (pe_lst h) fun σ H Q ⟨Z, env, Os, q, m, rs, env', h1, h2⟩ => ?_
  simp only [ev] at h1
  simp only [muE] at h2
  obtain ⟨⟨ds, e1⟩, e2, h1⟩ := R.bind_ok h1
  obtain ⟨hz, h1⟩ := R.of_if h1
  cases h1
  refine ⟨Z, env, Os, q, _, _, e2, fun vs H1 ⟨Z1, Os1, q1, s1, r1⟩ => ⟨by rw [r1.length, ← big_eq]; exact hz, fun p hp => ?_⟩⟩
  exact h2 _ _ ((New.li hp r1).post q1 s1)

/-! ### items, slices -/
theorem k_sub (ok : XOk G C X) (ha : PE X xa (Rx (wd X) (muE a) (ev G a))) (hb : PE X xb (Rx (wd X) (muE b) (ev G b))) (hp : plainIx xb = true) : PE X (.Subscript xa xb pos) (Rx (wd X) (muE (.sub a b)) (ev G (.sub a b))) := by
  refine PE.of (pe_ix (ix_sub ok.hu) ha hb (plainIx_ok hp)) fun σ H Q ⟨Z, env, Os, q, m, rs, env', h1, h2⟩ => ?_
  simp only [ev] at h1
  simp only [muE] at h2
  obtain ⟨⟨ma, ra, e1⟩, e1', h1⟩ := R.bind_ok h1
  obtain ⟨⟨mb, rb, e2⟩, e2', h1⟩ := R.bind_ok h1
  obtain ⟨ap, h1⟩ := R.of_if h1
  obtain ⟨m', e3, h1⟩ := R.bind_ok h1
  cases h1
  refine Rx.go q e1' fun x H1 ⟨Z1, Os1, O1, q1, s1, r1, ro1⟩ => Rx.go q1 e2' fun y H2 ⟨Z2, Os2, O2, q2, s2, r2, ro2⟩ => ?_
  refine ⟨Z2, ma, mb, _, O1, O2, q2.zh, carry q1 r1 ro1 s2 ap, r2, e3, fun v ⟨O, r, hO, hl, hn⟩ => h2 v H2 ⟨Z2, Os2, O, q2, s1.trans s2 ml mr, r, ?_⟩⟩
  have hnd : O.Nodup := by
    match O, hl with
    | [], _ => exact List.nodup_nil
    | [x], _ => simp
  cases hm : ma.isNl with
  | false =>
    have := hn hm
    subst this
    simp only [hm, Bool.false_eq_true, if_false]
    exact ⟨fun _ => ⟨by simpa using q2.nd, fun a h => nomatch h⟩, fun h => (h rfl).elim, hnd⟩
  | true =>
    simp only [hm, if_true]
    refine ⟨fun e => ?_, fun e a ha => ?_, hnd⟩
    · subst e
      obtain ⟨h3, h4⟩ := ro1.1 rfl
      have h5 := (List.nodup_append.mp h3).2.2
      refine ⟨List.nodup_append.mpr ⟨hnd, q2.nd, fun a ha b hb e => ?_⟩, fun a ha => ⟨fun z => ?_, (h4 a (hO a ha)).2⟩⟩
      · subst e
        rcases s2.on a hb with h | h
        · exact r1.ne a (hO a ha) h
        · exact h5 a (hO a ha) a h rfl
      · rcases s2.zn a z with z | z | z
        · exact (h4 a (hO a ha)).1 z
        · exact r1.ne a (hO a ha) z
        · exact h5 a (hO a ha) a z rfl
    · obtain ⟨i, hi, Oi, h3, h4⟩ := ro1.2.1 e a (hO a ha)
      have hn : i ∉ muE b := by
        unfold apart at ap
        simpa using List.all_eq_true.mp ap i hi
      exact ⟨i, hi, Oi, (s2.slot i hn).2.1.trans h3, h4⟩
/-- a bound of a slice -/
def OPost (B : Wd) (mu : List Nat) (run : Env → R (Option Int × Env)) : TO := fun σ H Q =>
  ∃ Z env Os, Sat B Z σ H env Os ∧ ∃ o env', run env = .ok (o, env') ∧ ∀ H', BPost B mu σ Z H env Os env' H' → Q o H'
theorem o_none : PO X none (OPost (wd X) (muO none) (evO G none)) := by
  refine ⟨fun pins s σ H Q I ⟨Z, env, Os, q, o, env', h1, h2⟩ => po_none.run pins s σ H Q I ?_⟩
  simp only [evO] at h1
  cases h1
  exact h2 H ⟨Z, Os, q, Step.refl⟩
theorem o_some (ha : PE X xa (Rx (wd X) (muE a) (ev G a))) : PO X (some xa) (OPost (wd X) (muO (some a)) (evO G (some a))) := by
  refine ⟨fun pins s σ H Q I ⟨Z, env, Os, q, o, env', h1, h2⟩ => (po_some ha).run pins s σ H Q I ?_⟩
  simp only [evO] at h1
  simp only [muO] at h2
  obtain ⟨⟨ma, ra, e1⟩, e2, h1⟩ := R.bind_ok h1
  obtain ⟨i, e3, h1⟩ := R.bind_ok h1
  cases h1
  cases intR_ok e3
  refine Rx.go q e2 fun x H1 p => ?_
  obtain ⟨Z1, Os1, q1, s1, r1⟩ := p.pure
  cases r1
  exact ⟨_, rfl, h2 _ ⟨Z1, Os1, q1, s1⟩⟩
theorem k_slc {lo hi : Option E} {xl xh : Option Expr} (ha : PE X xa (Rx (wd X) (muE a) (ev G a))) (hl : PO X xl (OPost (wd X) (muO lo) (evO G lo))) (hh : PO X xh (OPost (wd X) (muO hi) (evO G hi))) :
    PE X (.Subscript xa (.Slice xl xh none p1) pos) (Rx (wd X) (muE (.slc a lo hi)) (ev G (.slc a lo hi))) := by
  refine PE.of (pe_slice sl_slc ha hl hh) fun σ H Q ⟨Z, env, Os, q, m, rs, env', h1, h2⟩ => ?_
  simp only [ev] at h1
  simp only [muE] at h2
  obtain ⟨⟨ma, ra, e1⟩, e1', h1⟩ := R.bind_ok h1
  obtain ⟨⟨l, e2⟩, e2', h1⟩ := R.bind_ok h1
  obtain ⟨⟨h, e3⟩, e3', h1⟩ := R.bind_ok h1
  obtain ⟨ap, h1⟩ := R.of_if h1
  obtain ⟨m', e4, h1⟩ := R.bind_ok h1
  cases h1
  refine Rx.go q e1' fun x H1 ⟨Z1, Os1, O1, q1, s1, r1, ro1⟩ => ⟨Z1, _, Os1, q1, _, _, e2', fun H2 ⟨Z2, Os2, q2, s2⟩ => ⟨Z2, _, Os2, q2, _, _, e3', fun H3 ⟨Z3, Os3, q3, s3⟩ => ?_⟩⟩
  have s23 := s2.trans s3 (mu := muO lo ++ muO hi) ml mr
  exact ⟨Z3, ma, _, O1, q3.zh, carry q1 r1 ro1 s23 ap, e4, fun v H' n => h2 v H' (n.post q3 (s1.trans s23 (fun i hi => by rw [List.append_assoc]; exact ml i hi) fun i hi => by rw [List.append_assoc]; exact mr i hi))⟩
end
end TR

set_option Elab.async false
set_option linter.all false
set_option maxHeartbeats 4000000
namespace TR
open PySem PySem.Spec PyProof.Rows L2 StX

section
variable {G : List Fn} {C : Ctx} {X : Cx} {B : Wd} {Z Z' Z1 Z2 : Zn} {H H' H1 H2 : Hp} {σ σ' : L2.St} {env env' env1 : Env} {Os Os' Os1 : List (List Addr)} {mu : List Nat} {v : V} {m : M} {d : D} {a b c : E} {xa xb xc : Expr} {pos p p0 p1 p2 p3 : Pos} {es : List E} {xs : List Expr} {nm : Str}

/-! ### builtins -/
theorem evs1 {ms : List M} {rs : List Nat} (h : evs G [a] env = .ok (ms, rs, env')) : ∃ m, ev G a env = .ok (m, rs, env') ∧ ms = [m] := by
  simp only [evs] at h
  obtain ⟨⟨ma, ra, e1⟩, h1, h⟩ := R.bind_ok h
  obtain ⟨⟨mb, rb, e2⟩, h2, h⟩ := R.bind_ok h
  cases h2
  obtain ⟨ap, h⟩ := R.of_if h
  cases h
  exact ⟨ma, by rw [h1]; simp, rfl⟩
theorem evs2 {ms : List M} {rs : List Nat} (h : evs G [a, b] env = .ok (ms, rs, env')) : ∃ ma ra e1 mb rb, ev G a env = .ok (ma, ra, e1) ∧ ev G b e1 = .ok (mb, rb, env') ∧ apart ra (muE b) = true ∧ ms = [ma, mb] := by
  rw [evs] at h
  obtain ⟨⟨ma, ra, e1⟩, h1, h⟩ := R.bind_ok h
  obtain ⟨⟨ms2, rb, e2⟩, h2, h⟩ := R.bind_ok h
  obtain ⟨mb, h3, h4⟩ := evs1 h2
  obtain ⟨ap, h⟩ := R.of_if h
  cases h
  subst h4
  refine ⟨ma, ra, e1, mb, rb, h1, h3, ?_, rfl⟩
  simpa [muEs] using ap
theorem bi_run1 {bi : Bi} {rs : List Nat} (h : ev G (.bi bi [a]) env = .ok (m, rs, env')) : ∃ ma ra, ev G a env = .ok (ma, ra, env') ∧ bi1 bi ma = .ok m ∧ rs = [] := by
  rw [ev] at h
  obtain ⟨⟨ms, r, e1⟩, h1, h⟩ := R.bind_ok h
  obtain ⟨m', h2, h⟩ := R.bind_ok h
  cases h
  obtain ⟨ma, h3, rfl⟩ := evs1 h1
  exact ⟨ma, r, h3, h2, rfl⟩
theorem bi_run2 {bi : Bi} {rs : List Nat} (h : ev G (.bi bi [a, b]) env = .ok (m, rs, env')) : ∃ ma ra e1 mb rb, ev G a env = .ok (ma, ra, e1) ∧ ev G b e1 = .ok (mb, rb, env') ∧ apart ra (muE b) = true ∧ bi2 bi ma mb = .ok m ∧ rs = [] := by
  rw [ev] at h
  obtain ⟨⟨ms, r, e1⟩, h1, h⟩ := R.bind_ok h
  obtain ⟨m', h2, h⟩ := R.bind_ok h
  cases h
  obtain ⟨ma, ra, e1, mb, rb, h3, h4, ap, rfl⟩ := evs2 h1
  exact ⟨ma, ra, e1, mb, rb, h3, h4, ap, h2, rfl⟩
theorem b1_run {bi : Bi} {Q : VK} (h : Rx B (muE (.bi bi [a])) (ev G (.bi bi [a])) σ H Q) : tCB (rB1 B (bi1 bi)) (tCons (Rx B (muE a) (ev G a)) tNil) σ H Q := by
  obtain ⟨Z, env, Os, q, m, rs, env', h1, h2⟩ := h
  simp only [muE, muEs, List.append_nil] at h2
  obtain ⟨ma, ra, h3, h4, rfl⟩ := bi_run1 h1
  exact Rx.go q h3 fun x H1 ⟨Z1, Os1, O1, q1, s1, r1, ro1⟩ => ⟨x, Z1, ma, m, O1, rfl, q1.zh, r1, h4, fun v H' n => h2 v H' (n.post q1 s1)⟩
theorem b2_run {bi : Bi} {Q : VK} (h : Rx B (muE (.bi bi [a, b])) (ev G (.bi bi [a, b])) σ H Q) : tCB (rB2 B (bi2 bi)) (tCons (Rx B (muE a) (ev G a)) (tCons (Rx B (muE b) (ev G b)) tNil)) σ H Q := by
  obtain ⟨Z, env, Os, q, m, rs, env', h1, h2⟩ := h
  simp only [muE, muEs, List.append_nil] at h2
  obtain ⟨ma, ra, e1, mb, rb, h3, h4, ap, h5, rfl⟩ := bi_run2 h1
  exact Rx.go q h3 fun x H1 ⟨Z1, Os1, O1, q1, s1, r1, ro1⟩ => Rx.go q1 h4 fun y H2 ⟨Z2, Os2, O2, q2, s2, r2, ro2⟩ =>
    ⟨x, y, Z2, ma, mb, m, O1, O2, rfl, q2.zh, carry q1 r1 ro1 s2 ap, r2, h5, fun v H' n => h2 v H' (n.post q2 (s1.trans s2 ml mr))⟩
theorem k_b1B {bi : Bi} {id : String} (hc : CallR X (.builtin id) (rB1 (wd X) (bi1 bi))) (ok : XOk G C X) (hg : glB C.sc nm = true) (hm : nm ∈ bnames) (hv : bootBuiltins nm = some (.builtin id)) (hd : noDbg nm = true) (ha : PE X xa (Rx (wd X) (muE a) (ev G a))) (hn : noStar xa = true) :
    PE X (.Call (.Name nm p) [xa] [] pos) (Rx (wd X) (muE (.bi bi [a])) (ev G (.bi bi [a]))) :=
  PE.of (pe_callB hc (gl_of ok hg) (ok.bl _ hm) hv (pa_cons ha pa_nil (starEach_no hn)) (noDbg_of hd).2.2 (noDbg_of hd).1 (starEach_no hn) rfl) fun σ H Q h => b1_run h
theorem k_b1T {bi : Bi} {T : String} (hc : CallR X (.type T) (rB1 (wd X) (bi1 bi))) (ok : XOk G C X) (hg : glB C.sc nm = true) (hm : nm ∈ bnames) (hv : bootBuiltins nm = some (.type T)) (hd : noDbg nm = true) (ha : PE X xa (Rx (wd X) (muE a) (ev G a))) (hn : noStar xa = true) :
    PE X (.Call (.Name nm p) [xa] [] pos) (Rx (wd X) (muE (.bi bi [a])) (ev G (.bi bi [a]))) :=
  PE.of (pe_callTy hc (gl_of ok hg) (ok.bl _ hm) hv (pa_cons ha pa_nil (starEach_no hn)) (noDbg_of hd).2.2 (noDbg_of hd).1 (starEach_no hn) rfl) fun σ H Q h => b1_run h
theorem k_b2B {bi : Bi} {id : String} (hc : CallR X (.builtin id) (rB2 (wd X) (bi2 bi))) (ok : XOk G C X) (hg : glB C.sc nm = true) (hm : nm ∈ bnames) (hv : bootBuiltins nm = some (.builtin id)) (hd : noDbg nm = true) (ha : PE X xa (Rx (wd X) (muE a) (ev G a))) (hb : PE X xb (Rx (wd X) (muE b) (ev G b))) (hn : noStar xa = true) (hn2 : noStar xb = true) :
    PE X (.Call (.Name nm p) [xa, xb] [] pos) (Rx (wd X) (muE (.bi bi [a, b])) (ev G (.bi bi [a, b]))) :=
  PE.of (pe_callB hc (gl_of ok hg) (ok.bl _ hm) hv (pa_cons ha (pa_cons hb pa_nil (starEach_no hn2)) (starEach_no hn)) (noDbg_of hd).2.2 (noDbg_of hd).1 (starEach_no hn) (backTo_no (by simp [hn2]))) fun σ H Q h => b2_run h
theorem k_isi (bi : Bi) {ts : List Ty} {t : Ty} (hbi : ∀ m, bi1 bi m = isM ts m) (ht : t ≠ .non) (hts : ∀ u, ts.contains u = (decide (u = t) || (decide (u = .bool) && decide (t = .int)))) (ok : XOk G C X) (hg : glB C.sc "isinstance" = true) (hg2 : glB C.sc nm = true) (hm : nm ∈ bnames)
    (hv : bootBuiltins nm = some (.type (tyName t))) (hd : noDbg nm = true) (ha : PE X xa (Rx (wd X) (muE a) (ev G a))) (hn : noStar xa = true) : PE X (.Call (.Name "isinstance" p) [xa, .Name nm p2] [] pos) (Rx (wd X) (muE (.bi bi [a])) (ev G (.bi bi [a]))) := by
  have hT : PE X (.Name nm p2) (tC (.ty (tyName t))) := pe_bltn (gl_of ok hg2) (ok.bl _ hm) hv rfl (noDbg_of hd).2.2 (noDbg_of hd).1
  refine PE.of (pe_callB call_isi (gl_of ok hg) (ok.bl _ (by simp [bnames])) PyProof.Rows.boot_isinstance (pa_cons ha (pa_cons hT pa_nil) (starEach_no hn)) (by decide) (by decide) (starEach_no hn) rfl) fun σ H Q ⟨Z, env, Os, q, m, rs, env', h1, h2⟩ => ?_
  simp only [muE, muEs, List.append_nil] at h2
  obtain ⟨ma, ra, h3, h4, rfl⟩ := bi_run1 h1
  rw [hbi] at h4
  cases h4
  refine Rx.go q h3 fun x H1 ⟨Z1, Os1, O1, q1, s1, r1, ro1⟩ => ⟨x, .ty (tyName t), _, _, _, rfl, .ty _, r1.ty, kit_ty (kit_all (tyD ma) t ht), ?_⟩
  rw [← hts]
  exact h2 _ _ ((New.pure (.bl _)).post q1 s1)
theorem k_istl (ok : XOk G C X) {k : Nat} (hg : glB C.sc "isinstance" = true) (hg1 : glB C.sc "tuple" = true) (hg2 : glB C.sc "list" = true) (ha : PE X xa (Rx (wd X) (muE a) (ev G a))) (hn : noStar xa = true) :
    PE X (.Call (.Name "isinstance" p) [xa, .Tuple [.Name "tuple" p1, .Name "list" p2] k p3] [] pos) (Rx (wd X) (muE (.bi .istl [a])) (ev G (.bi .istl [a]))) := by
  have hT : PE X (.Name "tuple" p1) (tC (.ty "tuple")) := pe_bltn (gl_of ok hg1) (ok.bl _ (by simp [bnames])) PyProof.Rows.boot_tuple rfl
  have hL : PE X (.Name "list" p2) (tC (.ty "list")) := pe_bltn (gl_of ok hg2) (ok.bl _ (by simp [bnames])) PyProof.Rows.boot_list rfl
  refine PE.of (pe_callB call_isiT (gl_of ok hg) (ok.bl _ (by simp [bnames])) PyProof.Rows.boot_isinstance (pa_cons ha (pa_cons (pe_tup (pa_cons hT (pa_cons hL pa_nil))) pa_nil) (starEach_no hn)) (by decide) (by decide) (starEach_no hn) rfl) fun σ H Q ⟨Z, env, Os, q, m, rs, env', h1, h2⟩ => ?_
  simp only [muE, muEs, List.append_nil] at h2
  obtain ⟨ma, ra, h3, h4, rfl⟩ := bi_run1 h1
  cases (show isM [.tuple, .list] ma = .ok m from h4)
  refine Rx.go q h3 fun x H1 ⟨Z1, Os1, O1, q1, s1, r1, ro1⟩ => ⟨by show 2 ≤ sizeLine; rw [sizeLine_eq]; decide, fun tp htp => ?_⟩
  have g : Grow H1 (upd H1 tp (.tup [.ty "tuple", .ty "list"])) := Grow.upd htp
  have r2 := r1.stay g.stay (fun _ z => z) fun a o _ h => g a o h
  refine ⟨x, tp, [.ty "tuple", .ty "list"], _, [.type "tuple", .type "list"], _, rfl, upd_same, .cons (.ty _) (.cons (.ty _) .nil), r2.ty, ?_, h2 _ _ ((New.pure (.bl ([Ty.tuple, Ty.list].contains (tyD ma)))).post (q1.grow g) (s1.grow g q1))⟩
  have k1 := kit_ty (K := (wd X).K) (kit_all (tyD ma) .tuple (by simp))
  have k2 := kit_ty (K := (wd X).K) (kit_all (tyD ma) .list (by simp))
  refine kitAny_cons k1 (fun h => kitAny_cons k2 (fun h' => ?_) fun h' => ?_) fun h => ?_
  · rw [kitAny_nil]; cases hx : tyD ma <;> simp_all
  · cases hx : tyD ma <;> simp_all
  · cases hx : tyD ma <;> simp_all

/-! ### methods -/
def plainBase : Expr → Bool
  | .Call (.Name _ _) [] [] _ => false
  | _ => true
theorem base_ok {o : Expr} {x : Str} {env : PySem.Env} (h : plainBase o = true) : attributeBase o x env (eval o env) = eval o env := by
  unfold attributeBase
  split
  · cases h
  · rfl
theorem few1 {e : Expr} {env : PySem.Env} {cpos : Pos} (h : noStar e = true) : ((backTo cpos (starEach [e] env)).all (fun x => !x.1) && (backToKw cpos (keywordEach [] env)).all (fun x => x.1.isSome)
    && decide (([e] : List Expr).length + ([] : List Keyword).length + (if ([] : List Keyword).isEmpty then 0 else 1) < 30)) = true := by
  rw [starEach_no h]; rfl
theorem few2 {e f : Expr} {env : PySem.Env} {cpos : Pos} (h : noStar e = true) (h2 : noStar f = true) : ((backTo cpos (starEach [e, f] env)).all (fun x => !x.1) && (backToKw cpos (keywordEach [] env)).all (fun x => x.1.isSome)
    && decide (([e, f] : List Expr).length + ([] : List Keyword).length + (if ([] : List Keyword).isEmpty then 0 else 1) < 30)) = true := by
  rw [starEach_no h, starEach_no h2]; rfl
theorem lst_ty {K : PySem.W.Frag} {x : V} {a : Addr} {vs : List V} (e : x = .ref a) (h : SqL K H a vs) : tyV K "list" x H := by
  subst e
  exact .inl ⟨rfl, vs, h⟩
theorem mt_run1 {mt : Mt} {rs : List Nat} (h : ev G (.mt mt a [b]) env = .ok (m, rs, env')) : ∃ ma ra e1 mb rb, ev G a env = .ok (ma, ra, e1) ∧ ev G b e1 = .ok (mb, rb, env') ∧ apart ra (muE b) = true ∧ mtD mt ma [mb] = .ok m ∧ rs = [] := by
  rw [ev] at h
  obtain ⟨⟨ma, ra, e1⟩, h1, h⟩ := R.bind_ok h
  obtain ⟨⟨ms, rb, e2⟩, h2, h⟩ := R.bind_ok h
  obtain ⟨mb, h3, rfl⟩ := evs1 h2
  obtain ⟨ap, h⟩ := R.of_if h
  obtain ⟨m', h4, h⟩ := R.bind_ok h
  cases h
  exact ⟨ma, ra, e1, mb, rb, h1, h3, by simpa [muEs] using ap, h4, rfl⟩
theorem m1_run {mt : Mt} {f : M → M → R M} (hf : ∀ x y, mtD mt x [y] = f x y) (hl : ∀ x y m, f x y = .ok m → ∃ ys, x.lst = .ok ys) {Q : VK} (h : Rx B (muE (.mt mt a [b])) (ev G (.mt mt a [b])) σ H Q) :
    tBM B.K "list" (rM1 B f) (Rx B (muE a) (ev G a)) (tCons (Rx B (muE b) (ev G b)) tNil) σ H Q := by
  obtain ⟨Z, env, Os, q, m, rs, env', h1, h2⟩ := h
  simp only [muE, muEs, List.append_nil] at h2
  obtain ⟨ma, ra, e1, mb, rb, h3, h4, ap, h5, rfl⟩ := mt_run1 h1
  rw [hf] at h5
  refine Rx.go q h3 fun x H1 ⟨Z1, Os1, O1, q1, s1, r1, ro1⟩ => ⟨?_, Rx.go q1 h4 fun y H2 ⟨Z2, Os2, O2, q2, s2, r2, ro2⟩ =>
    ⟨y, Z2, ma, mb, m, O1, O2, rfl, q2.zh, carry q1 r1 ro1 s2 ap, r2, h5, fun v H' n => h2 v H' (n.post q2 (s1.trans s2 ml mr))⟩⟩
  obtain ⟨ys, h6⟩ := hl _ _ _ h5
  obtain ⟨a, vs, e, _, h7⟩ := r1.lst h6
  exact lst_ty e h7
theorem idxM_lst {x y m : M} (h : idxM x y = .ok m) : ∃ ys, x.lst = .ok ys := by
  unfold idxM at h
  split at h
  · obtain ⟨ys, h1, _⟩ := R.bind_ok h
    exact ⟨ys, h1⟩
  · cases h
theorem cntM_lst {x y m : M} (h : cntM x y = .ok m) : ∃ ys, x.lst = .ok ys := by
  unfold cntM at h
  split at h
  · obtain ⟨ys, h1, _⟩ := R.bind_ok h
    exact ⟨ys, h1⟩
  · cases h
variable {ap cp : Pos}
theorem k_index (ok : XOk G C X) (ha : PE X xa (Rx (wd X) (muE a) (ev G a))) (hb : PE X xb (Rx (wd X) (muE b) (ev G b))) (hn : noStar xb = true) (hp : plainBase xa = true) (hl : (ap.endLine == cp.line) = true) :
    PE X (.Call (.Attribute xa "index" ap) [xb] [] cp) (Rx (wd X) (muE (.mt .index a [b])) (ev G (.mt .index a [b]))) :=
  PE.of (pe_bm PySem.F.plainAttrs_list PySem.F.slot_list_index PySem.F.type_list_index (mt_indexM ok.hu) ha (pa_cons hb pa_nil (starEach_no hn)) (base_ok hp) (few1 hn) hl (starEach_no hn) rfl) fun σ H Q h => m1_run (f := idxM) (fun _ _ => rfl) (fun _ _ _ h => idxM_lst h) h
theorem k_count (ok : XOk G C X) (ha : PE X xa (Rx (wd X) (muE a) (ev G a))) (hb : PE X xb (Rx (wd X) (muE b) (ev G b))) (hn : noStar xb = true) (hp : plainBase xa = true) (hl : (ap.endLine == cp.line) = true) :
    PE X (.Call (.Attribute xa "count" ap) [xb] [] cp) (Rx (wd X) (muE (.mt .count a [b])) (ev G (.mt .count a [b]))) :=
  PE.of (pe_bm PySem.F.plainAttrs_list PySem.F.slot_list_count PySem.F.type_list_count (mt_countM ok.hu) ha (pa_cons hb pa_nil (starEach_no hn)) (base_ok hp) (few1 hn) hl (starEach_no hn) rfl) fun σ H Q h => m1_run (f := cntM) (fun _ _ => rfl) (fun _ _ _ h => cntM_lst h) h
theorem getM_at {x y m : M} {e : D} (h : getM x y e = .ok m) : ∃ k kvs, y = .pu k ∧ x.dic = .ok kvs ∧ keyFit kvs k = true ∧ m = .pu ((dLook kvs k).getD e) := by
  unfold getM at h
  split at h
  · obtain ⟨kvs, h1, h⟩ := R.bind_ok h
    obtain ⟨hk, h⟩ := R.of_if h
    cases h
    exact ⟨_, kvs, rfl, h1, hk, rfl⟩
  · cases h
theorem k_get1 (ok : XOk G C X) (ha : PE X xa (Rx (wd X) (muE a) (ev G a))) (hb : PE X xb (Rx (wd X) (muE b) (ev G b))) (hn : noStar xb = true) (hp : plainBase xa = true) (hl : (ap.endLine == cp.line) = true) :
    PE X (.Call (.Attribute xa "get" ap) [xb] [] cp) (Rx (wd X) (muE (.mt .get a [b])) (ev G (.mt .get a [b]))) := by
  refine PE.of (pe_dget1 (by have := ok.hu; omega) ha hb ⟨base_ok hp, few1 hn, hl, by rw [starEach_no hn]; rfl⟩) fun σ H Q ⟨Z, env, Os, q, m, rs, env', h1, h2⟩ => ?_
  simp only [muE, muEs, List.append_nil] at h2
  obtain ⟨ma, ra, e1, mb, rb, h3, h4, ap, h5, rfl⟩ := mt_run1 h1
  obtain ⟨k, kvs, rfl, h6, h7, rfl⟩ := getM_at (show getM ma mb .none = .ok m from h5)
  refine Rx.go q h3 fun x H1 ⟨Z1, Os1, O1, q1, s1, r1, ro1⟩ => ?_
  obtain ⟨p, ks, rfl, hk, rk⟩ := r1.dic h6
  refine ⟨p, rfl, .inl ⟨ks, .of hk⟩, Rx.go q1 h4 fun y H2 ⟨Z2, Os2, O2, q2, s2, r2, ro2⟩ => ?_⟩
  obtain ⟨p', ks2, e, hk2, rk2⟩ := (carry q1 r1 ro1 s2 ap).dic h6
  cases e
  obtain ⟨k', rfl, rfl⟩ := keyFit_key h7 r2
  refine ⟨_, DGet.k hk2, ?_⟩
  rcases rk2.look k' with ⟨w, d, h8, h9, h10⟩ | ⟨h8, h9⟩
  · rw [h8]
    rw [h9] at h2
    exact h2 _ _ ((New.pure h10).post q2 (s1.trans s2 ml mr))
  · rw [h8]
    rw [h9] at h2
    exact h2 _ _ ((New.pure .non).post q2 (s1.trans s2 ml mr))
theorem k_get2 (ok : XOk G C X) (ha : PE X xa (Rx (wd X) (muE a) (ev G a))) (hb : PE X xb (Rx (wd X) (muE b) (ev G b))) (hc : PE X xc (Rx (wd X) (muE c) (ev G c))) (hn : noStar xb = true) (hn2 : noStar xc = true) (hp : plainBase xa = true) (hl : (ap.endLine == cp.line) = true) :
    PE X (.Call (.Attribute xa "get" ap) [xb, xc] [] cp) (Rx (wd X) (muE (.mt .get a [b, c])) (ev G (.mt .get a [b, c]))) := by
  refine PE.of (pe_dget2 (by have := ok.hu; omega) ha hb hc ⟨base_ok hp, few2 hn hn2, hl, by rw [starEach_no hn, starEach_no hn2]; rfl⟩) fun σ H Q ⟨Z, env, Os, q, m, rs, env', h1, h2⟩ => ?_
  simp only [muE, muEs, List.append_nil] at h2
  rw [ev] at h1
  obtain ⟨⟨ma, ra, e1⟩, h3, h1⟩ := R.bind_ok h1
  obtain ⟨⟨ms, rb, e2⟩, h4, h1⟩ := R.bind_ok h1
  obtain ⟨mb, rb, e3, mc, rc, h5, h6, ap2, rfl⟩ := evs2 h4
  obtain ⟨ap, h1⟩ := R.of_if h1
  obtain ⟨m', h7, h1⟩ := R.bind_ok h1
  cases h1
  simp only [muEs, List.append_nil] at ap
  have hpu : ∃ d, mc = .pu d ∧ getM ma mb d = .ok m := by
    cases mc with
    | pu d => exact ⟨d, rfl, h7⟩
    | _ => cases h7
  obtain ⟨d, rfl, h7⟩ := hpu
  obtain ⟨k, kvs, rfl, h8, h9, rfl⟩ := getM_at h7
  have ap0 : apart ra (muE b) = true ∧ apart ra (muE c) = true := by
    unfold apart at ap ⊢
    simp only [List.all_eq_true] at ap ⊢
    exact ⟨fun i hi => by have := ap i hi; simp only [List.contains_eq_mem, List.mem_append, Bool.not_eq_true', decide_eq_false_iff_not, not_or] at this ⊢; exact this.1,
      fun i hi => by have := ap i hi; simp only [List.contains_eq_mem, List.mem_append, Bool.not_eq_true', decide_eq_false_iff_not, not_or] at this ⊢; exact this.2⟩
  refine Rx.go q h3 fun x H1 ⟨Z1, Os1, O1, q1, s1, r1, ro1⟩ => ?_
  obtain ⟨p, ks, rfl, hk, rk⟩ := r1.dic h8
  refine ⟨p, rfl, .inl ⟨ks, .of hk⟩, Rx.go q1 h5 fun y H2 ⟨Z2, Os2, O2, q2, s2, r2, ro2⟩ => Rx.go q2 h6 fun z H3 ⟨Z3, Os3, O3, q3, s3, r3, ro3⟩ => ?_⟩
  have s23 := s2.trans s3 (mu := muE b ++ muE c) ml mr
  obtain ⟨p', ks2, e, hk2, rk2⟩ := (carry q1 r1 ro1 s23 ap).dic h8
  cases e
  obtain ⟨k', rfl, rfl⟩ := keyFit_key h9 r2
  refine ⟨_, DGet.k hk2, ?_⟩
  rcases rk2.look k' with ⟨w, d', h10, h11, h12⟩ | ⟨h10, h11⟩
  · rw [h10]
    rw [h11] at h2
    exact h2 _ _ ((New.pure h12).post q3 (s1.trans s23 ml mr))
  · rw [h10]
    rw [h11] at h2
    cases r3 with | pu r3 => exact h2 _ _ ((New.pure r3).post q3 (s1.trans s23 ml mr))

/-! ### list(range(..)), tuple(range(..)) -/
theorem rng_view {v : V} {i : Int} {O : List Addr} (r : RM B Z H v (.pu (.int i)) O) : v = .int i := r.int
theorem rg_rp (lo hi : Int) : RpL B Z H (rgV lo hi) (rngD lo hi) := by
  unfold rgV rngD
  generalize List.range (hi - lo).toNat = l
  induction l with
  | nil => exact .nil
  | cons i l ih => exact .cons (.int _) ih
theorem rgC_at {i j : Int} (h : rgC i j = true) : -(2 ^ 62) ≤ i ∧ i < 2 ^ 62 ∧ -(2 ^ 62) ≤ j ∧ j < 2 ^ 62 := of_decide_eq_true h
theorem rgB_at {i j : Int} (h : rgB i j = true) : RgOk i j := by
  unfold rgB at h
  simp only [Bool.and_eq_true, decide_eq_true_eq] at h
  obtain ⟨h1, h2⟩ := h
  obtain ⟨a1, a2, a3, a4⟩ := rgC_at h1
  exact ⟨a1, a2, a3, a4, h2⟩
theorem rgOf_1 {m : M} {i j : Int} (h : rgOf [m] = .ok (i, j)) : m = .pu (.int j) ∧ i = 0 := by
  cases m with
  | pu d => cases d <;> first | (simp only [rgOf] at h; cases h; done) | (simp only [rgOf] at h; cases h; exact ⟨rfl, rfl⟩)
  | _ => simp only [rgOf] at h; cases h
theorem rgOf_2 {m n : M} {i j : Int} (h : rgOf [m, n] = .ok (i, j)) : m = .pu (.int i) ∧ n = .pu (.int j) := by
  cases m with
  | pu d =>
    cases n with
    | pu e => cases d <;> first | (simp only [rgOf] at h; cases h; done) | (cases e <;> first | (simp only [rgOf] at h; cases h; done) | (simp only [rgOf] at h; cases h; exact ⟨rfl, rfl⟩))
    | _ => simp only [rgOf] at h; cases h
  | _ => simp only [rgOf] at h; cases h
/-- a range's bounds -/
def Gx (B : Wd) (mu : List Nat) (run : Env → R (Int × Int × Env)) : L2.St → Hp → (Int → Int → Hp → Prop) → Prop := fun σ H Q =>
  ∃ Z env Os, Sat B Z σ H env Os ∧ ∃ i j env', run env = .ok (i, j, env') ∧ ∀ H', BPost B mu σ Z H env Os env' H' → Q i j H'
def gRun (G : List Fn) (es : List E) : Env → R (Int × Int × Env) := fun env => do
  let (ms, _, e1) ← evs G es env
  let (i, j) ← rgOf ms
  R.ok (i, j, e1)
theorem PRg.of {e : Expr} {t t' : L2.St → Hp → (Int → Int → Hp → Prop) → Prop} (h : PRg X e t) (w : ∀ σ H Q, t' σ H Q → t σ H Q) : PRg X e t' := fun pins s σ H Q I q => h pins s σ H Q I (w σ H Q q)
theorem g_1 (ok : XOk G C X) (hg : glB C.sc "range" = true) (ha : PE X xa (Rx (wd X) (muE a) (ev G a))) (hn : noStar xa = true) : PRg X (.Call (.Name "range" p) [xa] [] pos) (Gx (wd X) (muEs [a]) (gRun G [a])) := by
  refine PRg.of (prg_1 (gl_of ok hg) (ok.bl _ (by simp [bnames])) ha (starEach_no hn)) fun σ H Q ⟨Z, env, Os, q, i, j, env', h1, h2⟩ => ?_
  unfold gRun at h1
  simp only [muEs, List.append_nil] at h2
  obtain ⟨⟨ms, r, e1⟩, h3, h1⟩ := R.bind_ok h1
  obtain ⟨⟨i', j'⟩, h4, h1⟩ := R.bind_ok h1
  cases h1
  obtain ⟨m, h5, rfl⟩ := evs1 h3
  obtain ⟨rfl, rfl⟩ := rgOf_1 h4
  refine Rx.go q h5 fun x H1 p => ?_
  obtain ⟨Z1, Os1, q1, s1, r1⟩ := p.pure
  cases r1
  exact ⟨_, rfl, h2 _ ⟨Z1, Os1, q1, s1⟩⟩
theorem g_2 (ok : XOk G C X) (hg : glB C.sc "range" = true) (ha : PE X xa (Rx (wd X) (muE a) (ev G a))) (hb : PE X xb (Rx (wd X) (muE b) (ev G b))) (hn : noStar xa = true) (hn2 : noStar xb = true) : PRg X (.Call (.Name "range" p) [xa, xb] [] pos) (Gx (wd X) (muEs [a, b]) (gRun G [a, b])) := by
  refine PRg.of (prg_2 (gl_of ok hg) (ok.bl _ (by simp [bnames])) ha hb (starEach_no hn) (starEach_no hn2) (backTo_no (by simp [hn2]))) fun σ H Q ⟨Z, env, Os, q, i, j, env', h1, h2⟩ => ?_
  unfold gRun at h1
  simp only [muEs, List.append_nil] at h2
  obtain ⟨⟨ms, r, e1⟩, h3, h1⟩ := R.bind_ok h1
  obtain ⟨⟨i', j'⟩, h4, h1⟩ := R.bind_ok h1
  cases h1
  obtain ⟨ma, ra, e1, mb, rb, h5, h6, ap, rfl⟩ := evs2 h3
  obtain ⟨rfl, rfl⟩ := rgOf_2 h4
  refine Rx.go q h5 fun x H1 p1 => ?_
  obtain ⟨Z1, Os1, q1, s1, r1⟩ := p1.pure
  cases r1
  refine Rx.go q1 h6 fun y H2 p2 => ?_
  obtain ⟨Z2, Os2, q2, s2, r2⟩ := p2.pure
  cases r2
  exact ⟨_, _, rfl, rfl, h2 _ ⟨Z2, Os2, q2, s1.trans s2 ml mr⟩⟩
theorem k_rgl (ok : XOk G C X) {t : Bool} (hg : glB C.sc nm = true) (hnm : nm = if t then "tuple" else "list") (h : PRg X xa (Gx (wd X) (muEs es) (gRun G es))) (hn : noStar xa = true) :
    PE X (.Call (.Name nm p) [xa] [] pos) (Rx (wd X) (muE (.rgl t es)) (ev G (.rgl t es))) := by
  have run : ∀ {σ H Q}, Rx (wd X) (muE (.rgl t es)) (ev G (.rgl t es)) σ H Q → Gx (wd X) (muEs es) (gRun G es) σ H fun i j H1 => RgOk i j ∧ ∀ q, H1 q = none → Q (.ref q) (upd H1 q (if t = true then .tup (rgV i j) else .lst (rgV i j))) := by
    intro σ H Q ⟨Z, env, Os, q, m, rs, env', h1, h2⟩
    rw [ev] at h1
    simp only [muE] at h2
    obtain ⟨⟨ms, r, e1⟩, h3, h1⟩ := R.bind_ok h1
    obtain ⟨⟨i, j⟩, h4, h1⟩ := R.bind_ok h1
    obtain ⟨hb, h1⟩ := R.of_if h1
    cases h1
    have hg : gRun G es env = .ok (i, j, env') := by
      unfold gRun; rw [h3]; show (rgOf ms >>= _) = _; rw [h4]; rfl
    refine ⟨Z, env, Os, q, i, j, env', hg, fun H1 ⟨Z1, Os1, q1, s1⟩ => ⟨rgB_at hb, fun p hp => ?_⟩⟩
    cases t with
    | true => exact h2 _ _ ((New.tup hp (rg_rp i j)).post q1 s1)
    | false => exact h2 _ _ ((New.li hp (rg_rp i j)).post q1 s1)
  cases t with
  | true =>
    simp only [if_true] at hnm
    subst hnm
    exact PE.of (pe_tupRg ok.calm (gl_of ok hg) (ok.bl _ (by simp [bnames])) h (starEach_no hn)) fun σ H Q h => run h
  | false =>
    simp only [Bool.false_eq_true, if_false] at hnm
    subst hnm
    exact PE.of (pe_listRg ok.calm (gl_of ok hg) (ok.bl _ (by simp [bnames])) h (starEach_no hn)) fun σ H Q h => run h
theorem k_dct0 : PE X (.Dict [] [] pos) (Rx (wd X) (muE (.dct [])) (ev G (.dct []))) := by
  refine PE.of pe_dnewK fun σ H Q ⟨Z, env, Os, q, m, rs, env', h1, h2⟩ => fun p hp => ?_
  simp only [ev, evKs] at h1
  obtain ⟨⟨kvs, e1⟩, h3, h4⟩ := R.bind_ok h1
  cases h3
  cases h4
  exact h2 _ _ (New.post ⟨Grow.upd hp, [p], .dK upd_same .nil, by simp, fun a ha => by simp at ha; subst ha; exact hp⟩ q Step.refl)
end
end TR

set_option Elab.async false
set_option linter.all false
set_option maxHeartbeats 4000000
namespace TR
open PySem PySem.Spec PyProof.Rows L2 StX

section
variable {G : List Fn} {C : Ctx} {X : Cx} {B : Wd} {Z Z' Z0 Z1 Z2 : Zn} {H H' H0 H1 H2 : Hp} {σ σ' : L2.St} {env env' env0 env1 : Env} {Os Os' Os0 Os1 : List (List Addr)} {mu : List Nat} {v : V} {m : M} {d : D} {a b c : E} {xa xb xc : Expr} {pos p p0 p1 p2 p3 : Pos} {es : List E} {xs : List Expr} {nm : Str}

/-! ### a slot gets another content -/
theorem flat_set {O1 : List Addr} {Os : List (List Addr)} {i : Nat} {a : Addr} (h : a ∈ (Os.set i O1).flatten) : (a ∈ O1 ∧ i < Os.length) ∨ (∃ j O, j ≠ i ∧ Os[j]? = some O ∧ a ∈ O) := by
  obtain ⟨j, O, h1, h2⟩ := mem_flat.mp h
  rcases getElem?_set_or h1 with ⟨rfl, rfl, hl⟩ | ⟨hj, h1⟩
  · exact .inl ⟨h2, hl⟩
  · exact .inr ⟨j, O, hj, h1, h2⟩
theorem nodup_set {O1 : List Addr} : ∀ {Os : List (List Addr)} {i : Nat}, Os.flatten.Nodup → O1.Nodup → (∀ a ∈ O1, ∀ j O, j ≠ i → Os[j]? = some O → a ∉ O) → (Os.set i O1).flatten.Nodup
  | [], i, h, _, _ => by simpa using h
  | P :: Os, 0, h, h1, h2 => by
    simp only [List.set_cons_zero, List.flatten_cons]
    rw [List.flatten_cons] at h
    refine List.nodup_append.mpr ⟨h1, (List.nodup_append.mp h).2.1, fun a ha b hb e => ?_⟩
    subst e
    obtain ⟨j, O, h3, h4⟩ := mem_flat.mp hb
    exact h2 a ha (j + 1) O (by simp) (by simpa using h3) h4
  | P :: Os, i + 1, h, h1, h2 => by
    simp only [List.set_cons_succ, List.flatten_cons]
    rw [List.flatten_cons] at h
    obtain ⟨k1, k2, k3⟩ := List.nodup_append.mp h
    refine List.nodup_append.mpr ⟨k1, nodup_set k2 h1 fun a ha j O hj ho => h2 a ha (j + 1) O (by omega) (by simpa using ho), fun a ha b hb e => ?_⟩
    subst e
    rcases flat_set hb with ⟨k4, _⟩ | ⟨j, O, k4, k5, k6⟩
    · exact h2 a k4 0 P (by simp) rfl ha
    · exact k3 a ha a (mem_flat.mpr ⟨j, O, k5, k6⟩) rfl
theorem own_apart (q : Sat B Z σ H env Os) {i j : Nat} {O O' : List Addr} {a : Addr} (hn : i ≠ j) (h1 : Os[i]? = some O) (h2 : Os[j]? = some O') (h3 : a ∈ O) : a ∉ O' := fun h4 => flat_set_nil.flat_apart q.nd hn h1 h2 h3 h4
theorem Sat.upd {i : Nat} {Oi O1 : List Addr} {m1 : M} {v1 : V} (q : Sat B Z σ H env Os) (hO : Os[i]? = some Oi) (keep : ∀ a o, H a = some o → a ∉ Oi → H' a = some o) (zz : ∀ a, Z a → Z' a) (zn : ∀ a, Z' a → (Z a ∨ H a = none ∨ a ∈ Oi) ∧ H' a ≠ none)
    (hl : σ'.length = σ.length) (hv : σ'[i]? = some (some v1)) (hs : ∀ j, j ≠ i → σ'[j]? = σ[j]?) (r : RM B Z' H' v1 m1 O1) (nd : O1.Nodup) (ho : ∀ a ∈ O1, ¬ Z' a ∧ ∀ j O, j ≠ i → Os[j]? = some O → a ∉ O) : Sat B Z' σ' H' (env.set i (some m1)) (Os.set i O1) := by
  have hi : i < env.length := by rw [← q.len1]; exact (List.getElem?_eq_some_iff.mp hO).1
  have hOl : i < Os.length := (List.getElem?_eq_some_iff.mp hO).1
  have st : Stay Z H H' := ⟨fun a o z e => keep a o e fun h => q.nz a (mem_flat.mpr ⟨i, Oi, hO, h⟩) z, fun a ys e => keep a _ e fun h => q.not_tup e (mem_flat.mpr ⟨i, Oi, hO, h⟩), fun a o u e => keep a _ e fun h => q.not_frz e (mem_flat.mpr ⟨i, Oi, hO, h⟩)⟩
  refine ⟨by rw [List.length_set, List.length_set]; exact q.len1, by rw [hl, q.len2, List.length_set], fun j m e => ?_, fun j e => ?_, nodup_set q.nd nd fun a ha => (ho a ha).2, fun a ha z => ?_, fun a z => (zn a z).2⟩
  · rcases getElem?_set_or e with ⟨rfl, e1, _⟩ | ⟨hj, e1⟩
    · cases e1
      exact ⟨v1, O1, hv, List.getElem?_set_self hOl, r⟩
    · obtain ⟨w, O, h1, h2, h3⟩ := q.val j m e1
      exact ⟨w, O, by rw [hs j hj]; exact h1, by rw [List.getElem?_set_ne (Ne.symm hj)]; exact h2, h3.stay st zz fun a o ha e => keep a o e (own_apart q hj h2 hO ha)⟩
  · rcases getElem?_set_or e with ⟨rfl, e1, _⟩ | ⟨hj, e1⟩
    · cases e1
    · rw [List.getElem?_set_ne (Ne.symm hj)]; exact q.emp j e1
  · rcases flat_set ha with ⟨h1, _⟩ | ⟨j, O, h1, h2, h3⟩
    · exact (ho a h1).1 z
    · have hm := mem_flat.mpr ⟨j, O, h2, h3⟩
      rcases (zn a z).1 with k | k | k
      · exact q.nz a hm k
      · exact q.there hm k
      · exact own_apart q h1 h2 hO h3 k
theorem Step.upd {i : Nat} {Oi O1 : List Addr} {w : Option M} (s : Step mu Z0 H0 env0 Os0 Z H env Os) (q : Sat B Z σ H env Os) (hm : i ∈ mu) (hO : Os[i]? = some Oi) (keep : ∀ a o, H a = some o → a ∉ Oi → H' a = some o) (dom : ∀ a, H' a = none → H a = none)
    (zz : ∀ a, Z a → Z' a) (zn : ∀ a, Z' a → Z a ∨ H a = none ∨ a ∈ Oi) (on : ∀ a ∈ O1, H0 a = none ∨ a ∈ Os0.flatten) : Step mu Z0 H0 env0 Os0 Z' H' (env.set i w) (Os.set i O1) := by
  have inO : ∀ a ∈ Oi, H0 a = none ∨ a ∈ Os0.flatten := fun a h => s.on a (mem_flat.mpr ⟨i, Oi, hO, h⟩)
  refine ⟨by rw [List.length_set]; exact s.elen, fun a z => zz a (s.zz a z), fun a z => ?_, fun a ha => ?_, fun a o e hn => ?_, fun a e => s.dom a (dom a e), fun j hj => ?_⟩
  · rcases zn a z with k | k | k
    · exact s.zn a k
    · exact .inr (.inl (s.dom a k))
    · exact .inr (inO a k)
  · rcases flat_set ha with ⟨h1, _⟩ | ⟨j, O, h1, h2, h3⟩
    · exact on a h1
    · exact s.on a (mem_flat.mpr ⟨j, O, h2, h3⟩)
  · refine keep a o (s.keep a o e hn) fun h => ?_
    rcases inO a h with k | k
    · rw [k] at e; cases e
    · exact hn k
  · have hn : i ≠ j := fun e => hj (e ▸ hm)
    obtain ⟨h1, h2, h3⟩ := s.slot j hj
    rw [List.getElem?_set_ne hn, List.getElem?_set_ne hn]
    refine ⟨h1, h2, fun O hO2 a ha => ?_⟩
    have hin : Os[j]? = some O := h2.trans hO2
    obtain ⟨u, hu⟩ := Mut.some (q.own a (mem_flat.mpr ⟨j, O, hin, ha⟩))
    rw [keep a u hu (own_apart q (Ne.symm hn) hin hO ha), ← hu, h3 O hO2 a ha]

/-! ### calls of defs -/
theorem NewC.post {m : M} {v : V} (n : NewC B Z H m v H') (q : Sat B Z σ H env Os) (s : Step mu Z0 H0 env0 Os0 Z H env Os) : Post B mu σ Z0 H0 env0 Os0 m [] env v H' := by
  obtain ⟨g, Z', O, zz, zn, r, nd, ho⟩ := n
  refine ⟨Z', Os, O, ⟨q.len1, q.len2, fun i m e => let ⟨v, O, h1, h2, r⟩ := q.val i m e; ⟨v, O, h1, h2, r.stay g.stay zz fun a o _ h => g a o h⟩, q.emp, q.nd, fun a ha z => ?_, fun a z => (zn a z).2⟩, ?_, r, fun _ => ⟨List.nodup_append.mpr ⟨nd, q.nd, fun a h1 b h2 e => ?_⟩, fun a ha => ⟨(ho a ha).2, .inl (s.dom a (ho a ha).1)⟩⟩, fun h => (h rfl).elim, nd⟩
  · rcases (zn a z).1 with k | k
    · exact q.nz a ha k
    · exact q.there ha k
  · have s' := s.grow g q
    refine ⟨s'.elen, fun a z => zz a (s.zz a z), fun a z => ?_, s'.on, s'.keep, s'.dom, s'.slot⟩
    rcases (zn a z).1 with k | k
    · exact s.zn a k
    · exact .inr (.inl (s.dom a k))
  · subst e
    exact q.there h2 (ho a h1).1
theorem evTs_len : ∀ {es : List E} {env env' : Env} {ds : List D}, es.all (fun e => !isStar e) = true → evTs G es env = .ok (ds, env') → ds.length = es.length
  | [], env, env', ds, _, h => by simp only [evTs] at h; cases h; rfl
  | e :: es, env, env', ds, hs, h => by
    simp only [List.all_cons, Bool.and_eq_true, Bool.not_eq_true'] at hs
    rw [evTs_cons hs.1] at h
    obtain ⟨⟨d, e1⟩, h1, h⟩ := R.bind_ok h
    obtain ⟨⟨ds', e2⟩, h2, h⟩ := R.bind_ok h
    cases h
    simp [evTs_len hs.2 h2]
theorem call_run {k n : Nat} {f : FP} (hs : es.all (fun e => !isStar e) = true) (hn : es.length = n) (hf : G[k]? = some (.pr f)) {Q : VK} (h : Rx B (muE (.call k es)) (ev G (.call k es)) σ H Q) : tCall (spP B n f) [] E0 (Lx B (muTs es) (evTs G es)) σ H Q := by
  obtain ⟨Z, env, Os, q, m, rs, env', h1, h2⟩ := h
  simp only [ev] at h1
  simp only [muE] at h2
  obtain ⟨⟨ds, e1⟩, h3, h1⟩ := R.bind_ok h1
  obtain ⟨m', h4, h1⟩ := R.bind_ok h1
  cases h1
  have hfp : fpOf G k = f := by unfold fpOf; rw [hf]
  simp only [hfp] at h4
  refine ⟨Z, env, Os, q, ds, e1, h3, fun vs H1 ⟨Z1, Os1, q1, s1, r1⟩ => ?_⟩
  show spP B n f (vs ++ []) H1 Q E0
  rw [List.append_nil]
  refine ⟨by rw [r1.length, evTs_len hs h3, hn], Z1, ds, m, q1.zh, r1, h4, fun v H' nc => h2 v H' (nc.post q1 s1)⟩
theorem k_call (ok : XOk G C X) {k n : Nat} {f : FP} (hC : C.fn[k]? = some (nm, n)) (hf : G[k]? = some (.pr f)) (hg : glB C.sc nm = true) (hd : noDbg nm = true) (hs : es.all (fun e => !isStar e) = true) (hn : es.length = n) (ha : PA X (xa :: xs) (Lx (wd X) (muTs es) (evTs G es))) (hx : (xa :: xs).all noStar = true) :
    PE X (.Call (.Name nm p) (xa :: xs) [] pos) (Rx (wd X) (muE (.call k es)) (ev G (.call k es))) := by
  obtain ⟨j, fa, fd, ps, h1, h2, h3, h4, F, hr⟩ := ok.fns k nm n _ hC hf
  simp only [List.all_cons, Bool.and_eq_true] at hx
  exact PE.of (pe_call (dvs := []) (ds := []) F hr (gl_of ok hg) h1 h2 h3 .nil pass0 ha (noDbg_of hd).1 (starEach_no hx.1) (backTo_no hx.2)) fun σ H Q h => call_run hs hn hf h
theorem k_call0 (ok : XOk G C X) {k : Nat} {f : FP} (hC : C.fn[k]? = some (nm, 0)) (hf : G[k]? = some (.pr f)) (hg : glB C.sc nm = true) (hd : noDbg nm = true) :
    PE X (.Call (.Name nm p) [] [] pos) (Rx (wd X) (muE (.call k [])) (ev G (.call k []))) := by
  obtain ⟨j, fa, fd, ps, h1, h2, h3, h4, F, hr⟩ := ok.fns k nm 0 _ hC hf
  refine PE.of (pe_call0 (dvs := []) (ds := []) F hr (gl_of ok hg) h1 h2 h3 .nil pass0 (noDbg_of hd).1) fun σ H Q h => ?_
  obtain ⟨Z, env, Os, q, ds, env', h3, h4⟩ := call_run (es := []) rfl rfl hf h
  simp only [evTs] at h3
  cases h3
  exact h4 [] H ⟨Z, Os, q, Step.refl, .nil⟩
/-- behind a call that writes slot y -/
theorem NewW.post {y : Nat} {Oy : List Addr} {m m1 : M} {v w : V} (n : NewW B Z H Oy w m m1 v H') (q : Sat B Z σ H env Os) (s : Step mu Z0 H0 env0 Os0 Z H env Os) (hy : y ∈ mu) (hw : σ[y]? = some (some w)) (hO : Os[y]? = some Oy) :
    Post B mu σ Z0 H0 env0 Os0 m [] (env.set y (some m1)) v H' := by
  obtain ⟨keep, dom, Z', O', O1, zz, zn, r, r1, nd, ho⟩ := n
  obtain ⟨n1, n2, n3⟩ := List.nodup_append.mp nd
  have out : ∀ a ∈ O' ++ O1, ∀ j O, j ≠ y → Os[j]? = some O → a ∉ O := fun a ha j O hj hOj hin => by
    rcases (ho a ha).1 with k | k
    · exact q.there (mem_flat.mpr ⟨j, O, hOj, hin⟩) k
    · exact own_apart q hj hOj hO hin k
  have on : ∀ a ∈ O' ++ O1, H0 a = none ∨ a ∈ Os0.flatten := fun a ha => (ho a ha).1.elim (fun k => .inl (s.dom a k)) fun k => s.on a (mem_flat.mpr ⟨y, Oy, hO, k⟩)
  refine ⟨Z', Os.set y O1, O', q.upd hO keep zz zn rfl hw (fun _ _ => rfl) r1 n2 fun a ha => ⟨(ho a (List.mem_append_right _ ha)).2, out a (List.mem_append_right _ ha)⟩,
    s.upd q hy hO keep dom zz (fun a z => (zn a z).1) fun a ha => on a (List.mem_append_right _ ha), r, fun _ => ⟨List.nodup_append.mpr ⟨n1, ?_, fun a ha b hb e => ?_⟩, fun a ha => ⟨(ho a (List.mem_append_left _ ha)).2, on a (List.mem_append_left _ ha)⟩⟩, fun h => (h rfl).elim, n1⟩
  · exact nodup_set q.nd n2 fun a ha => out a (List.mem_append_right _ ha)
  · subst e
    rcases flat_set hb with ⟨k, _⟩ | ⟨j, O, k1, k2, k3⟩
    · exact n3 a ha a k rfl
    · exact out a (List.mem_append_left _ ha) j O k1 k2 k3
theorem k_callW (ok : XOk G C X) {k n y : Nat} {f : FW} {ynm : Str} (hC : C.fn[k]? = some (nm, n)) (hf : G[k]? = some (.wr f)) (hg : glB C.sc nm = true) (hd : noDbg nm = true) (hs : es.all (fun e => !isStar e) = true) (hn : es.length + 1 = n)
    (hN : C.N[y]? = some ynm) (hv : visB C.sc ynm = true) (hdy : noDbg ynm = true) (ha : PA X xs (Lx (wd X) (muTs es) (evTs G es))) (hx : xs.all noStar = true) :
    PE X (.Call (.Name nm p) (.Name ynm p2 :: xs) [] pos) (Rx (wd X) (muE (.callW k y es)) (ev G (.callW k y es))) := by
  obtain ⟨j, fa, fd, ps, h1, h2, h3, h4, F, hr⟩ := ok.fns k nm n _ hC hf
  have hp : PE X (.Name ynm p2) (tVar y) := pe_var (by rw [ok.N]; exact hN) (vis_of ok hv) (noDbg_of hdy).1 (noDbg_of hdy).2.1
  refine PE.of (pe_call (dvs := []) (ds := []) F hr (gl_of ok hg) h1 h2 h3 .nil pass0 (pa_cons hp ha) (noDbg_of hd).1 rfl (backTo_no hx)) fun σ H Q ⟨Z, env, Os, q, m, rs, env', h1, h2⟩ => ?_
  rw [ev] at h1
  simp only [muE] at h2
  obtain ⟨m00, h0, h1⟩ := R.bind_ok h1
  obtain ⟨⟨ds, e1⟩, h3, h1⟩ := R.bind_ok h1
  obtain ⟨m0, h4, h1⟩ := R.bind_ok h1
  obtain ⟨hown, h1⟩ := R.of_if h1
  obtain ⟨⟨m', m1⟩, h5, h1⟩ := R.bind_ok h1
  obtain ⟨hown1, h1⟩ := R.of_if h1
  cases h1
  have hfp : fwOf G k = f := by unfold fwOf; rw [hf]
  simp only [hfp] at h5
  obtain ⟨w, Ow, hw, _, _⟩ := q.val y m00 (Env.get_ok h0)
  refine ⟨w, hw, Z, env, Os, q, ds, e1, h3, fun vs H1 ⟨Z1, Os1, q1, s1, r1⟩ => ?_⟩
  show spW (wd X) n f ((w :: vs) ++ []) H1 Q E0
  rw [List.append_nil]
  obtain ⟨w', Oy, hw', hO, rw'⟩ := q1.val y m0 (Env.get_ok h4)
  rw [hw] at hw'; cases hw'
  refine ⟨by rw [List.length_cons, r1.length, evTs_len hs h3, hn], Z1, m0, w, ds, m, m1, Oy, vs, q1.zh, rfl, r1, rw', flat_mem q1.nd (List.mem_of_getElem? hO), fun a ha => q1.nz a (mem_flat.mpr ⟨y, Oy, hO, ha⟩), h5, fun v H' n => h2 v H' (n.post q1 (s1.mono fun i hi => List.mem_cons_of_mem _ hi) List.mem_cons_self hw hO)⟩
/-! ### y.pop(i) -/
def rPopM (B : Wd) : V → List V → Hp → VK → Prop := fun x vs H Q => ∃ l ws i k w, x = .ref l ∧ vs = [.int i] ∧ H l = some (.lst ws) ∧ ixN ws.length i = some k ∧ ws[k]? = some w ∧ Q w (upd H l (.lst (ws.eraseIdx k)))
theorem mt_popM : MtM X "list.pop" (rPopM (wd X)) := by
  intro pins s σ H x vs v us Q I rx rv ⟨l, ws, i, k, w, e1, e2, hH, hk, hw, q⟩
  subst e1 e2
  obtain ⟨z, its, n, r, hl, e⟩ := I.lstM hH
  obtain ⟨h1, h2, h3, h4⟩ := ixN_seq hk
  have hn := line63
  exact mt_popAt pins s σ H _ _ v us Q I rx rv ⟨l, ws, i, k, w, rfl, rfl, hH, by omega, by omega, h1, hw, q⟩
theorem k_popI (ok : XOk G C X) {y : Nat} {ynm : Str} {ap cp : Pos} (hN : C.N[y]? = some ynm) (hv : visB C.sc ynm = true) (hdy : noDbg ynm = true) (ha : PE X xa (Rx (wd X) (muE a) (ev G a))) (hn : noStar xa = true) (hl : (ap.endLine == cp.line) = true) :
    PE X (.Call (.Attribute (.Name ynm p2) "pop" ap) [xa] [] cp) (Rx (wd X) (muE (.popI y a)) (ev G (.popI y a))) := by
  have hp : PE X (.Name ynm p2) (tVar y) := pe_var (by rw [ok.N]; exact hN) (vis_of ok hv) (noDbg_of hdy).1 (noDbg_of hdy).2.1
  refine PE.of (pe_bm PySem.F.plainAttrs_list PySem.F.slot_list_pop PySem.F.type_list_pop mt_popM hp (pa_cons ha pa_nil (starEach_no hn)) rfl (few1 hn) hl (starEach_no hn) rfl) fun σ H Q ⟨Z, env, Os, q, m, rs, env', h1, h2⟩ => ?_
  rw [ev] at h1
  simp only [muE] at h2
  obtain ⟨m00, h0, h1⟩ := R.bind_ok h1
  obtain ⟨h00, h1⟩ := R.of_if h1
  obtain ⟨⟨mi, ri, e1⟩, h3, h1⟩ := R.bind_ok h1
  obtain ⟨i, h4, h1⟩ := R.bind_ok h1
  obtain ⟨m0, h5, h1⟩ := R.bind_ok h1
  have hmi := intR_ok h4
  split at h1
  · rename_i ds
    split at h1
    · rename_i k hk
      split at h1
      · rename_i d hd
        cases h1
        obtain ⟨w, Ow, hw, _, rw0⟩ := q.val y m00 (Env.get_ok h0)
        have hty : tyV (wd X).K "list" w H := by
          cases m00 with
          | li zs => cases rw0 with | li h r => exact lst_ty rfl (.inl (.of h))
          | _ => cases h00
        refine ⟨w, hw, hty, Rx.go q h3 fun x H1 p => ?_⟩
        rw [hmi] at p
        obtain ⟨Z1, Os1, q1, s1, r1⟩ := p.pure
        cases r1
        obtain ⟨w', Oy, hw', hO, rw1⟩ := q1.val y _ (Env.get_ok h5)
        rw [hw] at hw'; cases hw'
        cases rw1 with | li hH rl =>
        rename_i l ws
        obtain ⟨u, hu, ru⟩ := rl.get hd
        refine ⟨l, ws, i, k, u, rfl, rfl, hH, by rw [rl.length]; exact hk, hu, h2 _ _ ?_⟩
        have kp : ∀ a o, H1 a = some o → a ∉ [l] → upd H1 l (.lst (ws.eraseIdx k)) a = some o := fun a o e hn => by rw [upd_ne (by simpa using hn)]; exact e
        have dom : ∀ a, upd H1 l (.lst (ws.eraseIdx k)) a = none → H1 a = none := fun a e => by
          by_cases hal : a = l
          · subst hal; rw [upd_same] at e; cases e
          · rw [upd_ne hal] at e; exact e
        have st : Stay Z1 H1 (upd H1 l (.lst (ws.eraseIdx k))) := ⟨fun a o z e => kp a o e fun h => q1.nz a (mem_flat.mpr ⟨y, [l], hO, h⟩) z, fun a ys e => kp a _ e fun h => q1.not_tup e (mem_flat.mpr ⟨y, [l], hO, h⟩), fun a o u e => kp a _ e fun h => q1.not_frz e (mem_flat.mpr ⟨y, [l], hO, h⟩)⟩
        have ap : ∀ a ∈ [l], ¬ Z1 a ∧ ∀ j O, j ≠ y → Os1[j]? = some O → a ∉ O := fun a ha => ⟨fun z => q1.nz a (mem_flat.mpr ⟨y, [l], hO, ha⟩) z, fun j O hj hOj => own_apart q1 (Ne.symm hj) hO hOj ha⟩
        refine TPost.post ⟨Z1, Os1.set y [l], q1.upd hO kp (fun _ z => z) (fun a z => ⟨.inl z, fun e => q1.zh a z (dom a e)⟩) rfl hw (fun _ _ => rfl) (.li upd_same ((rl.stay st fun _ z => z).eraseIdx k)) (by simp) ap,
          (s1.mono fun i hi => List.mem_cons_of_mem _ hi).upd q1 List.mem_cons_self hO kp dom (fun _ z => z) (fun a z => .inl z) fun a ha => s1.on a (mem_flat.mpr ⟨y, [l], hO, ha⟩), ru.stay st fun _ z => z⟩
      · cases h1
    · cases h1
  · cases h1
end
end TR

set_option Elab.async false
set_option linter.all false
set_option maxHeartbeats 4000000
/-! sorted(set(a tuple of whole numbers)) -/
namespace TR
open PySem PySem.Spec PyProof.Rows L2
theorem insU_mem (k x : Int) : ∀ l : List Int, x ∈ insU k l ↔ x = k ∨ x ∈ l
  | [] => by simp [insU]
  | y :: l => by
    unfold insU
    split
    · simp
    · split
      · rename_i h; subst h; simp
      · rw [List.mem_cons, insU_mem k x l, List.mem_cons]
        constructor
        · rintro (h | h | h)
          · exact .inr (.inl h)
          · exact .inl h
          · exact .inr (.inr h)
        · rintro (h | h | h)
          · exact .inr (.inl h)
          · exact .inl h
          · exact .inr (.inr h)
theorem insU_pw (k : Int) : ∀ l : List Int, l.Pairwise (· < ·) → (insU k l).Pairwise (· < ·)
  | [], _ => by simp [insU]
  | y :: l, h => by
    obtain ⟨h1, h2⟩ := List.pairwise_cons.mp h
    unfold insU
    split
    · rename_i hk
      refine List.pairwise_cons.mpr ⟨fun z hz => ?_, h⟩
      rcases List.mem_cons.1 hz with e | e
      · rw [e]; exact hk
      · exact Int.lt_trans hk (h1 z e)
    · split
      · exact h
      · rename_i a b
        refine List.pairwise_cons.mpr ⟨fun z hz => ?_, insU_pw k l h2⟩
        rcases (insU_mem k z l).1 hz with e | e
        · rw [e]; omega
        · exact h1 z e
theorem sortU_mem (x : Int) (ns : List Int) : x ∈ sortU ns ↔ x ∈ ns := by
  induction ns with
  | nil => simp [sortU]
  | cons a ns ih =>
    have : sortU (a :: ns) = insU a (sortU ns) := rfl
    rw [this, insU_mem, ih, List.mem_cons]
theorem sortU_pw (ns : List Int) : (sortU ns).Pairwise (· < ·) := by
  induction ns with
  | nil => exact List.Pairwise.nil
  | cons a ns ih => exact insU_pw a _ ih
theorem pw_uniq : ∀ (a b : List Int), a.Pairwise (· < ·) → b.Pairwise (· < ·) → (∀ k, k ∈ a ↔ k ∈ b) → a = b
  | [], [], _, _, _ => rfl
  | [], y :: b, _, _, h => by have := (h y).2 (by simp); cases this
  | x :: a, [], _, _, h => by have := (h x).1 (by simp); cases this
  | x :: a, y :: b, h1, h2, h => by
    obtain ⟨p1, p2⟩ := List.pairwise_cons.mp h1
    obtain ⟨q1, q2⟩ := List.pairwise_cons.mp h2
    have e : x = y := by
      rcases List.mem_cons.1 ((h x).1 (by simp)) with e | e
      · exact e
      · rcases List.mem_cons.1 ((h y).2 (by simp)) with e2 | e2
        · exact e2.symm
        · have := p1 y e2; have := q1 x e; omega
    subst e
    congr 1
    refine pw_uniq a b p2 q2 fun k => ?_
    constructor
    · intro hk
      rcases List.mem_cons.1 ((h k).1 (by simp [hk])) with e | e
      · have := p1 k hk; omega
      · exact e
    · intro hk
      rcases List.mem_cons.1 ((h k).2 (by simp [hk])) with e | e
      · have := q1 k hk; omega
      · exact e
/-- sorted(set(x)), x a tuple of ints -/
def tSortSet (K : PySem.W.Frag) (ta : TE) : TE := fun σ H Q => ta σ H fun x H1 => ∃ (l : Addr) (ns : List Int), x = .ref l ∧ SqT K H1 l (ns.map V.int) ∧ ns.length < 64 ∧ ∀ p, H1 p = none → Q (.ref p) (upd H1 p (.lst ((sortU ns).map V.int)))
theorem pe_sortSet {X : Cx} {a : Expr} {ta : TE} {p p2 q pos : Pos} (hg : Gl X "sorted") (hm : X.mg "sorted" = none) (hg2 : Gl X "set") (hm2 : X.mg "set" = none) (ha : PE X a ta) (hc : X.calm = true)
    (na : starEach [a] X.env = (false, eval a X.env) :: starEach [] X.env) : PE X (.Call (.Name "sorted" p) [.Call (.Name "set" p2) [a] [] q] [] pos) (tSortSet X.K ta) := by
  refine ⟨fun pins s σ H Q I h => ?_⟩
  refine Call_ (ld_blt I hg hm PyProof.Rows.boot_sorted ?_)
  refine PyProof.Rows.callWith_builtin1 (PyProof.Rows.args_cons ?_ rfl) rfl rfl
  refine Call_ (ld_blt I hg2 hm2 boot_set ?_)
  refine PyProof.Rows.callWith_type1 (PyProof.Rows.args_cons (thn (ha.run pins s σ H _ I h) fun v s1 ⟨x, H1, I1, r1, q1⟩ => PyProof.Rows.args_nil ?_) na) na rfl
  obtain ⟨l, ns, rfl, hq, hl, q1⟩ := q1
  cases r1
  obtain ⟨its, r, pl, hz⟩ := I1.tuple hq
  refine L2.call_set_tupI ns (I1.ok.hd hc) pl (by simpa using RZ.intsAre_vals r) (by unfold scanBound; omega) fun h' tk c R hcl hk => ?_
  refine PyProof.Rows.args_nil ?_
  have I2 : Inv X pins σ H1 { s1 with heap := h', toks := tk } := I1.kept fun b o e => hk b o e
  have R2 : SetR X.w (Shared.heap { s1 with heap := h', toks := tk }) s1.heap.objs.size (fun j => decide (j ∈ ns)) c := R
  generalize ({ s1 with heap := h', toks := tk } : Shared) = s2 at I2 R2 ⊢
  refine sorted_set (s := s2) R2 (I1.ok.hd hc) (by omega) fun s' pp out cc ns' k g o hp hg hi hs hm hl2 => ?_
  have e1 : ns' = sortU ns := pw_uniq _ _ hs (sortU_pw ns) fun k => by rw [hm k, decide_eq_true_eq, sortU_mem]
  have hlen : (ns'.map V.int).length ≤ sizeLine := by rw [List.length_map, hl2, sizeLine_eq]; omega
  have hn : H1 pp = none := I2.hok.fresh hp
  have J : Inv X pins σ (upd H1 pp (.lst (ns'.map V.int))) { s2 with heap := s'.heap, gens := s'.gens, drawn := s'.drawn, toks := s'.toks } :=
    I2.call (ch := []) (Un.laid k hp hn) (I2.hok.laid k hp ⟨hlen, out.toList, cc, vals_of_ints hi, hg⟩) (by rw [g]; exact I2.bare) (fun _ z => nomatch z)
  have e : s' = { s2 with heap := s'.heap, gens := s'.gens, drawn := s'.drawn, toks := s'.toks } := by
    cases s'
    cases s2
    cases o
    rfl
  rw [e]
  exact ⟨.ref pp, _, J, rfl, by rw [e1]; exact q1 pp hn⟩
end TR

set_option Elab.async false
set_option linter.all false
set_option maxHeartbeats 4000000
namespace TR
open PySem PySem.Spec PyProof.Rows L2
theorem ints_vals {B : Wd} {Z : Zn} {H : Hp} : ∀ {vs : List V} {xs : List D} {ns : List Int}, RpL B Z H vs xs → intsD xs = some ns → vs = ns.map V.int
  | _, _, ns, .nil, h => by cases h; rfl
  | _, _, ns, .cons (d := d) r rs, h => by
    cases r with
    | int i =>
      rw [intsD] at h
      obtain ⟨ms, h1, rfl⟩ := Option.map_eq_some_iff.1 h
      rw [ints_vals rs h1]; rfl
    | _ => simp [intsD] at h
theorem rpl_ints {B : Wd} {Z : Zn} {H : Hp} : ∀ (ns : List Int), RpL B Z H (ns.map V.int) (ns.map .int)
  | [] => .nil
  | n :: ns => .cons (.int _) (rpl_ints ns)
section
variable {G : List Fn} {C : Ctx} {X : Cx} {a : E} {xa : Expr} {pos p p2 q2 : Pos}
theorem w_sortSet (ok : XOk G C X) (hg : glB C.sc "sorted" = true) (hg2 : glB C.sc "set" = true) (ha : PE X xa (Rx (wd X) (muE a) (ev G a))) (hn : noStar xa = true) :
    PE X (.Call (.Name "sorted" p) [.Call (.Name "set" p2) [xa] [] q2] [] pos) (Rx (wd X) (muE (.bi .set [a, .cst .none])) (ev G (.bi .set [a, .cst .none]))) := by
  refine PE.of (pe_sortSet (gl_of ok hg) (ok.bl _ (by simp [bnames])) (gl_of ok hg2) (ok.bl _ (by simp [bnames])) ha ok.calm (by rw [starEach_no hn])) fun σ H Q ⟨Z, env, Os, q, m, rs, env', h1, h2⟩ => ?_
  obtain ⟨ma, ra, e1, mb, rb, h5, h6, ap, h7, rfl⟩ := bi_run2 h1
  have h8 : R.ok (M.pu PyData.none, ([] : List Nat), e1) = R.ok (mb, rb, env') := by rw [← h6, ev]
  cases h8
  have h9 : (do let z ← setM ma; sortM z) = R.ok m := by
    have h10 := h7
    cases ma <;> exact h10
  simp only [muE, muEs, List.append_nil] at h2
  obtain ⟨ms, h6', h4'⟩ := R.bind_ok h9
  unfold setM at h6'
  split at h6'
  · rename_i xs
    split at h6'
    · rename_i ns hns
      obtain ⟨hl, h11⟩ := R.of_if h6'
      cases h11
      unfold sortM at h4'
      simp only [hns] at h4'
      cases h4'
      refine Rx.go q h5 fun x H1 pp => ?_
      obtain ⟨Z1, Os1, q1, s1, r1⟩ := pp.pure
      cases r1 with
      | tup h r =>
        have hv := ints_vals r hns
        subst hv
        refine ⟨_, ns, rfl, h, hl, fun p hp => h2 _ _ (New.post ⟨Grow.upd hp, [p], .li upd_same (rpl_ints _), by simp, fun a ha => ?_⟩ q1 s1)⟩
        rw [List.mem_singleton] at ha
        rw [ha]; exact hp
    · cases h6'
  · cases h6'
end
end TR

set_option Elab.async false
set_option linter.all false
set_option maxHeartbeats 4000000
set_option maxRecDepth 100000
/-! enumerate(tuple) -/
namespace TR
open PySem PySem.Spec PyProof.Rows L2
open AutoSeq1 (wpAny_loadPart')

/-- the pair of cells that enumerate lays over an iterator's cell o -/
def enO (n : Nat) : Obj := { cls := .type "enumerate", data := .fields #[.none, .bool false, .ref n, rawInt 0, .none, .none] }
theorem en_meets {v : Value} {o : Obj} {F : Heap → Prop} (Bg : Begins v o F) :
    Meets (Builtin.«enumerate.__new__» ⟨[.type "enumerate", v], []⟩) (fun _ R s => F s.heap ∧ R (.ok (.ret (.ref (s.heap.push o).objs.size))) { s with heap := (s.heap.push o).push (enO s.heap.objs.size) }) :=
  .of_wp fun prog w A R s h => by
    obtain ⟨hp, g, d, tk, os⟩ := s
    obtain ⟨h1, h⟩ := h
    have hs0 := sub_enumerate
    have st : ∀ {A' : Around} {E : Value → Shared → Prop} {Q : Value → Shared → Prop}, Q (.ref hp.objs.size) ⟨hp.push o, g, d, tk, os⟩ → wpAny (model prog w) A' (pyIter v) Q E ⟨hp, g, d, tk, os⟩ :=
      fun q => Bg.iter prog w _ _ ⟨hp, g, d, tk, os⟩ _ h1 q
    wp_walk using st
    refine wpAny_stack_any fun sk => wpAny_pure ?_
    split
    · rename_i c _ _ _ _ _
      cases (c == Value.type "enumerate") <;> (wp_walk using st; exact ⟨_, rfl, h⟩)
    · wp_walk using st
      exact ⟨_, rfl, h⟩
theorem en_call {prog : Program} {w : World} {A : Around} {E : Value → Shared → Prop} {s : Shared} {t : Addr} {items : Array Value} {Q : Value → Shared → Prop} (hT : s.heap.IsTuple t items)
    (h : ∀ h', IsEnum h' (s.heap.objs.size + 1) s.heap.objs.size 0 .none → h'.IsTupleIter s.heap.objs.size t 0 → (∀ b o, s.heap.get? b = some o → h'.get? b = some o) → Q (.ref (s.heap.objs.size + 1)) { s with heap := h' }) :
    wpAny (model prog w) A (call (.type "enumerate") [.ref t]) Q E s := by
  have Bg := begins_tuple t items
  refine callType_new F.called_enumerate (by decide) (F.typeCall_enumerate_1 _) (F.newCall_enumerate_1 _) (fun obj => F.args_object_init_2 obj _) F.entry_enumerate_new (en_meets Bg) ⟨hT, ?_⟩
  have hz : ∀ o : Obj, (s.heap.push o).objs.size = s.heap.objs.size + 1 := fun o => Heap.size_push ..
  show _ ∧ _
  rw [hz]
  have he : IsEnum ((s.heap.push { cls := .type "tuple_iterator", data := .fields #[.ref t, .int 0 0] }).push (enO s.heap.objs.size)) (s.heap.objs.size + 1) s.heap.objs.size 0 .none := by
    have := Heap.get?_push_size (s.heap.push { cls := .type "tuple_iterator", data := .fields #[.ref t, .int 0 0] }) (o := enO s.heap.objs.size) rfl
    rw [hz] at this; exact this
  exact ⟨⟨_, he, rfl⟩, h _ he ⟨_, Heap.get?_push_of_some _ (Heap.get?_push_size _ rfl), rfl, rfl⟩ fun b o y => Heap.get?_push_of_some _ (Heap.get?_push_of_some _ y)⟩

/-- the tuple at a, each item in a new pair -/
def EnT (K : PySem.W.Frag) (a : Addr) : It :=
  ⟨fun i H => ∃ (ws : List V) (x : V), SqT K H a ws ∧ ws[i]? = some x, fun i H v H' => ∃ T x, v = .ref T ∧ H T = none ∧ H' = upd H T (.tup [.int (i : Nat), x]) ∧ ∀ ws, SqT K H a ws → ws[i]? = some x, fun i H => ∃ ws : List V, SqT K H a ws ∧ ws.length = i⟩
theorem en_turn {P : Program} {w : World} {K : PySem.W.Frag} {ts : List Expr} {kk : Nat} {tpos : Pos} (a e it : Addr) (hai : a ≠ it) :
    Turn P w K (.Tuple ts kk tpos) (EnT K a) [e, it] e (fun i h => (∃ old, IsEnum h e it ((i : Nat) : Int) old) ∧ h.IsTupleIter it a i ∧ e ≠ it ∧ a ≠ e) where
  mem := by simp
  obj := fun i h st b hb => by
    obtain ⟨⟨old, he⟩, ⟨o, ho, hc, hd⟩, _⟩ := st
    rcases (show b = e ∨ b = it by simpa using hb) with z | z
    · rw [z]; exact ⟨_, he, fun v q => nomatch q⟩
    · rw [z]; exact ⟨o, ho, fun v q => by rw [hd] at q; cases q⟩
  keep := fun i h h' st k => let ⟨⟨old, he⟩, hi, hne⟩ := st; ⟨⟨old, k e (by simp) _ he⟩, hi.at fun o q => k it (by simp) o q, hne⟩
  item := by
    intro X hP hw hK hc i pins s σ H E I hf st hg
    subst hP hw hK
    obtain ⟨⟨old, he⟩, hit, hne, hae⟩ := st
    obtain ⟨ws, x, hq, hx⟩ := hg
    obtain ⟨its, rv, p, hz⟩ := I.tuple hq
    obtain ⟨u, hu, ru⟩ := rv.get hx
    have hel : e < s.heap.objs.size := Heap.lt_size he
    have hil : it < s.heap.objs.size := by obtain ⟨_, q, _⟩ := hit; exact Heap.lt_size q
    have hin : i < its.toArray.size := by
      have := (List.getElem?_eq_some_iff.mp hu).1
      simpa using this
    refine wpAny_pyNext_enum_itemC (Draws.tuple (A := X.A.in1) (I.ok.hd hc) it a hai its.toArray) he ⟨hit, p⟩ hin hne (by simp [hne, Ne.symm hae]) fun y h' tk hP ho hst hT hsz hk => ?_
    have hyu : y = u := by
      have e1 : its[i]? = some y := by simpa using hP
      rw [hu] at e1
      exact (Option.some.inj e1).symm
    subst hyu
    refine ⟨_, rfl, wpAny_letOwnedTupleGo_enum (s := { s with heap := h', toks := tk + 1 }) ho fun h'' he' sb => ?_⟩
    have hT2 : h''.get? s.heap.objs.size = some { cls := .type "tuple", data := .seq #[.int i tk, y] } := (sb.2 _ (Nat.ne_of_gt hel)).trans hT
    have new : ObjOk X.prog X.w (upd H s.heap.objs.size (.tup [.int (i : Nat), x])) h'' s.heap.objs.size (.tup [.int (i : Nat), x]) :=
      ⟨by show 2 ≤ sizeLine; decide, [.int i tk, y], .cons ⟨_, rfl⟩ (.cons ru .nil), ⟨_, hT2, rfl, _, rfl⟩⟩
    have I1 : Inv X pins σ (upd H s.heap.objs.size (.tup [.int (i : Nat), x])) { s with heap := h'', toks := tk + 1 } :=
      I.turnedNew (ch := [e, it]) (fun b ob hb q => (sb.2 b (fun z => hb (by simp [z]))).trans (hk b ob (fun z => hb (by simp [z])) (fun z => hb (by simp [z])) q)) hf (Nat.le_refl _) new
    refine ⟨.ref s.heap.objs.size, _, I1, rfl, ⟨_, x, rfl, I.hok.fresh (Nat.le_refl _), rfl, fun ys hy => by rw [I.tuple_inj hy hq]; exact hx⟩, ⟨⟨y, ?_⟩, hst.1.at fun o q => (sb.2 it (Ne.symm hne)).trans q, hne, hae⟩, fun b hb => ?_⟩
    · have e1 : ((i + 1 : Nat) : Int) = (i : Int) + 1 := by omega
      rw [e1]; exact he'
    · have hb' : b < s.heap.objs.size := by
        rcases (show b = e ∨ b = it by simpa using hb) with z | z
        · rw [z]; exact hel
        · rw [z]; exact hil
      rw [upd_ne (Nat.ne_of_lt hb')]
      exact (hf b hb).1
  done := by
    intro X hP hw hK hc i pins s σ H E I hf st hg
    subst hP hw hK
    obtain ⟨⟨old, he⟩, hit, hne, hae⟩ := st
    obtain ⟨ws, hq, hx⟩ := hg
    obtain ⟨its, rv, p, hz⟩ := I.tuple hq
    obtain ⟨f0, f1, f2, f3, f4, f5⟩ := hf it (by simp)
    have hl : i = its.toArray.size := by rw [← hx, rv.length]; simp
    subst hl
    exact wpAny_pyNext_enum_endD (Draws.tuple (A := X.A.in1) (I.ok.hd hc) it a hai its.toArray) he ⟨hit, p⟩ fun h' eb => ⟨rfl, I.turned (t' := s.toks) (fun b o hb q => eb b o hb q) f0 f1 f3 f4 f5⟩
  self := fun A i s Q E st h => let ⟨⟨_, he⟩, _⟩ := st; wpAny_pyIter_enum he h
def iEnT (K : PySem.W.Frag) (ta : TA) : TI := fun σ H R => ta σ H fun vs H1 => ∃ a ws, vs = [.ref a] ∧ SqT K H1 a ws ∧ R (EnT K a) H1
theorem pi_enT {X : Cx} {e : Expr} {ta : TA} {p pos tpos : Pos} {ts : List Expr} {kk : Nat} (hg : Gl X "enumerate") (hm : X.mg "enumerate" = none) (ha : PA X [e] ta) (hs : starEach [e] X.env = [(false, eval e X.env)]) :
    PI X (.Tuple ts kk tpos) (.Call (.Name "enumerate" p) [e] [] pos) (iEnT X.K ta) := by
  refine ⟨fun pins s σ H R I h => ?_⟩
  refine Call_ (ld_blt I hg hm boot_enumerate (PyProof.Rows.callWith_type1 (thn (ha.run pos pins s σ H _ I h) fun us s1 ⟨vs, H1, I1, r1, q1⟩ => ?_) hs rfl))
  obtain ⟨a, ws, ex, hq, q⟩ := q1
  subst ex
  cases r1 with | cons r rr =>
  cases rr
  cases (show _ = Value.ref a from r)
  obtain ⟨its, rv, p', hz⟩ := I1.tuple hq
  have hal : a < s1.heap.objs.size := p'.lt
  refine en_call p' fun h' he hit hk => wpAny_pyIter_enum he ?_
  have I2 : Inv X pins σ H1 { s1 with heap := h' } := I1.kept (t' := s1.toks) hk
  refine ⟨s1.heap.objs.size + 1, [s1.heap.objs.size + 1, s1.heap.objs.size], _, _, H1, rfl, I2, en_turn a (s1.heap.objs.size + 1) s1.heap.objs.size (Nat.ne_of_lt hal), ⟨⟨.none, he⟩, hit, Nat.succ_ne_self _, Nat.ne_of_lt (Nat.lt_succ_of_lt hal)⟩, fun b hb => ?_, q⟩
  have hle : s1.heap.objs.size ≤ b := by
    rcases (show b = s1.heap.objs.size + 1 ∨ b = s1.heap.objs.size by simpa using hb) with z | z
    · rw [z]; exact Nat.le_add_right _ _
    · rw [z]; exact Nat.le_refl _
  exact I1.fpOk hle (I1.hok.fresh hle)
theorem walk_enT {K : PySem.W.Frag} {a : Addr} {ws : List V} : Walk (EnT K a) ws.length (fun H => SqT K H a ws) (YPair (fun i => some (.int (i : Nat))) (fun i => ws[i]?)) := by
  refine ⟨fun i _ hi q => ⟨ws, ws[i], q, by simp [hi]⟩, fun _ q => ⟨ws, q, rfl⟩, fun i H v H' _ q y => ?_⟩
  obtain ⟨T, x, h1, h2, h3, h4⟩ := y
  exact ⟨T, .int (i : Nat), x, h1, h2, h3, rfl, h4 ws q⟩
end TR

set_option Elab.async false
set_option linter.all false
set_option maxHeartbeats 4000000
/-! what is walked -/
namespace TR
open PySem PySem.Spec PyProof.Rows L2 StX RT RZ

/-- a later time, the roots' own content kept -/
structure Later (rs : List Nat) (Os : List (List Addr)) (Z : Zn) (H : Hp) (Z2 : Zn) (H2 : Hp) : Prop where
  zz : ∀ a, Z a → Z2 a
  st : Stay Z H H2
  own : ∀ i ∈ rs, ∀ O, Os[i]? = some O → ∀ a ∈ O, H2 a = H a
/-- J gives xs -/
def ItOk (B : Wd) (Z : Zn) (H : Hp) (Os : List (List Addr)) (rs : List Nat) (J : It) (xs : List D) : Prop :=
  ∃ Gd Y, Walk J xs.length Gd Y ∧ (∀ Z2 H2, Later rs Os Z H Z2 H2 → Gd H2) ∧ ∀ Z2 H2 i x H3 d, Later rs Os Z H Z2 H2 → xs[i]? = some d → Y i H2 x H3 → Grow H2 H3 ∧ Rp B Z2 H3 x d
def IPost (B : Wd) (mu : List Nat) (σ : L2.St) (Z : Zn) (H : Hp) (env : Env) (Os : List (List Addr)) (rs : List Nat) (xs : List D) (env' : Env) (J : It) (H' : Hp) : Prop :=
  ∃ Z' Os', Sat B Z' σ H' env' Os' ∧ Step mu Z H env Os Z' H' env' Os' ∧ ItOk B Z' H' Os' rs J xs
def iRun (G : List Fn) (p : E) : Env → R (List Nat × List D × Env) := fun env => do
  let (m, rs, e1) ← ev G p env
  let xs ← itR m
  R.ok (rs, xs, e1)
/-- a walk's reading; walks of a slot's own lists of lists are left out -/
def Ix (B : Wd) (mu : List Nat) (run : Env → R (List Nat × List D × Env)) : TI := fun σ H Q =>
  ∃ Z env Os, Sat B Z σ H env Os ∧ ∃ rs xs env', run env = .ok (rs, xs, env') ∧ ∀ J H', IPost B mu σ Z H env Os rs xs env' J H' → Q J H'

section
variable {G : List Fn} {C : Ctx} {X : Cx} {B : Wd} {Z Z' Z0 Z1 Z2 : Zn} {H H' H0 H1 H2 : Hp} {σ σ' : L2.St} {env env' env0 env1 : Env} {Os Os' Os0 Os1 : List (List Addr)} {mu : List Nat} {v : V} {m : M} {d : D} {a b c : E} {xa xb xc tg : Expr} {pos p p0 p1 p2 p3 : Pos} {es : List E} {xs : List Expr} {nm : Str}

theorem PI.of {tg it : Expr} {t t' : TI} (h : PI X tg it t) (w : ∀ σ H R, t' σ H R → t σ H R) : PI X tg it t' := ⟨fun pins s σ H R I q => h.run pins s σ H R I (w σ H R q)⟩
theorem PI.or {tg it : Expr} {t t' : TI} (h : PI X tg it t) (h' : PI X tg it t') : PI X tg it (fun σ H R => t σ H R ∨ t' σ H R) := ⟨fun pins s σ H R I q => q.elim (h.run pins s σ H R I) (h'.run pins s σ H R I)⟩
theorem Later.refl {rs : List Nat} : Later rs Os Z H Z H := ⟨fun _ z => z, .refl, fun _ _ _ _ _ _ => rfl⟩
/-- a list's or a tuple's items, later -/
theorem later_lst {rs : List Nat} {v : V} {m : M} {O : List Addr} {xs : List D} (r : RM B Z H v m O) (hO : ∀ a ∈ O, Z a ∨ ∃ i ∈ rs, ∃ Oi, Os[i]? = some Oi ∧ a ∈ Oi) (e : m.seq = .ok xs) :
    ∃ a vs, v = .ref a ∧ RpL B Z H vs xs ∧ ((m ≠ .pu (.tuple xs) ∧ ∀ Z2 H2, Later rs Os Z H Z2 H2 → SqL B.K H2 a vs) ∨ (m = .pu (.tuple xs) ∧ ∀ Z2 H2, Later rs Os Z H Z2 H2 → SqT B.K H2 a vs)) := by
  cases r with
  | pu h =>
    cases h with
    | tup h r =>
      simp [M.seq] at e; subst e
      exact ⟨_, _, rfl, r, .inr ⟨rfl, fun Z2 H2 l => SqT.keep h (l.st.t _) (l.st.f _)⟩⟩
    | lst z h r =>
      simp [M.seq] at e; subst e
      exact ⟨_, _, rfl, r, .inl ⟨by simp, fun Z2 H2 l => .inl (RdL.keep h fun o q => l.st.z _ o z q)⟩⟩
    | lsK h r =>
      simp [M.seq] at e; subst e
      exact ⟨_, _, rfl, r, .inl ⟨by simp, fun Z2 H2 l => .inr h⟩⟩
    | _ => simp [M.seq] at e
  | li h r =>
    simp [M.seq] at e; subst e
    rename_i a vs _
    refine ⟨_, _, rfl, r, .inl ⟨by simp, fun Z2 H2 l => .inl (.of ?_)⟩⟩
    rcases hO a (by simp) with z | ⟨i, hi, Oi, h1, h2⟩
    · exact l.st.z _ _ z h
    · rw [l.own i hi Oi h1 a h2]; exact h
  | _ => simp [M.seq] at e
theorem rpl_get {vs : List V} {xs : List D} {i : Nat} {x : V} {d : D} (r : RpL B Z H vs xs) (h1 : vs[i]? = some x) (h2 : xs[i]? = some d) : Rp B Z H x d := by
  obtain ⟨w, h3, h4⟩ := r.get h2
  rw [h1] at h3; cases h3
  exact h4
theorem it_of_list {rs : List Nat} {a : Addr} {vs : List V} {xs : List D} (r : RpL B Z H vs xs) (h : ∀ Z2 H2, Later rs Os Z H Z2 H2 → SqL B.K H2 a vs) : ItOk B Z H Os rs (Itl B.K a) xs :=
  ⟨fun H => SqL B.K H a vs, YAt vs, r.length ▸ walk_list, h, fun Z2 H2 i x H3 d l hd ⟨e, hx⟩ => by
    subst e
    exact ⟨Grow.refl, (rpl_get r hx hd).stay l.st l.zz⟩⟩
theorem it_of_tup {rs : List Nat} {a : Addr} {vs : List V} {xs : List D} (r : RpL B Z H vs xs) (h : ∀ Z2 H2, Later rs Os Z H Z2 H2 → SqT B.K H2 a vs) : ItOk B Z H Os rs (Itt B.K a) xs :=
  ⟨fun H => SqT B.K H a vs, YAt vs, r.length ▸ walk_tup, h, fun Z2 H2 i x H3 d l hd ⟨e, hx⟩ => by
    subst e
    exact ⟨Grow.refl, (rpl_get r hx hd).stay l.st l.zz⟩⟩
theorem it_of_rng {rs : List Nat} {i j : Int} : ItOk B Z H Os rs (Itr i (j - i).toNat) (rngD i j) := by
  have hl : (rngD i j).length = (j - i).toNat := by simp [rngD]
  refine ⟨fun _ => True, YFn fun k => .int (i + k), by rw [hl]; exact walk_range, fun _ _ _ => trivial, fun Z2 H2 k x H3 d l hd ⟨e, hx⟩ => ?_⟩
  subst e hx
  refine ⟨Grow.refl, ?_⟩
  unfold rngD at hd
  rw [List.getElem?_map] at hd
  cases hr : (List.range (j - i).toNat)[k]? with
  | none => rw [hr] at hd; cases hd
  | some q =>
    rw [hr] at hd
    cases hd
    have := List.getElem?_eq_some_iff.mp hr
    obtain ⟨h1, h2⟩ := this
    simp at h2
    subst h2
    exact .int _
theorem pair_rp {H2 H3 : Hp} {T : Addr} {x y : V} {dx dy : D} (hn : H2 T = none) (e : H3 = upd H2 T (.tup [x, y])) (h1 : Rp B Z H2 x dx) (h2 : Rp B Z H2 y dy) : Grow H2 H3 ∧ Rp B Z H3 (.ref T) (.tuple [dx, dy]) := by
  subst e
  have g : Grow H2 (upd H2 T (.tup [x, y])) := Grow.upd hn
  exact ⟨g, .tup (.inl (.inl upd_same)) (.cons (h1.stay g.stay fun _ z => z) (.cons (h2.stay g.stay fun _ z => z) .nil))⟩
theorem enmD_get : ∀ {xs : List D} {n i : Nat}, (enmD xs n)[i]? = (xs[i]?).map fun x => .tuple [.int ((n + i : Nat) : Int), x]
  | [], n, i => by simp [enmD]
  | x :: xs, n, 0 => by simp [enmD]
  | x :: xs, n, i + 1 => by
    simp only [enmD, List.getElem?_cons_succ]
    rw [enmD_get]
    congr 1
    funext y
    have : n + 1 + i = n + (i + 1) := by omega
    rw [this]
theorem enmD_length : ∀ {xs : List D} {n : Nat}, (enmD xs n).length = xs.length
  | [], n => rfl
  | x :: xs, n => by simp [enmD, enmD_length]
theorem it_of_enumY {rs : List Nat} {J : It} {Gd : Hp → Prop} {vs : List V} {xs : List D} (r : RpL B Z H vs xs) (w : Walk J vs.length Gd (YPair (fun i => some (.int (i : Nat))) (fun i => vs[i]?))) (h : ∀ Z2 H2, Later rs Os Z H Z2 H2 → Gd H2) : ItOk B Z H Os rs J (enmD xs 0) := by
  refine ⟨Gd, YPair (fun i => some (.int (i : Nat))) (fun i => vs[i]?), by rw [enmD_length, ← r.length]; exact w, h, fun Z2 H2 i x H3 d l hd ⟨T, x1, y1, ev, hn, e3, e1, e2⟩ => ?_⟩
  subst ev
  cases e1
  rw [enmD_get] at hd
  cases hx : xs[i]? with
  | none => rw [hx] at hd; cases hd
  | some dx =>
    rw [hx] at hd
    cases hd
    rw [Nat.zero_add]
    exact pair_rp hn e3 (.int _) ((rpl_get r e2 hx).stay l.st l.zz)
theorem zipD_get {xs ys : List D} {i : Nat} {d : D} (h : (zipD xs ys)[i]? = some d) : ∃ x y, xs[i]? = some x ∧ ys[i]? = some y ∧ d = .tuple [x, y] := by
  unfold zipD at h
  rw [List.getElem?_zipWith] at h
  cases hx : xs[i]? with
  | none => rw [hx] at h; simp at h
  | some x =>
    cases hy : ys[i]? with
    | none => rw [hx, hy] at h; simp at h
    | some y =>
      rw [hx, hy] at h
      simp at h
      exact ⟨x, y, rfl, rfl, h.symm⟩
theorem it_of_zipY {rs : List Nat} {J : It} {Gd : Hp → Prop} {vs ws : List V} {xs ys : List D} (r : RpL B Z H vs xs) (r2 : RpL B Z H ws ys) (w : Walk J (min vs.length ws.length) Gd (YPair (fun i => vs[i]?) (fun i => ws[i]?))) (h : ∀ Z2 H2, Later rs Os Z H Z2 H2 → Gd H2) : ItOk B Z H Os rs J (zipD xs ys) := by
  have hl : (zipD xs ys).length = min vs.length ws.length := by unfold zipD; rw [List.length_zipWith, r.length, r2.length]
  refine ⟨Gd, YPair (fun i => vs[i]?) (fun i => ws[i]?), by rw [hl]; exact w, h, fun Z2 H2 i x H3 d l hd ⟨T, x1, y1, ev, hn, e3, e1, e2⟩ => ?_⟩
  subst ev
  obtain ⟨dx, dy, h1, h2, rfl⟩ := zipD_get hd
  exact pair_rp hn e3 ((rpl_get r e1 h1).stay l.st l.zz) ((rpl_get r2 e2 h2).stay l.st l.zz)

/-! ### the forms -/
/-- the object that is walked is given up where it is no slot's -/
theorem walk_give {m : M} {rs : List Nat} {O : List Addr} (q : Sat B Z' σ H' env' Os') (s : Step mu Z H env Os Z' H' env' Os') (r : RM B Z' H' v m O) (ro : ResO Z' H Os Os' rs O) :
    ∃ Z2, Sat B Z2 σ H' env' Os' ∧ Step mu Z H env Os Z2 H' env' Os' ∧ RM B Z2 H' v m O ∧ (∀ a ∈ O, Z2 a ∨ ∃ i ∈ rs, ∃ Oi, Os'[i]? = some Oi ∧ a ∈ Oi) := by
  cases rs with
  | nil => exact ⟨_, q.give (ro.1 rfl).1 r.ne, s.give fun a ha => ((ro.1 rfl).2 a ha).2, r.stay .refl (fun a z => .inl z) fun a o _ h => h, fun a ha => .inl (.inr ha)⟩
  | cons i rs => exact ⟨Z', q, s, r, fun a ha => .inr (ro.2.1 (by simp) a ha)⟩
theorem i_run {p : E} {rs : List Nat} {xs : List D} {env env' : Env} (h : iRun G p env = .ok (rs, xs, env')) : ∃ m, ev G p env = .ok (m, rs, env') ∧ itR m = .ok xs := by
  obtain ⟨⟨m, r, e1⟩, h1, h2⟩ := R.bind_ok h
  obtain ⟨ys, h3, h4⟩ := R.bind_ok h2
  cases h4
  exact ⟨m, h1, h3⟩
/-- an expression that is a list or a tuple -/
def seqOnly (G : List Fn) (p : E) : Env → R (List Nat × List D × Env) := fun env => do
  let (m, rs, e1) ← ev G p env
  let xs ← m.seq
  R.ok (rs, xs, e1)
theorem w_seq (ha : PE X xa (Rx (wd X) (muE a) (ev G a))) : PI X tg xa (Ix (wd X) (muE a) (seqOnly G a)) := by
  refine PI.of (PI.or (pi_list ha) (pi_tup ha)) fun σ H RR ⟨Z, env, Os, q, rs, xs, env', h1, h2⟩ => ?_
  obtain ⟨⟨m, r, e1⟩, h3, h4⟩ := R.bind_ok h1
  obtain ⟨ys, h5, h6⟩ := R.bind_ok h4
  cases h6
  by_cases hm : m = .pu (.tuple xs)
  · refine .inr (Rx.go q h3 fun x H1 ⟨Z1, Os1, O1, q1, s1, r1, ro1⟩ => ?_)
    obtain ⟨Z2, q2, s2, r2, hO⟩ := walk_give q1 s1 r1 ro1
    obtain ⟨p, vs, e, rl, h | ⟨_, h⟩⟩ := later_lst r2 hO h5
    · exact absurd hm h.1
    · exact ⟨p, e, ⟨vs, h _ _ .refl⟩, h2 _ _ ⟨Z2, Os1, q2, s2, it_of_tup rl h⟩⟩
  · refine .inl (Rx.go q h3 fun x H1 ⟨Z1, Os1, O1, q1, s1, r1, ro1⟩ => ?_)
    obtain ⟨Z2, q2, s2, r2, hO⟩ := walk_give q1 s1 r1 ro1
    obtain ⟨p, vs, e, rl, ⟨_, h⟩ | h⟩ := later_lst r2 hO h5
    · exact ⟨p, e, ⟨vs, h _ _ .refl⟩, h2 _ _ ⟨Z2, Os1, q2, s2, it_of_list rl h⟩⟩
    · exact absurd h.1 hm
theorem w_enm {ts : List Expr} {kk : Nat} {tpos : Pos} (ok : XOk G C X) (hg : glB C.sc "enumerate" = true) (ha : PE X xa (Rx (wd X) (muE a) (ev G a))) (hn : noStar xa = true) :
    PI X (.Tuple ts kk tpos) (.Call (.Name "enumerate" p) [xa] [] pos) (Ix (wd X) (muE (.enm a)) (iRun G (.enm a))) := by
  have hpa := pa_cons ha pa_nil (starEach_no hn)
  have hse : starEach [xa] X.env = [(false, eval xa X.env)] := by rw [starEach_no hn]; rfl
  refine PI.of (PI.or (pi_enum (gl_of ok hg) (ok.bl _ (by simp [bnames])) hpa hse) (pi_enT (gl_of ok hg) (ok.bl _ (by simp [bnames])) hpa hse)) fun σ H RR ⟨Z, env, Os, q, rs, xs, env', h1, h2⟩ => ?_
  obtain ⟨mm, h3, h4⟩ := i_run h1
  rw [ev] at h3
  simp only [muE] at h2
  obtain ⟨⟨m, r, e1⟩, h3, h5⟩ := R.bind_ok h3
  obtain ⟨ys, h6, h7⟩ := R.bind_ok h5
  cases h7
  cases h4
  by_cases hm : m = .pu (.tuple ys)
  · refine .inr (Rx.go q h3 fun x H1 ⟨Z1, Os1, O1, q1, s1, r1, ro1⟩ => ?_)
    obtain ⟨Z2, q2, s2, r2, hO⟩ := walk_give q1 s1 r1 ro1
    obtain ⟨p, vs, e, rl, h | ⟨_, h⟩⟩ := later_lst r2 hO h6
    · exact absurd hm h.1
    · subst e
      exact ⟨p, vs, rfl, h _ _ .refl, h2 _ _ ⟨Z2, Os1, q2, s2, it_of_enumY rl walk_enT h⟩⟩
  · refine .inl (Rx.go q h3 fun x H1 ⟨Z1, Os1, O1, q1, s1, r1, ro1⟩ => ?_)
    obtain ⟨Z2, q2, s2, r2, hO⟩ := walk_give q1 s1 r1 ro1
    obtain ⟨p, vs, e, rl, ⟨_, h⟩ | h⟩ := later_lst r2 hO h6
    · subst e
      exact ⟨p, vs, rfl, h _ _ .refl, h2 _ _ ⟨Z2, Os1, q2, s2, it_of_enumY rl walk_enum h⟩⟩
    · exact absurd h.1 hm
theorem rng_run {env env' : Env} {rs : List Nat} {xs : List D} (h : iRun G (.rng es) env = .ok (rs, xs, env')) : ∃ i j, gRun G es env = .ok (i, j, env') ∧ rgC i j = true ∧ xs = rngD i j ∧ rs = [] := by
  obtain ⟨mm, h3, h4⟩ := i_run h
  rw [ev] at h3
  obtain ⟨⟨ms, r, e1⟩, h3, h5⟩ := R.bind_ok h3
  obtain ⟨⟨i, j⟩, h6, h7⟩ := R.bind_ok h5
  obtain ⟨hc, h7⟩ := R.of_if h7
  cases h7
  cases h4
  refine ⟨i, j, ?_, hc, rfl, rfl⟩
  unfold gRun
  rw [h3]
  show (rgOf ms >>= _) = _
  rw [h6]
  rfl
theorem w_rng1 (ok : XOk G C X) (hg : glB C.sc "range" = true) (ha : PE X xa (Rx (wd X) (muE a) (ev G a))) (hn : noStar xa = true) :
    PI X tg (.Call (.Name "range" p) [xa] [] pos) (Ix (wd X) (muE (.rng [a])) (iRun G (.rng [a]))) := by
  refine PI.of (pi_range1 (gl_of ok hg) (ok.bl _ (by simp [bnames])) (pa_cons ha pa_nil (starEach_no hn)) (by rw [starEach_no hn]; rfl)) fun σ H RR ⟨Z, env, Os, q, rs, xs, env', h1, h2⟩ => ?_
  simp only [muE, muEs, List.append_nil] at h2
  obtain ⟨i, j, h3, hc, rfl, rfl⟩ := rng_run h1
  obtain ⟨⟨ms, r, e1⟩, h4, h5⟩ := R.bind_ok h3
  obtain ⟨⟨i', j'⟩, h6, h7⟩ := R.bind_ok h5
  cases h7
  obtain ⟨m, h8, rfl⟩ := evs1 h4
  obtain ⟨hm, rfl⟩ := rgOf_1 h6
  refine Rx.go q h8 fun x H1 pp => ?_
  rw [hm] at pp
  obtain ⟨Z1, Os1, q1, s1, r1⟩ := pp.pure
  cases r1
  obtain ⟨c1, c2, c3, c4⟩ := rgC_at hc
  refine ⟨_, rfl, c3, c4, h2 _ _ ⟨Z1, Os1, q1, s1, ?_⟩⟩
  have := it_of_rng (B := wd X) (Z := Z1) (H := H1) (Os := Os1) (rs := []) (i := 0) (j := j)
  simpa using this
theorem w_rng2 (ok : XOk G C X) (hg : glB C.sc "range" = true) (ha : PE X xa (Rx (wd X) (muE a) (ev G a))) (hb : PE X xb (Rx (wd X) (muE b) (ev G b))) (hn : noStar xa = true) (hn2 : noStar xb = true) :
    PI X tg (.Call (.Name "range" p) [xa, xb] [] pos) (Ix (wd X) (muE (.rng [a, b])) (iRun G (.rng [a, b]))) := by
  refine PI.of (pi_range2 (gl_of ok hg) (ok.bl _ (by simp [bnames])) (pa_cons ha (pa_cons hb pa_nil (starEach_no hn2)) (starEach_no hn)) (by rw [starEach_no hn, starEach_no hn2]; rfl) (by rw [starEach_no hn2]; rfl)) fun σ H RR ⟨Z, env, Os, q, rs, xs, env', h1, h2⟩ => ?_
  simp only [muE, muEs, List.append_nil] at h2
  obtain ⟨i, j, h3, hc, rfl, rfl⟩ := rng_run h1
  obtain ⟨⟨ms, r, e1⟩, h4, h5⟩ := R.bind_ok h3
  obtain ⟨⟨i', j'⟩, h6, h7⟩ := R.bind_ok h5
  cases h7
  obtain ⟨ma, ra, e2, mb, rb, h8, h9, ap, rfl⟩ := evs2 h4
  obtain ⟨hm, hm2⟩ := rgOf_2 h6
  refine Rx.go q h8 fun x H1 pp => ?_
  rw [hm] at pp
  obtain ⟨Z1, Os1, q1, s1, r1⟩ := pp.pure
  cases r1
  refine Rx.go q1 h9 fun y H2 pp2 => ?_
  rw [hm2] at pp2
  obtain ⟨Z2, Os2, q2, s2, r2⟩ := pp2.pure
  cases r2
  obtain ⟨c1, c2, c3, c4⟩ := rgC_at hc
  exact ⟨_, _, rfl, ⟨c1, c2, c3, c4⟩, h2 _ _ ⟨Z2, Os2, q2, s1.trans s2 ml mr, it_of_rng⟩⟩
end
end TR

set_option Elab.async false
set_option linter.all false
set_option maxHeartbeats 4000000
/-! targets -/
namespace TR
open PySem PySem.Spec PyProof.Rows L2 StX

/-- behind a store of data -/
def GPost (B : Wd) (vs : List Nat) (σ : L2.St) (Z : Zn) (H : Hp) (env : Env) (Os : List (List Addr)) (env' : Env) (σ' : L2.St) (H' : Hp) : Prop :=
  H' = H ∧ ∃ Os', Sat B Z σ' H env' Os' ∧ Step vs Z H env Os Z H env' Os' ∧ (∀ i, i ∉ vs → σ'[i]? = σ[i]?) ∧ σ'.length = σ.length
def Gb (B : Wd) (vs : List Nat) (run : D → Env → R Env) : TG := fun v σ H Q =>
  ∃ Z env Os d env', Sat B Z σ H env Os ∧ Rp B Z H v d ∧ run d env = .ok env' ∧ ∀ σ' H', GPost B vs σ Z H env Os env' σ' H' → Q σ' H'
def Gbs (B : Wd) (vs : List Nat) (run : List D → Env → R Env) : TGs := fun ws σ H Q =>
  ∃ Z env Os ds env', Sat B Z σ H env Os ∧ RpL B Z H ws ds ∧ run ds env = .ok env' ∧ ∀ σ' H', GPost B vs σ Z H env Os env' σ' H' → Q σ' H'
mutual
def chkP (C : Ctx) : P → Expr → Bool
  | .v i, .Name x _ => decide (C.N[i]? = some x) && decide (x ∈ C.loc)
  | .t ps, .Tuple xs _ _ => chkPs C ps xs
  | _, _ => false
def chkPs (C : Ctx) : List P → List Expr → Bool
  | [], [] => true
  | p :: ps, x :: xs => chkP C p x && chkPs C ps xs
  | _, _ => false
end
section
variable {G : List Fn} {C : Ctx} {X : Cx} {B : Wd} {Z Z' Z0 Z1 Z2 : Zn} {H H' H0 H1 H2 : Hp} {σ σ' : L2.St} {env env' env0 env1 : Env} {Os Os' Os0 Os1 : List (List Addr)} {mu : List Nat} {v : V} {m : M} {d : D}
theorem PG.of {tg : Expr} {t t' : TG} (h : PG X tg t) (w : ∀ v σ H Q, t' v σ H Q → t v σ H Q) : PG X tg t' := ⟨fun pins s σ H v u Q I r q => h.run pins s σ H v u Q I r (w v σ H Q q)⟩
theorem PGs.of {tg : List Expr} {t t' : TGs} (h : PGs X tg t) (w : ∀ v σ H Q, t' v σ H Q → t v σ H Q) : PGs X tg t' := ⟨fun pins s σ H v u Q I r q => h.run pins s σ H v u Q I r (w v σ H Q q)⟩
theorem set_get {α : Type} {l : List α} {i : Nat} {x : α} (h : i < l.length) : (l.set i x)[i]? = some x := List.getElem?_set_self h
/-- a slot gets a value: the heap as it was -/
theorem Sat.put {i : Nat} {O1 : List Addr} {m1 : M} {v1 : V} (q : Sat B Z σ H env Os) (hi : i < env.length) (r : RM B Z H v1 m1 O1) (nd : (O1 ++ Os.flatten).Nodup) (nz : ∀ a ∈ O1, ¬ Z a) :
    Sat B Z (σ.set i (some v1)) H (env.set i (some m1)) (Os.set i O1) := by
  have hO : ∃ Oi, Os[i]? = some Oi := ⟨_, List.getElem?_eq_getElem (by rw [q.len1]; exact hi)⟩
  obtain ⟨Oi, hO⟩ := hO
  obtain ⟨n1, n2, n3⟩ := List.nodup_append.mp nd
  exact q.upd hO (fun a o e _ => e) (fun _ z => z) (fun a z => ⟨.inl z, q.zh a z⟩) (by rw [List.length_set]) (set_get (by rw [q.len2]; exact hi)) (fun j hj => by rw [List.getElem?_set_ne (Ne.symm hj)]) r n1
    fun a ha => ⟨nz a ha, fun j O hj hOj hin => n3 a ha a (mem_flat.mpr ⟨j, O, hOj, hin⟩) rfl⟩
theorem Step.put {i : Nat} {O1 : List Addr} {w : Option M} (s : Step mu Z0 H0 env0 Os0 Z H env Os) (q : Sat B Z σ H env Os) (hm : i ∈ mu) (hi : i < env.length) (on : ∀ a ∈ O1, H0 a = none ∨ a ∈ Os0.flatten) :
    Step mu Z0 H0 env0 Os0 Z H (env.set i w) (Os.set i O1) := by
  have hO : ∃ Oi, Os[i]? = some Oi := ⟨_, List.getElem?_eq_getElem (by rw [q.len1]; exact hi)⟩
  obtain ⟨Oi, hO⟩ := hO
  exact s.upd q hm hO (fun a o e _ => e) (fun _ e => e) (fun _ z => z) (fun a z => .inl z) on
mutual
theorem g_of (ok : XOk G C X) : ∀ (p : P) (x : Expr), chkP C p x = true → PG X x (Gb (wd X) p.slots (bindP p))
  | .v i, x, h => by
    cases x <;> simp only [chkP] at h <;> try (cases h)
    rename_i nm pos
    simp only [Bool.and_eq_true, decide_eq_true_eq] at h
    obtain ⟨h1, h2⟩ := ok.loc nm h.2
    refine PG.of (pg_name (by rw [ok.N]; exact ok.nd) (by rw [ok.N]; exact h.1) h1 h2) fun v σ H Q ⟨Z, env, Os, d, env', q, r, e, k⟩ => ?_
    rw [bindP] at e
    obtain ⟨hi, e⟩ := R.of_if e
    cases e
    have s1 : Step [i] Z H env Os Z H (env.set i (some (.pu d))) (Os.set i []) := (Step.refl (mu := [i])).put (O1 := []) q (by simp) hi fun a h => nomatch h
    refine k (σ.set i (some v)) H ⟨rfl, _, q.put hi (.pu r) (by simpa using q.nd) (fun a h => nomatch h), by simpa only [P.slots] using s1, fun j hj => ?_, List.length_set⟩
    simp [P.slots] at hj
    rw [List.getElem?_set_ne (Ne.symm hj)]
  | .t ps, x, h => by
    cases x <;> simp only [chkP] at h <;> try (cases h)
    rename_i xs k pos
    have hl : ∀ {ps : List P} {xs : List Expr}, chkPs C ps xs = true → (assignEach xs X.env).length = ps.length ∧ (assignEach xs X.env).findIdx? (·.1) = none := by
      intro ps
      induction ps with
      | nil => intro xs h; cases xs <;> simp [chkPs] at h; exact ⟨rfl, rfl⟩
      | cons p ps ih =>
        intro xs h
        cases xs with
        | nil => simp [chkPs] at h
        | cons x xs =>
          simp only [chkPs, Bool.and_eq_true] at h
          obtain ⟨h1, h2⟩ := ih h.2
          have he : assignEach (x :: xs) X.env = (false, assign x X.env) :: assignEach xs X.env := by
            cases p <;> cases x <;> simp only [chkP] at h <;> first | rfl | (exact absurd h.1 (by simp))
          rw [he]
          exact ⟨by simp [h1], by simp [List.findIdx?_cons, h2]⟩
    obtain ⟨h1, h2⟩ := hl h
    refine PG.of (pg_tup ok.calm (gs_of ok ps xs h) h1 h2) fun v σ H Q ⟨Z, env, Os, d, env', q, r, e, kk⟩ => ?_
    cases d <;> simp only [bindP] at e <;> try (cases e)
    rename_i ds
    cases r with | tup hT rl =>
    refine ⟨_, _, rfl, hT, ?_, Z, env, Os, ds, env', q, rl, e, kk⟩
    rw [rl.length]
    have : ∀ {ps : List P} {ds : List D} {env env' : Env}, bindPs ps ds env = .ok env' → ds.length = ps.length := by
      intro ps
      induction ps with
      | nil => intro ds env env' h; cases ds <;> simp [bindPs] at h; rfl
      | cons p ps ih =>
        intro ds env env' h
        cases ds with
        | nil => simp [bindPs] at h
        | cons d ds =>
          rw [bindPs] at h
          obtain ⟨e1, _, h2⟩ := R.bind_ok h
          simp [ih h2]
    exact this e
theorem gs_of (ok : XOk G C X) : ∀ (ps : List P) (xs : List Expr), chkPs C ps xs = true → PGs X xs (Gbs (wd X) (P.slotsL ps) (bindPs ps))
  | [], xs, h => by
    cases xs <;> simp [chkPs] at h
    refine PGs.of pgs_nil fun v σ H Q ⟨Z, env, Os, ds, env', q, r, e, k⟩ => ?_
    cases ds <;> simp [bindPs] at e
    subst e
    cases r
    exact ⟨rfl, k _ _ ⟨rfl, Os, q, Step.refl, fun _ _ => rfl, rfl⟩⟩
  | p :: ps, xs, h => by
    cases xs with
    | nil => simp [chkPs] at h
    | cons x xs =>
      simp only [chkPs, Bool.and_eq_true] at h
      have he : (assignEach (x :: xs) X.env).map (·.2) = assign x X.env :: (assignEach xs X.env).map (·.2) := by
        cases p <;> cases x <;> simp only [chkP] at h <;> first | rfl | (exact absurd h.1 (by simp))
      refine PGs.of (pgs_cons (g_of ok p x h.1) (gs_of ok ps xs h.2) he) fun v σ H Q ⟨Z, env, Os, ds, env', q, r, e, k⟩ => ?_
      cases ds with
      | nil => simp [bindPs] at e
      | cons d ds =>
        rw [bindPs] at e
        obtain ⟨e1, h2, h3⟩ := R.bind_ok e
        cases r with | cons r rl =>
        refine ⟨_, _, rfl, Z, env, Os, d, e1, q, r, h2, fun σ1 H1 ⟨eh, Os1, q1, s1, f1, l1⟩ => ?_⟩
        subst eh
        refine ⟨Z, e1, Os1, ds, env', q1, rl, h3, fun σ2 H2 ⟨eh, Os2, q2, s2, f2, l2⟩ => k σ2 H2 ⟨eh, Os2, q2, ?_, fun i hi => ?_, l2.trans l1⟩⟩
        · exact s1.trans s2 (fun i hi => by simp [P.slotsL, hi]) fun i hi => by simp [P.slotsL, hi]
        · simp [P.slotsL] at hi
          rw [f2 i hi.2, f1 i hi.1]
end
end
end TR

set_option Elab.async false
set_option linter.all false
set_option maxHeartbeats 4000000
/-! comprehensions -/
namespace TR
open PySem PySem.Spec PyProof.Rows L2 StX

/-! ### slots forgotten, slots put back -/
theorem wipeE_get : ∀ {vs : List Nat} {env : Env} {i : Nat}, (wipeE env vs)[i]? = if i ∈ vs then env[i]?.map fun _ => none else env[i]?
  | [], env, i => by simp [wipeE]
  | v :: vs, env, i => by
    unfold wipeE
    by_cases h : v = i
    · subst h
      rw [List.getElem?_set, if_pos rfl, if_pos (List.mem_cons_self)]
      have hl : ∀ vs, (wipeE env vs).length = env.length := by
        intro vs
        induction vs with
        | nil => rfl
        | cons w vs ih => unfold wipeE; rw [List.length_set, ih]
      by_cases h2 : v < env.length
      · rw [if_pos (by rw [hl]; exact h2), List.getElem?_eq_getElem h2]; rfl
      · rw [if_neg (by rw [hl]; exact h2), List.getElem?_eq_none (by omega)]; rfl
    · rw [List.getElem?_set_ne h, wipeE_get]
      by_cases h2 : i ∈ vs
      · rw [if_pos h2, if_pos (List.mem_cons_of_mem _ h2)]
      · rw [if_neg h2, if_neg (by simp only [List.mem_cons, not_or]; exact ⟨fun e => h e.symm, h2⟩)]
theorem wipeE_length : ∀ {vs : List Nat} {env : Env}, (wipeE env vs).length = env.length
  | [], env => rfl
  | v :: vs, env => by unfold wipeE; rw [List.length_set, wipeE_length]
def wipeO (Os : List (List Addr)) : List Nat → List (List Addr)
  | [] => Os
  | v :: vs => (wipeO Os vs).set v []
theorem wipeO_length : ∀ {vs : List Nat} {Os : List (List Addr)}, (wipeO Os vs).length = Os.length
  | [], env => rfl
  | v :: vs, env => by unfold wipeO; rw [List.length_set, wipeO_length]
theorem wipeO_get : ∀ {vs : List Nat} {Os : List (List Addr)} {i : Nat}, (wipeO Os vs)[i]? = if i ∈ vs then Os[i]?.map fun _ => [] else Os[i]?
  | [], env, i => by simp [wipeO]
  | v :: vs, Os, i => by
    unfold wipeO
    by_cases h : v = i
    · subst h
      rw [List.getElem?_set, if_pos rfl, if_pos (List.mem_cons_self)]
      by_cases h2 : v < Os.length
      · rw [if_pos (by rw [wipeO_length]; exact h2), List.getElem?_eq_getElem h2]; rfl
      · rw [if_neg (by rw [wipeO_length]; exact h2), List.getElem?_eq_none (by omega)]; rfl
    · rw [List.getElem?_set_ne h, wipeO_get]
      by_cases h2 : i ∈ vs
      · rw [if_pos h2, if_pos (List.mem_cons_of_mem _ h2)]
      · rw [if_neg h2, if_neg (by simp only [List.mem_cons, not_or]; exact ⟨fun e => h e.symm, h2⟩)]
theorem wipe_get : ∀ {vs : List Nat} {σ : L2.St} {i : Nat}, (wipe σ vs)[i]? = if i ∈ vs then σ[i]?.map fun _ => none else σ[i]?
  | [], env, i => by simp [wipe]
  | v :: vs, σ, i => by
    unfold wipe
    by_cases h : v = i
    · subst h
      rw [List.getElem?_set, if_pos rfl, if_pos (List.mem_cons_self)]
      by_cases h2 : v < σ.length
      · rw [if_pos (by rw [wipe_length]; exact h2), List.getElem?_eq_getElem h2]; rfl
      · rw [if_neg (by rw [wipe_length]; exact h2), List.getElem?_eq_none (by omega)]; rfl
    · rw [List.getElem?_set_ne h, wipe_get]
      by_cases h2 : i ∈ vs
      · rw [if_pos h2, if_pos (List.mem_cons_of_mem _ h2)]
      · rw [if_neg h2, if_neg (by simp only [List.mem_cons, not_or]; exact ⟨fun e => h e.symm, h2⟩)]
theorem backE_length : ∀ {vs : List Nat} {env old : Env}, (backE env old vs).length = env.length
  | [], env, old => rfl
  | v :: vs, env, old => by unfold backE; rw [List.length_set, backE_length]
theorem backE_get : ∀ {vs : List Nat} {env old : Env} {i : Nat}, (backE env old vs)[i]? = if i ∈ vs then env[i]?.map fun _ => old[i]?.getD none else env[i]?
  | [], env, old, i => by simp [backE]
  | v :: vs, env, old, i => by
    unfold backE
    by_cases h : v = i
    · subst h
      rw [List.getElem?_set, if_pos rfl, if_pos (List.mem_cons_self)]
      by_cases h2 : v < env.length
      · rw [if_pos (by rw [backE_length]; exact h2), List.getElem?_eq_getElem h2]; rfl
      · rw [if_neg (by rw [backE_length]; exact h2), List.getElem?_eq_none (l := env) (by omega)]; rfl
    · rw [List.getElem?_set_ne h, backE_get]
      by_cases h2 : i ∈ vs
      · rw [if_pos h2, if_pos (List.mem_cons_of_mem _ h2)]
      · rw [if_neg h2, if_neg (by simp only [List.mem_cons, not_or]; exact ⟨fun e => h e.symm, h2⟩)]

section
variable {G : List Fn} {C : Ctx} {X : Cx} {B : Wd} {Z Z' Z0 Z1 Z2 : Zn} {H H' H0 H1 H2 : Hp} {σ σ' : L2.St} {env env' env0 env1 en : Env} {Os Os' Os0 Os1 : List (List Addr)} {mu mub vs : List Nat} {v : V} {m : M} {d : D} {Dl : Addr}

/-- the new list at Dl is written: it is no slot's and no data -/
theorem Sat.side {o : HO} (q : Sat B Z σ H env Os) (h1 : Dl ∉ Os.flatten) (h2 : ¬ Z Dl) (h3 : ∀ ys, H Dl ≠ some (.tup ys)) (h4 : ∀ o u, H Dl ≠ some (.frz o u)) : Sat B Z σ (L2.upd H Dl o) env Os := by
  have k : ∀ a u, a ≠ Dl → H a = some u → L2.upd H Dl o a = some u := fun a u hn e => by rw [upd_ne hn]; exact e
  have st : Stay Z H (L2.upd H Dl o) := ⟨fun a u z e => k a u (fun h => h2 (h ▸ z)) e, fun a ys e => k a _ (fun h => h3 ys (h ▸ e)) e, fun a ob u e => k a _ (fun h => h4 ob u (h ▸ e)) e⟩
  refine ⟨q.len1, q.len2, fun i m e => ?_, q.emp, q.nd, q.nz, fun a z => ?_⟩
  · obtain ⟨v, O, k1, k2, r⟩ := q.val i m e
    exact ⟨v, O, k1, k2, r.stay st (fun _ z => z) fun a u ha e => k a u (fun h => h1 (h ▸ mem_flat.mpr ⟨i, O, k2, ha⟩)) e⟩
  · by_cases h : a = Dl
    · subst h; rw [upd_same]; simp
    · rw [upd_ne h]; exact q.zh a z
theorem side_stay {o : HO} (h2 : ¬ Z Dl) (h3 : ∀ ys, H Dl ≠ some (.tup ys)) (h4 : ∀ o u, H Dl ≠ some (.frz o u)) : Stay Z H (L2.upd H Dl o) := by
  have k : ∀ a u, a ≠ Dl → H a = some u → L2.upd H Dl o a = some u := fun a u hn e => by rw [upd_ne hn]; exact e
  exact ⟨fun a u z e => k a u (fun h => h2 (h ▸ z)) e, fun a ys e => k a _ (fun h => h3 ys (h ▸ e)) e, fun a ob u e => k a _ (fun h => h4 ob u (h ▸ e)) e⟩
theorem Step.side {o : HO} (s : Step mu Z0 H0 env0 Os0 Z H env Os) (h0 : H0 Dl = none) (q0 : Sat B Z0 σ H0 env0 Os0) : Step mu Z0 H0 env0 Os0 Z (L2.upd H Dl o) env Os := by
  refine ⟨s.elen, s.zz, s.zn, s.on, fun a u e hn => ?_, fun a e => ?_, fun i hi => ?_⟩
  · rw [upd_ne (ne_of_none e h0)]; exact s.keep a u e hn
  · by_cases h : a = Dl
    · subst h; exact h0
    · rw [upd_ne h] at e; exact s.dom a e
  · obtain ⟨h1, h2, h3⟩ := s.slot i hi
    refine ⟨h1, h2, fun O hO a ha => ?_⟩
    have : a ≠ Dl := fun h => q0.there (mem_flat.mpr ⟨i, O, hO, ha⟩) (h ▸ h0)
    rw [upd_ne this]; exact h3 O hO a ha
/-- forgetting slots -/
theorem Sat.wiped (q : Sat B Z σ' H env Os) (hσ : wipe σ' vs = wipe σ vs) : Sat B Z (wipe σ vs) H (wipeE env vs) (wipeO Os vs) := by
  refine ⟨by rw [wipeO_length, wipeE_length]; exact q.len1, by rw [← hσ, wipe_length, wipeE_length]; exact q.len2, fun i m e => ?_, fun i e => ?_, ?_, fun a ha => ?_, q.zh⟩
  · rw [wipeE_get] at e
    by_cases h : i ∈ vs
    · rw [if_pos h] at e
      cases hx : env[i]? <;> rw [hx] at e <;> cases e
    · rw [if_neg h] at e
      obtain ⟨v, O, k1, k2, r⟩ := q.val i m e
      refine ⟨v, O, ?_, by rw [wipeO_get, if_neg h]; exact k2, r⟩
      rw [← hσ, wipe_get, if_neg h]; exact k1
  · rw [wipeE_get] at e
    rw [wipeO_get]
    by_cases h : i ∈ vs
    · rw [if_pos h] at e ⊢
      have hl := q.len1
      cases hx : env[i]? with
      | none => rw [hx] at e; cases e
      | some w =>
        have : i < Os.length := by rw [hl]; exact (List.getElem?_eq_some_iff.mp hx).1
        rw [List.getElem?_eq_getElem this]; rfl
    · rw [if_neg h] at e ⊢
      exact q.emp i e
  · have : ∀ vs : List Nat, (wipeO Os vs).flatten.Nodup := by
      intro vs
      induction vs with
      | nil => exact q.nd
      | cons v vs ih => unfold wipeO; exact nodup_set_nil ih
    exact this vs
  · obtain ⟨j, O, h1, h2⟩ := mem_flat.mp ha
    rw [wipeO_get] at h1
    by_cases h : j ∈ vs
    · rw [if_pos h] at h1
      cases hx : Os[j]? <;> rw [hx] at h1 <;> cases h1
      cases h2
    · rw [if_neg h] at h1
      exact q.nz a (mem_flat.mpr ⟨j, O, h1, h2⟩)
theorem flat_wipeO {a : Addr} (h : a ∈ (wipeO Os vs).flatten) : a ∈ Os.flatten := by
  obtain ⟨j, O, h1, h2⟩ := mem_flat.mp h
  rw [wipeO_get] at h1
  by_cases hj : j ∈ vs
  · rw [if_pos hj] at h1
    cases hx : Os[j]? <;> rw [hx] at h1 <;> cases h1
    cases h2
  · rw [if_neg hj] at h1
    exact mem_flat.mpr ⟨j, O, h1, h2⟩
/-- a turn, its own slots forgotten -/
theorem Step.wiped (q : Sat B Z0 σ H0 (wipeE en vs) Os0) (s : Step (vs ++ mub) Z0 H0 (wipeE en vs) Os0 Z H env Os) (hl : Os.length = env.length) : Step mub Z0 H0 (wipeE en vs) Os0 Z H (wipeE env vs) (wipeO Os vs) := by
  have hel := s.elen
  refine ⟨by rw [wipeE_length]; exact s.elen, s.zz, s.zn, fun a ha => s.on a (flat_wipeO ha), s.keep, s.dom, fun i hi => ?_⟩
  by_cases h : i ∈ vs
  · have e1 : (wipeE env vs)[i]? = (wipeE en vs)[i]? := by
      rw [wipeE_get, wipeE_get, if_pos h, if_pos h]
      rw [wipeE_length] at hel
      by_cases hb : i < env.length
      · rw [List.getElem?_eq_getElem hb, List.getElem?_eq_getElem (by omega)]; rfl
      · rw [List.getElem?_eq_none (by omega), List.getElem?_eq_none (by omega)]
    have e2 : (wipeO Os vs)[i]? = Os0[i]? := by
      rw [wipeO_get, if_pos h]
      have hl0 := q.len1
      rw [wipeE_length] at hl0 hel
      by_cases hb : i < env.length
      · have : (wipeE en vs)[i]? = some none := by
          rw [wipeE_get, if_pos h, List.getElem?_eq_getElem (by omega)]; rfl
        rw [q.emp i this, List.getElem?_eq_getElem (by omega)]; rfl
      · rw [List.getElem?_eq_none (by omega), List.getElem?_eq_none (by omega)]; rfl
    refine ⟨e1, e2, fun O hO a ha => ?_⟩
    have : (wipeE en vs)[i]? = some none := by
      rw [wipeE_get, if_pos h]
      have hl0 := q.len1
      rw [wipeE_length] at hl0
      have : i < en.length := by rw [← hl0]; exact (List.getElem?_eq_some_iff.mp hO).1
      rw [List.getElem?_eq_getElem this]; rfl
    rw [q.emp i this] at hO
    cases hO
    cases ha
  · have hn : i ∉ vs ++ mub := by simp only [List.mem_append, not_or]; exact ⟨h, hi⟩
    obtain ⟨h1, h2, h3⟩ := s.slot i hn
    refine ⟨?_, ?_, h3⟩
    · rw [wipeE_get, if_neg h]; exact h1
    · rw [wipeO_get, if_neg h]; exact h2
theorem den_at (h : den env vs = true) (q : Sat B Z σ H env Os) {i : Nat} (hi : i ∈ vs) : Os[i]? = some [] ∧ (env[i]? = some none ∨ ∃ d, env[i]? = some (some (.pu d))) := by
  have := List.all_eq_true.mp h i hi
  split at this
  · rename_i e
    exact ⟨q.emp i e, .inl e⟩
  · rename_i d e
    obtain ⟨v, O, h1, h2, r⟩ := q.val i _ e
    cases r
    exact ⟨h2, .inr ⟨d, e⟩⟩
  · cases this
theorem wipeO_same (h : ∀ i ∈ vs, Os[i]? = some []) : wipeO Os vs = Os := by
  apply List.ext_getElem?
  intro i
  rw [wipeO_get]
  by_cases hi : i ∈ vs
  · rw [if_pos hi, h i hi]; rfl
  · rw [if_neg hi]
/-- the block is left: the slots hold again what they held -/
theorem Sat.back (q0 : Sat B Z0 σ H0 env0 Os0) (dn : den env0 vs = true) (q : Sat B Z (wipe σ vs) H (wipeE en vs) Os) (s : Step mub Z0 H0 (wipeE env0 vs) Os0 Z H (wipeE en vs) Os) :
    Sat B Z σ H (backE en env0 vs) Os ∧ Step (mub.filter fun i => !vs.contains i) Z0 H0 env0 Os0 Z H (backE en env0 vs) Os := by
  have hel := s.elen
  rw [wipeE_length, wipeE_length] at hel
  have hst := s.stay (q0.wiped (vs := vs) rfl |> fun z => by rw [wipeO_same fun i hi => (den_at dn q0 hi).1] at z; exact z)
  have hb : ∀ i, i ∈ vs → (backE en env0 vs)[i]? = env0[i]? := fun i hi => by
    rw [backE_get, if_pos hi]
    by_cases hl : i < env0.length
    · rw [List.getElem?_eq_getElem hl, List.getElem?_eq_getElem (by omega)]; rfl
    · rw [List.getElem?_eq_none (by omega), List.getElem?_eq_none (by omega)]; rfl
  have hemp : ∀ i, i ∈ vs → Os[i]? = some [] := fun i hi => by
    have h0 := (den_at dn q0 hi).1
    refine q.emp i ?_
    rw [wipeE_get, if_pos hi]
    have : i < env0.length := by rw [← q0.len1]; exact (List.getElem?_eq_some_iff.mp h0).1
    rw [List.getElem?_eq_getElem (by omega)]; rfl
  constructor
  · refine ⟨by rw [backE_length, ← wipeE_length (vs := vs)]; exact q.len1, by rw [backE_length, hel]; exact q0.len2, fun i m e => ?_, fun i e => ?_, q.nd, q.nz, q.zh⟩
    · by_cases hi : i ∈ vs
      · rw [hb i hi] at e
        obtain ⟨v, O, h1, h2, r⟩ := q0.val i m e
        obtain ⟨h3, h4⟩ := den_at dn q0 hi
        rcases h4 with h4 | ⟨d, h4⟩
        · rw [h4] at e; cases e
        · rw [h4] at e; cases e
          cases r with | pu r => exact ⟨v, [], h1, hemp i hi, .pu (r.stay hst s.zz)⟩
      · rw [backE_get, if_neg hi] at e
        obtain ⟨v, O, h1, h2, r⟩ := q.val i m (by rw [wipeE_get, if_neg hi]; exact e)
        rw [wipe_get, if_neg hi] at h1
        exact ⟨v, O, h1, h2, r⟩
    · by_cases hi : i ∈ vs
      · exact hemp i hi
      · rw [backE_get, if_neg hi] at e
        exact q.emp i (by rw [wipeE_get, if_neg hi]; exact e)
  · refine ⟨by rw [backE_length]; exact hel, s.zz, s.zn, s.on, s.keep, s.dom, fun i hi => ?_⟩
    by_cases h : i ∈ vs
    · refine ⟨hb i h, by rw [hemp i h, (den_at dn q0 h).1], fun O hO a ha => ?_⟩
      rw [(den_at dn q0 h).1] at hO; cases hO; cases ha
    · have hn : i ∉ mub := fun hm => hi (List.mem_filter.mpr ⟨hm, by simpa using h⟩)
      obtain ⟨h1, h2, h3⟩ := s.slot i hn
      rw [wipeE_get, wipeE_get, if_neg h, if_neg h] at h1
      exact ⟨by rw [backE_get, if_neg h]; exact h1, h2, h3⟩
/-! ### the block -/
def Ctx.blk (C : Ctx) (scope : Scope) : Ctx := { C with sc := relS scope C.sc, loc := (scope.names.filter fun y => decide (scope.names.lookup y.1 = some .local) || decide (scope.names.lookup y.1 = some .cell)).map (·.1) }
theorem XOk.blk (ok : XOk G C X) (s : Shared) (H : Hp) (scope : Scope) (Cd : Addr) (cl : List (Str × Addr)) (fp : List Addr) : XOk G (C.blk scope) (X.blk s H scope (compEnvC scope cl Cd X.env) fp) where
  N := ok.N
  nd := ok.nd
  sc := by
    show relS scope X.env.scope = relS scope C.sc
    rw [ok.sc]
  calm := ok.calm
  hu := ok.hu
  hd := ok.hd
  bl := ok.bl
  fns := ok.fns
  loc := fun x hx => by
    obtain ⟨y, h1, rfl⟩ := List.mem_map.mp hx
    obtain ⟨h1, h2⟩ := List.mem_filter.mp h1
    simp only [Bool.or_eq_true, decide_eq_true_eq] at h2
    rcases h2 with h2 | h2
    · have : (relS scope X.env.scope).names.lookup y.1 = some .local := lookup_relS_keep (by simp) h2
      exact ⟨.inl this, .inr this⟩
    · have : (relS scope X.env.scope).names.lookup y.1 = some .cell := lookup_relS_keep (by simp) h2
      exact ⟨.inr this, .inl (by show (scope.names.lookup y.1 == some .cell) = true; rw [h2]; rfl)⟩
  con := ok.con
theorem fold_no {e : Expr} {env : PySem.Env} (h : noSet e = true) : ∀ x, foldedSetIterable e env x = pure x := by
  intro x
  cases e <;> first | rfl | cases h
/-- the tests of a clause -/
def csRun (G : List Fn) (cs : List E) : Env → R (Bool × Env) := fun env => evCs G cs env
theorem pts_of {Y : Cx} {ifs : List Expr} {t t' : TT} (h : PTs Y ifs t) (w : ∀ σ H Q, t' σ H Q → t σ H Q) : PTs Y ifs t' := ⟨fun pins s σ H Q I q => h.run pins s σ H Q I (w σ H Q q)⟩
theorem c_nil {Y : Cx} : PTs Y [] (Bx (wd Y) (muEs []) (evCs G [])) := by
  refine pts_of pts_nil fun σ H Q ⟨Z, env, Os, q, b, env', h1, h2⟩ => ?_
  simp only [evCs] at h1
  cases h1
  exact h2 H ⟨Z, Os, q, Step.refl⟩
theorem c_one {Y : Cx} {c : E} {xc : Expr} (h : PT Y xc (Bx (wd Y) (muE c) (bRun G c))) : PTs Y [xc] (Bx (wd Y) (muEs [c]) (evCs G [c])) := by
  refine pts_of (pts_one h) fun σ H Q ⟨Z, env, Os, q, b, env', h1, h2⟩ => ?_
  simp only [evCs] at h1
  simp only [muEs, List.append_nil] at h2
  obtain ⟨r, h3, h4⟩ := R.bind_ok h1
  obtain ⟨⟨k, e1⟩, h5, h6⟩ := R.bind_ok h4
  have hb : bRun G c env = .ok (k, e1) := by unfold bRun; rw [h3]; exact h5
  cases k with
  | true =>
    rw [if_pos rfl] at h6
    cases h6
    exact ⟨Z, env, Os, q, _, _, hb, h2⟩
  | false =>
    rw [if_neg (by simp)] at h6
    cases h6
    exact ⟨Z, env, Os, q, _, _, hb, h2⟩
/-- one turn of a comprehension -/
def lcF (G : List Fn) (vs : List Nat) (elt : E) (p : P) (cs : List E) : D → Env → R (Option D × Env) := fun x en => do
  let e2 ← bindP p x (wipeE en vs)
  let (b, e3) ← evCs G cs e2
  if b then do
    let r ← ev G elt e3
    let (d, e4) ← takeR elt r
    R.ok (some d, e4)
  else R.ok (none, e3)
theorem lcF_at {vs : List Nat} {elt : E} {p : P} {cs : List E} {x : D} {en e' : Env} {o : Option D} (h : lcF G vs elt p cs x en = .ok (o, e')) :
    ∃ e2 b e3, bindP p x (wipeE en vs) = .ok e2 ∧ evCs G cs e2 = .ok (b, e3) ∧ ((b = true ∧ ∃ d, tRun G elt e3 = .ok (d, e') ∧ o = some d) ∨ (b = false ∧ e' = e3 ∧ o = none)) := by
  obtain ⟨e2, h1, h⟩ := R.bind_ok h
  obtain ⟨⟨b, e3⟩, h2, h⟩ := R.bind_ok h
  refine ⟨e2, b, e3, h1, h2, ?_⟩
  cases b with
  | true =>
    dsimp only at h
    rw [if_pos rfl] at h
    obtain ⟨r, h3, h⟩ := R.bind_ok h
    obtain ⟨⟨d, e4⟩, h4, h⟩ := R.bind_ok h
    cases h
    exact .inl ⟨rfl, d, tRun_eq h3 h4, rfl⟩
  | false =>
    dsimp only at h
    rw [if_neg (by simp)] at h
    cases h
    exact .inr ⟨rfl, rfl, rfl⟩
/-- the tracked list is out of reach -/
theorem out_of (s : Step mu Z0 H0 env0 Os0 Z H env Os) (q0 : Sat B Z0 σ H0 env0 Os0) (h0 : H0 Dl = some (.lst ([] : List V)) ∨ ∃ l, H0 Dl = some (.lst l)) (n1 : Dl ∉ Os0.flatten) (n2 : ¬ Z0 Dl) : H Dl = H0 Dl ∧ Dl ∉ Os.flatten ∧ ¬ Z Dl := by
  have h0' : ∃ l, H0 Dl = some (.lst l) := h0.elim (fun h => ⟨_, h⟩) id
  obtain ⟨l, hl⟩ := h0'
  refine ⟨by rw [hl]; exact s.keep _ _ hl n1, fun h => ?_, fun z => ?_⟩
  · rcases s.on _ h with k | k
    · rw [hl] at k; cases k
    · exact n1 k
  · rcases s.zn _ z with k | k | k
    · exact n2 k
    · rw [hl] at k; cases k
    · exact n1 k
/-- the loop: from the block's first state to its last -/
theorem lc_loop {vs : List Nat} {elt : E} {p : P} {cs : List E} {rs : List Nat} {J : It} {xs ys : List D} {e1 e2 : Env} {tt : TT} {te : TE} {g : TG} {σ : L2.St} {Q : V → Hp → Prop}
    (q1 : Sat B Z1 σ H1 e1 Os1) (dn : den e1 vs = true) (sp : subs p.slots vs = true) (it : ItOk B Z1 H1 Os1 rs J xs) (ap : apart rs (muT elt ++ muEs cs ++ vs) = true) (hrun : lcLoop (lcF G vs elt p cs) xs e1 = .ok (ys, e2)) (hlen : ys.length ≤ big)
    (hg : ∀ v σ H Q, Gb B p.slots (bindP p) v σ H Q → g v σ H Q) (ht : ∀ σ H Q, Bx B (muEs cs) (evCs G cs) σ H Q → tt σ H Q) (he : ∀ σ H Q, Tx B (muT elt) (tRun G elt) σ H Q → te σ H Q) (hD : H1 Dl = none)
    (fin : ∀ Z Os H ws, Sat B Z (wipe σ vs) H (wipeE e2 vs) Os → Step (muT elt ++ muEs cs) Z1 H1 (wipeE e1 vs) Os1 Z H (wipeE e2 vs) Os → H Dl = some (.lst ws) → RpL B Z H ws ys → Dl ∉ Os.flatten → ¬ Z Dl → Q (.ref Dl) H) :
    ∃ W : Nat → Nat → Hp → Prop, (∃ m, W 0 m (L2.upd H1 Dl (.lst []))) ∧ ∀ i m H, W i m H →
      (J.stop i H ∧ Q (.ref Dl) H) ∨ (J.go i H ∧ ∃ Nx : Hp → Prop, (∀ H', Nx H' → ∃ m', m' < m ∧ W (i + 1) m' H') ∧ ∀ x H', J.yld i H x H' → g x (wipe σ vs) H' fun σ2 H2 => wipe σ2 vs = wipe σ vs ∧ tt σ2 H2 fun b H3 =>
        if b = true then te σ2 H3 fun y H4 => ∃ acc, H4 Dl = some (.lst acc) ∧ acc.length < sizeLine ∧ Nx (L2.upd H4 Dl (.lst (acc ++ [y]))) else Nx H3) := by
  obtain ⟨Gd, Y, w, hG, hY⟩ := it
  have q1w := q1.wiped (vs := vs) rfl
  rw [wipeO_same fun i hi => (den_at dn q1 hi).1] at q1w
  have sub : ∀ i ∈ p.slots, i ∈ vs := fun i hi => by simpa using List.all_eq_true.mp sp i hi
  have later : ∀ {Z H en Os}, Step (muT elt ++ muEs cs) Z1 H1 (wipeE e1 vs) Os1 Z H (wipeE en vs) Os → Later rs Os1 Z1 H1 Z H := fun {Z H en Os} s => by
    refine ⟨s.zz, s.stay q1w, fun i hi O hO a ha => ?_⟩
    have := List.all_eq_true.mp ap i hi
    simp only [List.contains_eq_mem, List.mem_append, Bool.not_eq_true', decide_eq_false_iff_not, not_or] at this
    exact (s.slot i (by simp only [List.mem_append, not_or]; exact this.1)).2.2 O hO a ha
  refine lc_it w (fun i H => ∃ Z en Os ws done rest, Sat B Z (wipe σ vs) H (wipeE en vs) Os ∧ Step (muT elt ++ muEs cs) Z1 H1 (wipeE e1 vs) Os1 Z H (wipeE en vs) Os ∧ H Dl = some (.lst ws) ∧ RpL B Z H ws done ∧
      Dl ∉ Os.flatten ∧ ¬ Z Dl ∧ lcLoop (lcF G vs elt p cs) (xs.drop i) en = .ok (rest, e2) ∧ ys = done ++ rest) ?_ ?_ ?_ ?_
  · have g0 : Grow H1 (L2.upd H1 Dl (.lst [])) := Grow.upd hD
    exact ⟨Z1, e1, Os1, [], [], ys, q1w.grow g0, (Step.refl (mu := muT elt ++ muEs cs)).grow g0 q1w, upd_same, .nil, fun h => q1.there h hD, fun z => q1.zh _ z hD, by simpa using hrun, rfl⟩
  · rintro i H hi ⟨Z, en, Os, ws, done, rest, q, s, _⟩
    exact hG Z H (later s)
  · rintro i x H H' hi ⟨Z, en, Os, ws, done, rest, q, s, hDl, rw', n1, n2, hr, e⟩ hy
    have hx : xs[i]? = some xs[i] := List.getElem?_eq_getElem hi
    obtain ⟨g1, rx⟩ := hY Z H i x H' xs[i] (later s) hx hy
    rw [List.drop_eq_getElem_cons hi] at hr
    obtain ⟨⟨o, en'⟩, h1, h2⟩ := R.bind_ok hr
    obtain ⟨⟨rest', e'⟩, h3, h4⟩ := R.bind_ok h2
    have he' : e' = e2 ∧ rest = (match o with | some y => y :: rest' | none => rest') := by
      cases o <;> (cases h4; exact ⟨rfl, rfl⟩)
    obtain ⟨rfl, hrest⟩ := he'
    obtain ⟨b2, b, b3, h5, h6, h7⟩ := lcF_at h1
    have qg := q.grow g1
    have sg := s.grow g1 q
    refine hg x _ _ _ ⟨Z, _, Os, _, b2, qg, rx, h5, fun σ2 H2 ⟨eh, Os2, q2, s2, f2, l2⟩ => ?_⟩
    have hw : wipe σ2 vs = wipe σ vs := by
      apply List.ext_getElem?
      intro j
      rw [wipe_get, wipe_get]
      by_cases hj : j ∈ vs
      · rw [if_pos hj, if_pos hj]
        rw [wipe_length] at l2
        by_cases hb : j < σ.length
        · rw [List.getElem?_eq_getElem hb, List.getElem?_eq_getElem (by omega)]; rfl
        · rw [List.getElem?_eq_none (by omega), List.getElem?_eq_none (by omega)]
      · rw [if_neg hj, if_neg hj, f2 j fun h => hj (sub j h), wipe_get, if_neg hj]
    cases eh
    refine ⟨hw, ht _ _ _ ⟨Z, b2, Os2, q2, b, b3, h6, fun H3 ⟨Z3, Os3, q3, s3⟩ => ?_⟩⟩
    have hDl' : H' Dl = some (.lst ws) := g1 _ _ hDl
    have out2 := out_of s2 qg (.inr ⟨ws, hDl'⟩) n1 n2
    have out3 := out_of s3 q2 (.inr ⟨ws, hDl'⟩) out2.2.1 out2.2.2
    have s23 : Step (vs ++ (muT elt ++ muEs cs)) Z H' (wipeE en vs) Os Z3 H3 b3 Os3 := s2.trans s3 (fun i hi => ml _ (sub i hi)) (fun i hi => mr _ (mr _ hi))
    rcases h7 with ⟨rfl, d, h8, rfl⟩ | ⟨rfl, rfl, rfl⟩
    · refine if_t (he _ _ _ ⟨Z3, b3, Os3, q3, d, en', h8, fun y H4 ⟨Z4, Os4, q4, s4, r4⟩ => ?_⟩)
      have out4 := out_of s4 q3 (.inr ⟨ws, out3.1.trans hDl'⟩) out3.2.1 out3.2.2
      have hD4 : H4 Dl = some (.lst ws) := out4.1.trans (out3.1.trans hDl')
      have s24 : Step (vs ++ (muT elt ++ muEs cs)) Z H' (wipeE en vs) Os Z4 H4 en' Os4 := s23.trans s4 (fun i hi => hi) (fun i hi => mr _ (ml _ hi))
      have s5 : Step (muT elt ++ muEs cs) Z1 H1 (wipeE e1 vs) Os1 Z4 H4 (wipeE en' vs) (wipeO Os4 vs) := sg.trans (s24.wiped qg q4.len1) (fun i hi => hi) fun i hi => hi
      have t4 : ∀ zs, H4 Dl ≠ some (.tup zs) := fun zs h => by rw [hD4] at h; cases h
      have f4 : ∀ o u, H4 Dl ≠ some (.frz o u) := fun o u h => by rw [hD4] at h; cases h
      have st := side_stay (o := .lst (ws ++ [y])) out4.2.2 t4 f4
      have hlw : ws.length < sizeLine := by
        rw [← big_eq]
        have := rw'.length
        have h9 : ys.length = done.length + rest.length := by rw [e, List.length_append]
        have h10 : rest.length = rest'.length + 1 := by rw [hrest]; rfl
        omega
      refine ⟨ws, hD4, hlw, Z4, en', wipeO Os4 vs, ws ++ [y], done ++ [d], rest', (q4.wiped hw).side (fun h => out4.2.1 (flat_wipeO h)) out4.2.2 t4 f4, s5.side hD q1w, upd_same, ?_, fun h => out4.2.1 (flat_wipeO h), out4.2.2, h3, ?_⟩
      · have s6 := (s2.trans s3 (mu := vs ++ (muT elt ++ muEs cs)) (fun i hi => ml _ (sub i hi)) (fun i hi => mr _ (mr _ hi))).trans s4 (mu := vs ++ (muT elt ++ muEs cs)) (fun i hi => hi) (fun i hi => mr _ (ml _ hi))
        have r1 : RpL B Z4 H4 ws done := (rw'.stay g1.stay fun _ z => z).stay (s6.stay qg) s6.zz
        exact (r1.append (.cons r4 .nil)).stay st fun _ z => z
      · rw [e, hrest, List.append_assoc]; rfl
    · refine if_f ?_
      have s5 : Step (muT elt ++ muEs cs) Z1 H1 (wipeE e1 vs) Os1 Z3 H3 (wipeE en' vs) (wipeO Os3 vs) := sg.trans (s23.wiped qg q3.len1) (fun i hi => hi) fun i hi => hi
      refine ⟨Z3, en', wipeO Os3 vs, ws, done, rest', q3.wiped hw, s5, out3.1.trans hDl', (rw'.stay g1.stay fun _ z => z).stay (s23.stay qg) s23.zz, fun h => out3.2.1 (flat_wipeO h), out3.2.2, h3, ?_⟩
      rw [e, hrest]
  · rintro H ⟨Z, en, Os, ws, done, rest, q, s, hDl, rw', n1, n2, hr, e⟩
    rw [List.drop_of_length_le (Nat.le_refl _)] at hr
    cases hr
    rw [List.append_nil] at e
    subst e
    exact fin Z Os H ws q s hDl rw' n1 n2
end
end TR

set_option Elab.async false
set_option linter.all false
set_option maxHeartbeats 4000000
namespace TR
open PySem PySem.Spec PyProof.Rows L2 StX
section
variable {G : List Fn} {C : Ctx} {X : Cx} {B : Wd} {Z Z' Z0 Z1 Z2 : Zn} {H H' H0 H1 H2 : Hp} {σ σ' : L2.St} {env env' env0 env1 en : Env} {Os Os' Os0 Os1 : List (List Addr)} {mu mub vs : List Nat} {v : V} {m : M} {d : D} {Dl : Addr}
/-- the block's own names with their slots -/
def ownOf (C : Ctx) (vs : List Nat) : List (Str × Nat) := vs.map fun i => ((C.N[i]?).getD ⟨#[]⟩, i)
theorem ownOf_ix (C : Ctx) (vs : List Nat) : (ownOf C vs).map (·.2) = vs := by
  unfold ownOf
  rw [List.map_map]
  induction vs with
  | nil => rfl
  | cons v vs ih => rw [List.map_cons, ih]; rfl
theorem filt {l r vs : List Nat} : ∀ i ∈ (r.filter fun i => !vs.contains i), i ∈ l ++ (r.filter fun i => !vs.contains i) := fun i h => List.mem_append_right _ h
/-- [elt for p in it if ..] -/
theorem lc_fin {Q : VK} {ys : List D} {e2 : Env} (q : Sat B Z σ H env Os) (s : Step mu Z H env Os Z1 H1 env1 Os1) (q1 : Sat B Z1 σ H1 env1 Os1) (dn : den env1 vs = true) (hD : H1 Dl = none)
    (h2 : ∀ v H', Post B (mu ++ (mub.filter fun i => !vs.contains i)) σ Z H env Os (.li ys) [] (backE e2 env1 vs) v H' → Q v H') :
    ∀ Z2 Os2 H2 ws, Sat B Z2 (wipe σ vs) H2 (wipeE e2 vs) Os2 → Step mub Z1 H1 (wipeE env1 vs) Os1 Z2 H2 (wipeE e2 vs) Os2 → H2 Dl = some (.lst ws) → RpL B Z2 H2 ws ys → Dl ∉ Os2.flatten → ¬ Z2 Dl → Q (.ref Dl) H2 := fun Z2 Os2 H2 ws q2 s2 hDl rl n1 n2 => by
  obtain ⟨q3, s3⟩ := Sat.back q1 dn q2 s2
  exact h2 _ _ ⟨Z2, Os2, [Dl], q3, s.trans s3 ml mr, .li hDl rl, fun _ => ⟨List.nodup_append.mpr ⟨by simp, q3.nd, fun a ha b hb e => by simp at ha; subst ha; exact n1 (e ▸ hb)⟩, fun a ha => by simp at ha; subst ha; exact ⟨n2, .inl (s.dom _ hD)⟩⟩, fun h => (h rfl).elim, by simp⟩
theorem lc_run {vs : List Nat} {elt it : E} {p : P} {cs : List E} {env env' : Env} {rs : List Nat} (h : ev G (.lc false vs elt p it cs) env = .ok (m, rs, env')) :
    ∃ mm r1 e1, ev G it env = .ok (mm, r1, e1) ∧ den e1 vs = true ∧ subs p.slots vs = true ∧ rs = [] ∧
      ((∃ i xss, mm = .nl xss ∧ it = .var i ∧ muT elt ++ muEs cs = [] ∧ i ∉ vs ∧ ∃ ys e2, lcLoop (lcF G vs elt p cs) (xss.map .list) (e1.set i (some (.pu (.list (xss.map .list))))) = .ok (ys, e2) ∧ noLs ys = true ∧ ys.length ≤ big ∧ m = .li ys ∧ env' = e1) ∨
       (nlAt mm it = none ∧ ∃ xs, mm.seq = .ok xs ∧ apart r1 (muT elt ++ muEs cs ++ vs) = true ∧ ∃ ys e2, lcLoop (lcF G vs elt p cs) xs e1 = .ok (ys, e2) ∧ ys.length ≤ big ∧ m = .li ys ∧ env' = backE e2 e1 vs)) := by
  rw [ev] at h
  obtain ⟨⟨mm, r1, e1⟩, h1, h⟩ := R.bind_ok h
  dsimp only at h
  obtain ⟨hc, h⟩ := R.of_if h
  simp only [Bool.and_eq_true] at hc
  rw [if_neg (by simp)] at h
  refine ⟨mm, r1, e1, h1, hc.1, hc.2, ?_⟩
  cases hb : nlAt mm it with
  | some ix =>
    obtain ⟨i, xs⟩ := ix
    rw [hb] at h
    dsimp only at h
    have hx : ∃ xss, mm = .nl xss ∧ it = .var i ∧ xs = xss.map .list := by
      unfold nlAt at hb
      split at hb
      · cases hb; exact ⟨_, rfl, rfl, rfl⟩
      · cases hb
    obtain ⟨xss, e2, e3, e4⟩ := hx
    obtain ⟨hm, h⟩ := R.of_if h
    obtain ⟨⟨ys, e5⟩, h3, h⟩ := R.bind_ok h
    obtain ⟨hc2, h⟩ := R.of_if h
    simp only [Bool.and_eq_true, decide_eq_true_eq] at hc2 hm
    cases h
    subst e4
    exact ⟨rfl, .inl ⟨i, xss, e2, e3, by simpa using hm.1, by simpa using hm.2, ys, e5, h3, hc2.1, hc2.2, rfl, rfl⟩⟩
  | none =>
    rw [hb] at h
    dsimp only at h
    obtain ⟨xs, h2, h⟩ := R.bind_ok h
    obtain ⟨hm, h⟩ := R.of_if h
    obtain ⟨⟨ys, e2⟩, h3, h⟩ := R.bind_ok h
    obtain ⟨hc2, h⟩ := R.of_if h
    cases h
    exact ⟨rfl, .inr ⟨rfl, xs, h2, hm, ys, e2, h3, hc2, rfl, rfl⟩⟩
/-- a slot's own list of lists, walked as data -/
def Nx (B : Wd) (i : Nat) : TI := fun σ H Q => ∃ Z env Os xss, Sat B Z σ H env Os ∧ env[i]? = some (some (.nl xss)) ∧
  ∀ J Z1 H1 Os1 Oi, Sat B Z1 σ H1 env Os1 → Step [] Z H env Os Z1 H1 env Os1 → Os1[i]? = some Oi → ItOk B (fun a => Z1 a ∨ a ∈ Oi) H1 (Os1.set i []) [] J (xss.map .list) → Q J H1
theorem w_nl {xa tg : Expr} {i : Nat} (ha : PE X xa (Rx (wd X) (muE (.var i)) (ev G (.var i)))) : PI X tg xa (Nx (wd X) i) := by
  refine PI.of (pi_list ha) fun σ H RR ⟨Z, env, Os, xss, q, e, k⟩ => ?_
  have he : ev G (.var i) env = .ok (.nl xss, [i], env) := by
    simp only [ev, Env.get, e]
    rfl
  refine Rx.go q he fun x H1 ⟨Z1, Os1, O1, q1, s1, r1, ro1⟩ => ?_
  obtain ⟨w, Oi, _, ho, _⟩ := q1.val i _ e
  have hO : ∀ a ∈ O1, a ∈ Oi := fun a ha => by
    obtain ⟨j, hj, Oj, h1, h2⟩ := ro1.2.1 (by simp) a ha
    simp at hj; subst hj
    rw [ho] at h1; cases h1
    exact h2
  cases r1 with | nl h rn =>
  have rl := rn.view (Z' := fun a => Z1 a ∨ a ∈ Oi) (fun a z => .inl z) fun b hb => .inr (hO b (List.mem_cons_of_mem _ hb))
  refine ⟨_, rfl, ⟨_, .inl (.of h)⟩, k _ Z1 H1 Os1 Oi q1 (by simpa only [muE] using s1) ho (it_of_list rl fun Z2 H2 l => .inl (RdL.keep (.of h) fun o z => l.st.z _ o (.inr (hO _ List.mem_cons_self)) z))⟩
/-- data without lists stand whatever may be written -/
theorem noL_rp {Z Z' : Zn} {H : Hp} : ∀ {v : V} {d : D}, noL d = true → Rp B Z H v d → Rp B Z' H v d
  | _, _, _, .non => .non
  | _, _, _, .bl b => .bl b
  | _, _, _, .int i => .int i
  | _, _, _, .str x => .str x
  | _, _, h, .tup hT r => .tup hT (noLs_rp (by simpa [noL] using h) r)
  | _, _, h, .lst _ _ _ => by simp [noL] at h
  | _, _, _, .lsK h r => by simp [noL] at *
  | _, _, h, .dK _ _ _ => by simp [noL] at h
where
  noLs_rp {Z Z' : Zn} {H : Hp} : ∀ {vs : List V} {ds : List D}, noLs ds = true → RpL B Z H vs ds → RpL B Z' H vs ds
    | _, _, _, .nil => .nil
    | _, _, h, .cons r t => by
      simp only [noLs, Bool.and_eq_true] at h
      exact .cons (noL_rp h.1 r) (noLs_rp h.2 t)
theorem blk_hs {xi : Expr} (h : noSet xi = true) : ∀ x, foldedSetIterable xi X.env x = pure x := fold_no h
/-- the sources of a walk -/
def lcW (G : List Fn) (B : Wd) (it : E) : TI := fun σ H Q => Ix B (muE it) (iRun G it) σ H Q ∨ ∃ i, it = .var i ∧ Nx B i σ H Q
theorem lc_w {vs : List Nat} {elt it : E} {p : P} {cs : List E} {Q : VK} (h : Rx B (muE (.lc false vs elt p it cs)) (ev G (.lc false vs elt p it cs)) σ H Q) :
    tLc (lcW G B it) (Gb B p.slots (bindP p)) (Bx B (muEs cs) (evCs G cs)) (Tx B (muT elt) (tRun G elt)) vs σ H Q := by
  obtain ⟨Z, env, Os, q, m, rs, env', h1, h2⟩ := h
  simp only [muE] at h2
  obtain ⟨mm, r1, e1, h3, dn, sp, rfl, h⟩ := lc_run h1
  rcases h with ⟨i, xss, rfl, rfl, hm, hiv, ys, e2, h4, h5, h6, rfl, rfl⟩ | ⟨_, xs, h4, ap, ys, e2, h5, h6, rfl, rfl⟩
  · obtain ⟨he1, hv, _⟩ := ev_var h3
    cases he1
    refine .inr ⟨i, rfl, Z, _, Os, xss, q, hv, fun J Z1 H1 Os1 Oi q1 s1 ho hit D hD => ?_⟩
    have qf := q1.freeze hv ho
    have dnf : den (List.set env i (some (.pu (M.nl xss).toD))) vs = true := by
      unfold den at dn ⊢
      rw [List.all_eq_true] at dn ⊢
      intro j hj
      have hne : i ≠ j := fun e => hiv (e ▸ hj)
      rw [List.getElem?_set_ne hne]
      exact dn j hj
    refine lc_loop qf dnf sp hit (by simp [apart]) h4 h6 (fun v σ H Q h => h) (fun σ H Q h => h) (fun σ H Q h => h) hD fun Z2 Os2 H2 ws q2 s2 hDl rl n1 n2 => ?_
    have hm' : muT elt = [] ∧ muEs cs = [] := List.append_eq_nil_iff.mp hm
    have g : Grow H1 H2 := by
      intro a o e
      by_cases ha : a ∈ (Os1.set i []).flatten
      · obtain ⟨j, O, k1, k2⟩ := mem_flat.mp ha
        rw [(s2.slot j (by rw [hm]; simp)).2.2 O k1 a k2]; exact e
      · exact s2.keep a o e ha
    refine h2 _ _ ?_
    have nw : New B Z1 H1 (.li ys) (.ref D) H2 := ⟨g, [D], .li hDl (noL_rp.noLs_rp h5 rl), by simp, fun a ha => by simp at ha; subst ha; exact hD⟩
    exact (nw.post q1 s1).mono fun i hi => nomatch hi
  · refine .inl ⟨Z, env, Os, q, r1, xs, e1, ?_, fun J H1 ⟨Z1, Os1, q1, s1, hit⟩ D hD => ?_⟩
    · unfold iRun
      rw [h3]
      show (itR mm >>= _) = _
      unfold itR
      rw [h4]
      rfl
    · exact lc_loop q1 dn sp hit ap h5 h6 (fun v σ H Q h => h) (fun σ H Q h => h) (fun σ H Q h => h) hD (lc_fin q s1 q1 dn hD h2)
theorem lcW_pi {xi tg : Expr} {it : E} (hi : PI X tg xi (Ix (wd X) (muE it) (iRun G it))) (hn : ∀ i, it = .var i → PI X tg xi (Nx (wd X) i)) : PI X tg xi (lcW G (wd X) it) :=
  ⟨fun pins s σ H R I h => h.elim (hi.run pins s σ H R I) fun ⟨i, e, h⟩ => (hn i e).run pins s σ H R I h⟩
/-- [elt for p in it if ..] -/
theorem k_lc (ok : XOk G C X) {vs : List Nat} {elt it : E} {p : P} {cs : List E} {xelt xi tg : Expr} {ifs : List Expr} {scope : Scope} {pos : Pos}
    (hi : PI X tg xi (Ix (wd X) (muE it) (iRun G it))) (hn : ∀ i, it = .var i → PI X tg xi (Nx (wd X) i)) (hb : blkC C.N C.sc scope (ownOf C vs) = true) (hs : noSet xi = true)
    (hg : ∀ Y : Cx, wd Y = wd X → XOk G (C.blk scope) Y → PG Y tg (Gb (wd Y) p.slots (bindP p))) (ht : ∀ Y : Cx, wd Y = wd X → XOk G (C.blk scope) Y → PTs Y ifs (Bx (wd Y) (muEs cs) (evCs G cs)))
    (he : ∀ Y : Cx, wd Y = wd X → XOk G (C.blk scope) Y → PE Y xelt (Tx (wd Y) (muT elt) (tRun G elt))) :
    PE X (.ListComp xelt [⟨tg, xi, ifs, 0⟩] scope pos) (Rx (wd X) (muE (.lc false vs elt p it cs)) (ev G (.lc false vs elt p it cs))) ∧
    ∀ (i : Nat) (y : Str) (py spos : Pos), C.N[i]? = some y → C.sc.names.lookup y = some .local → swapsWith (.ListComp xelt [⟨tg, xi, ifs, 0⟩] scope pos) (some (.Name y py)) spos.line X.env = pure true →
      PS X (.Assign [.Name y py] (.ListComp xelt [⟨tg, xi, ifs, 0⟩] scope pos) spos) (tAsg (Rx (wd X) (muE (.lc false vs elt p it cs)) (ev G (.lc false vs elt p it cs))) (gName i)) := by
  have bo : BlkOk X.N X.env.scope scope (ownOf C vs) := by rw [ok.N, ok.sc]; exact blkOk_by hb
  have hN : X.N.Nodup := by rw [ok.N]; exact ok.nd
  have pi := lcW_pi hi hn
  refine ⟨?_, fun i y py spos hy hyl hsw => ?_⟩
  · have rule := pe_lc (X := X) (pos := pos) (g := Gb (wd X) p.slots (bindP p)) (tt := Bx (wd X) (muEs cs) (evCs G cs)) (te := Tx (wd X) (muT elt) (tRun G elt)) ok.calm hN pi bo (fun s H Cd cl fp => hg (X.blk s H scope (compEnvC scope cl Cd X.env) fp) rfl (ok.blk s H scope Cd cl fp)) (fun s H Cd cl fp => ht (X.blk s H scope (compEnvC scope cl Cd X.env) fp) rfl (ok.blk s H scope Cd cl fp)) (fun s H Cd cl fp => he (X.blk s H scope (compEnvC scope cl Cd X.env) fp) rfl (ok.blk s H scope Cd cl fp)) (fold_no hs)
    rw [ownOf_ix] at rule
    exact PE.of rule fun σ H Q h => lc_w h
  · have rule := ps_setLc (X := X) (pos := pos) (g := Gb (wd X) p.slots (bindP p)) (tt := Bx (wd X) (muEs cs) (evCs G cs)) (te := Tx (wd X) (muT elt) (tRun G elt)) ok.calm hN (by rw [ok.N]; exact hy) (by rw [ok.sc]; exact hyl) hsw pi bo (fun s H Cd cl fp => hg (X.blk s H scope (compEnvC scope cl Cd X.env) fp) rfl (ok.blk s H scope Cd cl fp)) (fun s H Cd cl fp => ht (X.blk s H scope (compEnvC scope cl Cd X.env) fp) rfl (ok.blk s H scope Cd cl fp)) (fun s H Cd cl fp => he (X.blk s H scope (compEnvC scope cl Cd X.env) fp) rfl (ok.blk s H scope Cd cl fp)) (fold_no hs)
    rw [ownOf_ix] at rule
    exact PS.of rule fun D σ H h => lc_w h
end
end TR

set_option Elab.async false
set_option linter.all false
set_option maxHeartbeats 4000000
namespace TR
open PySem PySem.Spec PyProof.Rows L2 StX
section
variable {G : List Fn} {C : Ctx} {X : Cx} {B : Wd} {Z Z' Z0 Z1 Z2 : Zn} {H H' H0 H1 H2 : Hp} {σ σ' : L2.St} {env env' env0 env1 en : Env} {Os Os' Os0 Os1 : List (List Addr)} {mu mub vs : List Nat} {v : V} {m : M} {d : D} {Dl : Addr}
theorem RN.append : ∀ {vs : List V} {dss : List (List D)} {O : List Addr} {a : Addr} {xs : List V} {ds : List D}, RN B Z H vs dss O → H a = some (.lst xs) → RpL B Z H xs ds → RN B Z H (vs ++ [.ref a]) (dss ++ [ds]) (O ++ [a])
  | _, _, _, _, _, _, .nil, h, r => .cons h r .nil
  | _, _, _, _, _, _, .cons h0 r0 t, h, r => .cons h0 r0 (RN.append t h r)
/-- one turn: a new list -/
def nlF (G : List Fn) (vs : List Nat) (elt : E) (p : P) : D → Env → R (List D × Env) := fun x en => do
  let e2 ← bindP p x (wipeE en vs)
  let r ← ev G elt e2
  ownR r
theorem nlF_at {vs : List Nat} {elt : E} {p : P} {x : D} {en e' : Env} {zs : List D} (h : nlF G vs elt p x en = .ok (zs, e')) : ∃ e2, bindP p x (wipeE en vs) = .ok e2 ∧ ev G elt e2 = .ok (.li zs, [], e') := by
  obtain ⟨e2, h1, h⟩ := R.bind_ok h
  obtain ⟨r, h2, h⟩ := R.bind_ok h
  unfold ownR at h
  split at h
  · cases h; exact ⟨e2, h1, h2⟩
  · cases h
theorem wipe_same {vs : List Nat} {σ2 σ : L2.St} {p : List Nat} (f2 : ∀ i, i ∉ p → σ2[i]? = (wipe σ vs)[i]?) (l2 : σ2.length = (wipe σ vs).length) (sub : ∀ i ∈ p, i ∈ vs) : wipe σ2 vs = wipe σ vs := by
  apply List.ext_getElem?
  intro j
  rw [wipe_get, wipe_get]
  by_cases hj : j ∈ vs
  · rw [if_pos hj, if_pos hj]
    rw [wipe_length] at l2
    by_cases hb : j < σ.length
    · rw [List.getElem?_eq_getElem hb, List.getElem?_eq_getElem (by omega)]; rfl
    · rw [List.getElem?_eq_none (by omega), List.getElem?_eq_none (by omega)]
  · rw [if_neg hj, if_neg hj, f2 j fun h => hj (sub j h), wipe_get, if_neg hj]
theorem nl_loop {vs : List Nat} {elt : E} {p : P} {rs : List Nat} {J : It} {xs : List D} {ys : List (List D)} {e1 e2 : Env} {te : TE} {g : TG} {σ : L2.St} {Q : V → Hp → Prop}
    (q1 : Sat B Z1 σ H1 e1 Os1) (dn : den e1 vs = true) (sp : subs p.slots vs = true) (it : ItOk B Z1 H1 Os1 rs J xs) (ap : apart rs (muE elt ++ vs) = true) (hrun : nlLoop (nlF G vs elt p) xs e1 = .ok (ys, e2)) (hlen : ys.length ≤ big)
    (hg : ∀ v σ H Q, Gb B p.slots (bindP p) v σ H Q → g v σ H Q) (he : ∀ σ H Q, Rx B (muE elt) (ev G elt) σ H Q → te σ H Q) (hD : H1 Dl = none)
    (fin : ∀ Z Os H ws O, Sat B Z (wipe σ vs) H (wipeE e2 vs) Os → Step (muE elt) Z1 H1 (wipeE e1 vs) Os1 Z H (wipeE e2 vs) Os → H Dl = some (.lst ws) → RN B Z H ws ys O → (Dl :: O ++ Os.flatten).Nodup → (∀ a ∈ Dl :: O, ¬ Z a ∧ (H1 a = none ∨ a ∈ Os1.flatten)) → Q (.ref Dl) H) :
    ∃ W : Nat → Nat → Hp → Prop, (∃ m, W 0 m (L2.upd H1 Dl (.lst []))) ∧ ∀ i m H, W i m H →
      (J.stop i H ∧ Q (.ref Dl) H) ∨ (J.go i H ∧ ∃ Nx : Hp → Prop, (∀ H', Nx H' → ∃ m', m' < m ∧ W (i + 1) m' H') ∧ ∀ x H', J.yld i H x H' → g x (wipe σ vs) H' fun σ2 H2 => wipe σ2 vs = wipe σ vs ∧ tYes σ2 H2 fun b H3 =>
        if b = true then te σ2 H3 fun y H4 => ∃ acc, H4 Dl = some (.lst acc) ∧ acc.length < sizeLine ∧ Nx (L2.upd H4 Dl (.lst (acc ++ [y]))) else Nx H3) := by
  obtain ⟨Gd, Y, w, hG, hY⟩ := it
  have q1w := q1.wiped (vs := vs) rfl
  rw [wipeO_same fun i hi => (den_at dn q1 hi).1] at q1w
  have sub : ∀ i ∈ p.slots, i ∈ vs := fun i hi => by simpa using List.all_eq_true.mp sp i hi
  have later : ∀ {Z H en Os}, Step (muE elt) Z1 H1 (wipeE e1 vs) Os1 Z H (wipeE en vs) Os → Later rs Os1 Z1 H1 Z H := fun {Z H en Os} s => by
    refine ⟨s.zz, s.stay q1w, fun i hi O hO a ha => ?_⟩
    have := List.all_eq_true.mp ap i hi
    simp only [List.contains_eq_mem, List.mem_append, Bool.not_eq_true', decide_eq_false_iff_not, not_or] at this
    exact (s.slot i this.1).2.2 O hO a ha
  refine lc_it w (fun i H => ∃ Z en Os ws done rest O, Sat B Z (wipe σ vs) H (wipeE en vs) Os ∧ Step (muE elt) Z1 H1 (wipeE e1 vs) Os1 Z H (wipeE en vs) Os ∧ H Dl = some (.lst ws) ∧ RN B Z H ws done O ∧
      (Dl :: O ++ Os.flatten).Nodup ∧ (∀ a ∈ Dl :: O, ¬ Z a ∧ (H1 a = none ∨ a ∈ Os1.flatten)) ∧ nlLoop (nlF G vs elt p) (xs.drop i) en = .ok (rest, e2) ∧ ys = done ++ rest) ?_ ?_ ?_ ?_
  · have g0 : Grow H1 (L2.upd H1 Dl (.lst [])) := Grow.upd hD
    refine ⟨Z1, e1, Os1, [], [], ys, [], q1w.grow g0, (Step.refl (mu := muE elt)).grow g0 q1w, upd_same, .nil, ?_, fun a ha => ?_, by simpa using hrun, rfl⟩
    · simp only [List.cons_append, List.nil_append, List.nodup_cons]
      exact ⟨fun h => q1.there h hD, q1.nd⟩
    · simp at ha; subst ha
      exact ⟨fun z => q1.zh _ z hD, .inl hD⟩
  · rintro i H hi ⟨Z, en, Os, ws, done, rest, O, q, s, _⟩
    exact hG Z H (later s)
  · rintro i x H H' hi ⟨Z, en, Os, ws, done, rest, O, q, s, hDl, rw', n1, n2, hr, e⟩ hy
    have hx : xs[i]? = some xs[i] := List.getElem?_eq_getElem hi
    obtain ⟨g1, rx⟩ := hY Z H i x H' xs[i] (later s) hx hy
    rw [List.drop_eq_getElem_cons hi] at hr
    obtain ⟨⟨zs, en'⟩, h1, h2⟩ := R.bind_ok hr
    obtain ⟨⟨rest', e'⟩, h3, h4⟩ := R.bind_ok h2
    cases h4
    obtain ⟨b2, h5, h6⟩ := nlF_at h1
    have qg := q.grow g1
    have sg := s.grow g1 q
    refine hg x _ _ _ ⟨Z, _, Os, _, b2, qg, rx, h5, fun σ2 H2 ⟨eh, Os2, q2, s2, f2, l2⟩ => ?_⟩
    have hw : wipe σ2 vs = wipe σ vs := wipe_same f2 l2 sub
    cases eh
    refine ⟨hw, ?_⟩
    unfold tYes
    dsimp only
    rw [if_pos rfl]
    refine he _ _ _ (Rx.go q2 h6 fun y H4 ⟨Z4, Os4, O4, q4, s4, r4, ro4⟩ => ?_)
    have s24 : Step (vs ++ muE elt) Z H' (wipeE en vs) Os Z4 H4 en' Os4 := s2.trans s4 (fun i hi => ml _ (sub i hi)) (fun i hi => mr _ hi)
    have s5 : Step (muE elt) Z1 H1 (wipeE e1 vs) Os1 Z4 H4 (wipeE en' vs) (wipeO Os4 vs) := sg.trans (s24.wiped qg q4.len1) (fun i hi => hi) fun i hi => hi
    cases r4 with | li hA rA =>
    rename_i a as _
    obtain ⟨nn, nz4⟩ := ro4.1 rfl
    have na := nz4 a (by simp)
    have hDl' : H' Dl = some (.lst ws) := g1 _ _ hDl
    -- what was one's own here stands
    have own' : ∀ b ∈ Dl :: O, ∃ u, H' b = some u := fun b hb => by
      rcases List.mem_cons.mp hb with z | z
      · subst z; exact ⟨_, hDl'⟩
      · obtain ⟨u, hu⟩ := rw'.there b z
        exact ⟨u, g1 _ _ hu⟩
    have off : ∀ b ∈ Dl :: O, b ∉ Os.flatten := fun b hb h => (List.nodup_append.mp n1).2.2 b hb b h rfl
    have off2 : ∀ b ∈ Dl :: O, b ∉ Os2.flatten := fun b hb h => by
      rcases s2.on b h with k | k
      · obtain ⟨u, hu⟩ := own' b hb; rw [hu] at k; cases k
      · exact off b hb k
    have off4 : ∀ b ∈ Dl :: O, b ∉ Os4.flatten := fun b hb h => by
      rcases s24.on b h with k | k
      · obtain ⟨u, hu⟩ := own' b hb; rw [hu] at k; cases k
      · exact off b hb k
    have zo4 : ∀ b ∈ Dl :: O, ¬ Z4 b := fun b hb z => by
      rcases s24.zn b z with k | k | k
      · exact (n2 b hb).1 k
      · obtain ⟨u, hu⟩ := own' b hb; rw [hu] at k; cases k
      · exact off b hb k
    have kp : ∀ b ∈ Dl :: O, ∀ u, H' b = some u → H4 b = some u := fun b hb u hu => s24.keep b u hu (off b hb)
    have hD4 : H4 Dl = some (.lst ws) := kp Dl List.mem_cons_self _ hDl'
    have na2 : a ∉ Dl :: O := fun hb => by
      rcases na.2 with k | k
      · obtain ⟨u, hu⟩ := own' a hb; rw [hu] at k; cases k
      · exact off2 a hb k
    have na1 : H1 a = none ∨ a ∈ Os1.flatten := by
      have hs := s24.on
      rcases na.2 with k | k
      · exact .inl (sg.dom a k)
      · rcases s2.on a k with k2 | k2
        · exact .inl (sg.dom a k2)
        · exact sg.on a k2
    have r1 : RN B Z4 H4 ws done O := (rw'.stay g1.stay (fun _ z => z) fun b u _ h => g1 b u h).stay (s24.stay qg) s24.zz fun b u hb h => kp b (List.mem_cons_of_mem _ hb) u h
    have t4 : ∀ ts, H4 Dl ≠ some (.tup ts) := fun ts h => by rw [hD4] at h; cases h
    have f4 : ∀ o u, H4 Dl ≠ some (.frz o u) := fun o u h => by rw [hD4] at h; cases h
    have st := side_stay (o := .lst (ws ++ [.ref a])) (zo4 Dl List.mem_cons_self) t4 f4
    have ne : ∀ b ∈ O ++ [a], b ≠ Dl := fun b hb e => by
      subst e
      rcases List.mem_append.mp hb with z | z
      · have := (List.nodup_cons.mp (List.nodup_append.mp n1).1).1
        exact this z
      · simp at z; subst z; exact na2 List.mem_cons_self
    have hlw : ws.length < sizeLine := by
      rw [← big_eq]
      have := rw'.length
      have h9 : ys.length = done.length + (rest'.length + 1) := by rw [e, List.length_append]; rfl
      omega
    refine ⟨ws, hD4, hlw, Z4, en', wipeO Os4 vs, ws ++ [.ref a], done ++ [zs], rest', O ++ [a], (q4.wiped hw).side (fun h => off4 Dl List.mem_cons_self (flat_wipeO h)) (zo4 Dl List.mem_cons_self) t4 f4, s5.side hD q1w, upd_same,
      (r1.append hA rA).stay st (fun _ z => z) (fun b u hb h => by rw [upd_ne (ne b hb)]; exact h), ?_, fun b hb => ?_, h3, by rw [e, List.append_assoc]; rfl⟩
    · obtain ⟨k1, k2, k3⟩ := List.nodup_append.mp n1
      refine List.nodup_append.mpr ⟨?_, (q4.wiped hw).nd, fun b hb c hc e => ?_⟩
      · rw [← List.cons_append]
        exact List.nodup_append.mpr ⟨k1, by simp, fun b hb c hc e => by simp at hc; subst hc; subst e; exact na2 hb⟩
      · subst e
        have hc' := flat_wipeO hc
        rw [← List.cons_append] at hb
        rcases List.mem_append.mp hb with z | z
        · exact off4 b z hc'
        · simp at z; subst z
          exact (List.nodup_append.mp nn).2.2 b (by simp) b hc' rfl
    · rw [← List.cons_append] at hb
      rcases List.mem_append.mp hb with z | z
      · exact ⟨zo4 b z, (n2 b z).2⟩
      · simp at z; subst z
        exact ⟨na.1, na1⟩
  · rintro H ⟨Z, en, Os, ws, done, rest, O, q, s, hDl, rw', n1, n2, hr, e⟩
    rw [List.drop_of_length_le (Nat.le_refl _)] at hr
    cases hr
    rw [List.append_nil] at e
    subst e
    exact fin Z Os H ws O q s hDl rw' n1 n2
theorem lcO_w {vs : List Nat} {elt it : E} {p : P} {Q : VK} (h : Rx B (muE (.lc true vs elt p it [])) (ev G (.lc true vs elt p it [])) σ H Q) :
    tLc (Ix B (muE it) (iRun G it)) (Gb B p.slots (bindP p)) tYes (Rx B (muE elt) (ev G elt)) vs σ H Q := by
  obtain ⟨Z, env, Os, q, m, rs, env', h1, h2⟩ := h
  simp only [muE, muEs, List.append_nil] at h2
  rw [ev] at h1
  obtain ⟨⟨mm, r1, e1⟩, h3, h⟩ := R.bind_ok h1
  dsimp only at h
  obtain ⟨hc, h⟩ := R.of_if h
  simp only [Bool.and_eq_true] at hc
  rw [if_pos rfl] at h
  obtain ⟨xs, h4, h⟩ := R.bind_ok h
  obtain ⟨ap, h⟩ := R.of_if h
  obtain ⟨⟨ys, e2⟩, h5, h⟩ := R.bind_ok h
  obtain ⟨hc2, h⟩ := R.of_if h
  cases h
  have hlen : ys.length ≤ big := by simpa using hc2
  refine ⟨Z, env, Os, q, r1, xs, e1, ?_, fun J H1 ⟨Z1, Os1, q1, s1, hit⟩ D hD => ?_⟩
  · unfold iRun
    rw [h3]
    show (itR mm >>= _) = _
    rw [h4]
    rfl
  · refine nl_loop q1 hc.1 hc.2 hit ap h5 hlen (fun v σ H Q h => h) (fun σ H Q h => h) hD fun Z2 Os2 H2 ws O q2 s2 hDl rn n1 n2 => ?_
    obtain ⟨q3, s3⟩ := Sat.back q1 hc.1 q2 s2
    have s4 : Step (muE it ++ ((muT elt).filter fun i => !vs.contains i)) Z H env Os Z2 H2 (backE e2 e1 vs) Os2 := s1.trans s3 ml fun i hi => mr i (by
      obtain ⟨k1, k2⟩ := List.mem_filter.mp hi
      exact List.mem_filter.mpr ⟨(muT_of elt).1 i k1, k2⟩)
    refine h2 _ _ ⟨Z2, Os2, D :: O, q3, s4, .nl hDl rn, fun _ => ⟨n1, fun a ha => ⟨(n2 a ha).1, ?_⟩⟩, fun h => (h rfl).elim, (List.nodup_append.mp n1).1⟩
    rcases (n2 a ha).2 with k | k
    · exact .inl (s1.dom a k)
    · exact s1.on a k
/-- [elt for p in it], each item a new list -/
theorem k_lcO (ok : XOk G C X) {vs : List Nat} {elt it : E} {p : P} {xelt xi tg : Expr} {scope : Scope} {pos : Pos}
    (hi : PI X tg xi (Ix (wd X) (muE it) (iRun G it))) (hb : blkC C.N C.sc scope (ownOf C vs) = true) (hs : noSet xi = true)
    (hg : ∀ Y : Cx, wd Y = wd X → XOk G (C.blk scope) Y → PG Y tg (Gb (wd Y) p.slots (bindP p)))
    (he : ∀ Y : Cx, wd Y = wd X → XOk G (C.blk scope) Y → PE Y xelt (Rx (wd Y) (muE elt) (ev G elt))) :
    PE X (.ListComp xelt [⟨tg, xi, [], 0⟩] scope pos) (Rx (wd X) (muE (.lc true vs elt p it [])) (ev G (.lc true vs elt p it []))) ∧
    ∀ (i : Nat) (y : Str) (py spos : Pos), C.N[i]? = some y → C.sc.names.lookup y = some .local → swapsWith (.ListComp xelt [⟨tg, xi, [], 0⟩] scope pos) (some (.Name y py)) spos.line X.env = pure true →
      PS X (.Assign [.Name y py] (.ListComp xelt [⟨tg, xi, [], 0⟩] scope pos) spos) (tAsg (Rx (wd X) (muE (.lc true vs elt p it [])) (ev G (.lc true vs elt p it []))) (gName i)) := by
  have bo : BlkOk X.N X.env.scope scope (ownOf C vs) := by rw [ok.N, ok.sc]; exact blkOk_by hb
  have hN : X.N.Nodup := by rw [ok.N]; exact ok.nd
  refine ⟨?_, fun i y py spos hy hyl hsw => ?_⟩
  · have rule := pe_lc (X := X) (pos := pos) (g := Gb (wd X) p.slots (bindP p)) (tt := tYes) (te := Rx (wd X) (muE elt) (ev G elt)) ok.calm hN hi bo (fun s H Cd cl fp => hg (X.blk s H scope (compEnvC scope cl Cd X.env) fp) rfl (ok.blk s H scope Cd cl fp)) (fun s H Cd cl fp => pts_nil) (fun s H Cd cl fp => he (X.blk s H scope (compEnvC scope cl Cd X.env) fp) rfl (ok.blk s H scope Cd cl fp)) (fold_no hs)
    rw [ownOf_ix] at rule
    exact PE.of rule fun σ H Q h => lcO_w h
  · have rule := ps_setLc (X := X) (pos := pos) (g := Gb (wd X) p.slots (bindP p)) (tt := tYes) (te := Rx (wd X) (muE elt) (ev G elt)) ok.calm hN (by rw [ok.N]; exact hy) (by rw [ok.sc]; exact hyl) hsw hi bo (fun s H Cd cl fp => hg (X.blk s H scope (compEnvC scope cl Cd X.env) fp) rfl (ok.blk s H scope Cd cl fp)) (fun s H Cd cl fp => pts_nil) (fun s H Cd cl fp => he (X.blk s H scope (compEnvC scope cl Cd X.env) fp) rfl (ok.blk s H scope Cd cl fp)) (fold_no hs)
    rw [ownOf_ix] at rule
    exact PS.of rule fun D σ H h => lcO_w h
end
end TR

set_option Elab.async false
set_option linter.all false
set_option maxHeartbeats 4000000
/-! comprehensions of two clauses -/
namespace TR
open PySem PySem.Spec PyProof.Rows L2 StX
/-- the heap without the tracked list -/
def hid (Dl : Addr) (H : Hp) : Hp := fun a => if a = Dl then none else H a
section
variable {J : It} {n : Nat} {Gd : Hp → Prop} {Y : Nat → Hp → V → Hp → Prop}
theorem it_gen (w : Walk J n Gd Y) {H0 : Hp} {Qd : Hp → Prop} (body : V → Hp → (Hp → Prop) → Prop) (Pv : Nat → Hp → Prop) (h0 : Pv 0 H0) (hG : ∀ i H, i ≤ n → Pv i H → Gd H)
    (hs : ∀ i x H H', i < n → Pv i H → Y i H x H' → body x H' (Pv (i + 1))) (hd : ∀ H, Pv n H → Qd H) :
    ∃ W : Nat → Nat → Hp → Prop, (∃ m, W 0 m H0) ∧ ∀ i m H, W i m H →
      (J.stop i H ∧ Qd H) ∨ (J.go i H ∧ ∃ Nx : Hp → Prop, (∀ H', Nx H' → ∃ m', m' < m ∧ W (i + 1) m' H') ∧ ∀ x H', J.yld i H x H' → body x H' Nx) := by
  refine ⟨fun i m H => m = n - i ∧ i ≤ n ∧ Pv i H, ⟨n, by simp, Nat.zero_le _, h0⟩, ?_⟩
  rintro i m H ⟨rfl, hi, p⟩
  have q := hG i H hi p
  by_cases hlt : i < n
  · refine .inr ⟨w.goes i H hlt q, Pv (i + 1), fun H' p' => ⟨n - (i + 1), by omega, rfl, hlt, p'⟩, fun x H' y => hs i x H H' hlt p (w.yields i H x H' hlt q y)⟩
  · have e : i = n := by omega
    subst e
    exact .inl ⟨w.stops H q, hd H p⟩
end
section
variable {G : List Fn} {C : Ctx} {X : Cx} {B : Wd} {Z Z' Z0 Z1 Z2 : Zn} {H H' H0 H1 H2 : Hp} {σ σ' : L2.St} {env env' env0 env1 en : Env} {Os Os' Os0 Os1 : List (List Addr)} {mu mub vs : List Nat} {v : V} {m : M} {d : D} {Dl : Addr}
theorem hide_ne {a : Addr} (h : a ≠ Dl) : hid Dl H a = H a := if_neg h
theorem hide_self : hid Dl H Dl = none := if_pos rfl
theorem hide_some {a : Addr} {u : HO} (h : hid Dl H a = some u) : a ≠ Dl ∧ H a = some u := by
  unfold hid at h
  split at h
  · cases h
  · exact ⟨by assumption, h⟩
theorem hide_none {a : Addr} (h : H a = none) : hid Dl H a = none := by
  unfold hid
  split
  · rfl
  · exact h
theorem hide_off (h : H Dl = none) : hid Dl H = H := funext fun a => by
  unfold hid
  split
  · rename_i e; rw [e, h]
  · rfl
theorem hide_upd {o : HO} : hid Dl (L2.upd H Dl o) = hid Dl H := funext fun a => by
  unfold hid
  split
  · rfl
  · rename_i h; exact upd_ne h
theorem Grow.hide (g : Grow H H') : Grow (hid Dl H) (hid Dl H') := fun a u e => by
  obtain ⟨h1, h2⟩ := hide_some e
  rw [hide_ne h1]; exact g a u h2
theorem Step.hide (s : Step mu Z H env Os Z' H' env' Os') : Step mu Z (hid Dl H) env Os Z' (hid Dl H') env' Os' := by
  refine ⟨s.elen, s.zz, fun a z => ?_, fun a h => ?_, fun a u e hn => ?_, fun a e => ?_, fun i hi => ?_⟩
  · rcases s.zn a z with k | k | k
    · exact .inl k
    · exact .inr (.inl (hide_none k))
    · exact .inr (.inr k)
  · rcases s.on a h with k | k
    · exact .inl (hide_none k)
    · exact .inr k
  · obtain ⟨h1, h2⟩ := hide_some e
    rw [hide_ne h1]; exact s.keep a u h2 hn
  · by_cases h : a = Dl
    · rw [h]; exact hide_self
    · rw [hide_ne h] at e ⊢; exact s.dom a e
  · obtain ⟨h1, h2, h3⟩ := s.slot i hi
    refine ⟨h1, h2, fun O hO a ha => ?_⟩
    by_cases h : a = Dl
    · rw [h, hide_self, hide_self]
    · rw [hide_ne h, hide_ne h]; exact h3 O hO a ha
theorem Sat.hide (q : Sat B Z σ H env Os) (h1 : Dl ∉ Os.flatten) (h2 : ¬ Z Dl) (h3 : ∀ ys, H Dl ≠ some (.tup ys)) (h4 : ∀ o u, H Dl ≠ some (.frz o u)) : Sat B Z σ (hid Dl H) env Os := by
  have k : ∀ a u, a ≠ Dl → H a = some u → hid Dl H a = some u := fun a u hn e => by rw [hide_ne hn]; exact e
  have st : Stay Z H (hid Dl H) := ⟨fun a u z e => k a u (fun h => h2 (h ▸ z)) e, fun a ys e => k a _ (fun h => h3 ys (h ▸ e)) e, fun a ob u e => k a _ (fun h => h4 ob u (h ▸ e)) e⟩
  refine ⟨q.len1, q.len2, fun i m e => ?_, q.emp, q.nd, q.nz, fun a z => ?_⟩
  · obtain ⟨v, O, k1, k2, r⟩ := q.val i m e
    exact ⟨v, O, k1, k2, r.stay st (fun _ z => z) fun a u ha e => k a u (fun h => h1 (h ▸ mem_flat.mpr ⟨i, O, k2, ha⟩)) e⟩
  · by_cases h : a = Dl
    · subst h; exact absurd z h2
    · rw [hide_ne h]; exact q.zh a z
theorem stay_show (st : Stay Z (hid Dl H) (hid Dl H')) (h2 : ¬ Z Dl) (h3 : ∀ ys, H Dl ≠ some (.tup ys)) (h4 : ∀ o u, H Dl ≠ some (.frz o u)) : Stay Z H H' :=
  ⟨fun a u z e => (hide_some (st.z a u z ((hide_ne (Dl := Dl) fun h => h2 (h ▸ z)).trans e))).2, fun a ys e => (hide_some (st.t a ys ((hide_ne (Dl := Dl) fun h => h3 ys (h ▸ e)).trans e))).2, fun a o u e => (hide_some (st.f a o u ((hide_ne (Dl := Dl) fun h => h4 o u (h ▸ e)).trans e))).2⟩
theorem Step.show (s : Step mu Z0 (hid Dl H0) env0 Os0 Z (hid Dl H) env Os) (h0 : H0 Dl = none) (q0 : Sat B Z0 σ H0 env0 Os0) : Step mu Z0 H0 env0 Os0 Z H env Os := by
  rw [hide_off h0] at s
  refine ⟨s.elen, s.zz, s.zn, s.on, fun a u e hn => (hide_some (s.keep a u e hn)).2, fun a e => s.dom a (hide_none e), fun i hi => ?_⟩
  obtain ⟨h1, h2, h3⟩ := s.slot i hi
  refine ⟨h1, h2, fun O hO a ha => ?_⟩
  have : a ≠ Dl := fun h => q0.there (mem_flat.mpr ⟨i, O, hO, ha⟩) (h ▸ h0)
  rw [← h3 O hO a ha, hide_ne this]
theorem Step.wipe (vs : List Nat) : Step vs Z H env Os Z H (wipeE env vs) (wipeO Os vs) := by
  refine ⟨wipeE_length, fun _ z => z, fun _ z => .inl z, fun a h => .inr (flat_wipeO h), fun _ _ e _ => e, fun _ e => e, fun i hi => ⟨?_, ?_, fun _ _ _ _ => rfl⟩⟩
  · rw [wipeE_get, if_neg hi]
  · rw [wipeO_get, if_neg hi]
theorem wipeE_two {vs1 : List Nat} (h : ∀ i ∈ vs1, i ∈ vs) : wipeE (wipeE env vs1) vs = wipeE env vs := by
  apply List.ext_getElem?
  intro i
  rw [wipeE_get, wipeE_get, wipeE_get]
  by_cases h1 : i ∈ vs
  · rw [if_pos h1, if_pos h1]
    by_cases h2 : i ∈ vs1
    · rw [if_pos h2]; cases env[i]? <;> rfl
    · rw [if_neg h2]
  · rw [if_neg h1, if_neg h1, if_neg fun h2 => h1 (h i h2)]
theorem wipe_two {vs1 : List Nat} (h : ∀ i ∈ vs1, i ∈ vs) : wipe (wipe σ vs1) vs = wipe σ vs := by
  apply List.ext_getElem?
  intro i
  rw [wipe_get, wipe_get, wipe_get]
  by_cases h1 : i ∈ vs
  · rw [if_pos h1, if_pos h1]
    by_cases h2 : i ∈ vs1
    · rw [if_pos h2]; cases σ[i]? <;> rfl
    · rw [if_neg h2]
  · rw [if_neg h1, if_neg h1, if_neg fun h2 => h1 (h i h2)]
theorem sub_at {a b : List Nat} (h : subs a b = true) : ∀ i ∈ a, i ∈ b := fun i hi => by simpa using List.all_eq_true.mp h i hi
/-- the loop that adds to a list begun before -/
theorem lc_loopA {vs : List Nat} {elt : E} {p : P} {cs : List E} {rs : List Nat} {J : It} {xs ys done0 : List D} {ws0 : List V} {e1 e2 : Env} {tt : TT} {te : TE} {g : TG} {σ : L2.St} {Qd : Hp → Prop}
    (q1 : Sat B Z1 σ H1 e1 Os1) (dn : den e1 vs = true) (sp : subs p.slots vs = true) (it : ItOk B Z1 H1 Os1 rs J xs) (ap : apart rs (muT elt ++ muEs cs ++ vs) = true) (hrun : lcLoop (lcF G vs elt p cs) xs e1 = .ok (ys, e2)) (hlen : done0.length + ys.length ≤ big)
    (hg : ∀ v σ H Q, Gb B p.slots (bindP p) v σ H Q → g v σ H Q) (ht : ∀ σ H Q, Bx B (muEs cs) (evCs G cs) σ H Q → tt σ H Q) (he : ∀ σ H Q, Tx B (muT elt) (tRun G elt) σ H Q → te σ H Q)
    (hD : H1 Dl = some (.lst ws0)) (r0 : RpL B Z1 H1 ws0 done0) (n01 : Dl ∉ Os1.flatten) (n02 : ¬ Z1 Dl)
    (fin : ∀ Z Os H ws, Sat B Z (wipe σ vs) H (wipeE e2 vs) Os → Step (muT elt ++ muEs cs) Z1 (hid Dl H1) (wipeE e1 vs) Os1 Z (hid Dl H) (wipeE e2 vs) Os → H Dl = some (.lst ws) → RpL B Z H ws (done0 ++ ys) → Dl ∉ Os.flatten → ¬ Z Dl → Qd H) :
    ∃ W : Nat → Nat → Hp → Prop, (∃ m, W 0 m H1) ∧ ∀ i m H, W i m H →
      (J.stop i H ∧ Qd H) ∨ (J.go i H ∧ ∃ Nx : Hp → Prop, (∀ H', Nx H' → ∃ m', m' < m ∧ W (i + 1) m' H') ∧ ∀ x H', J.yld i H x H' → g x (wipe σ vs) H' fun σ2 H2 => wipe σ2 vs = wipe σ vs ∧ tt σ2 H2 fun b H3 =>
        if b = true then te σ2 H3 fun y H4 => ∃ acc, H4 Dl = some (.lst acc) ∧ acc.length < sizeLine ∧ Nx (L2.upd H4 Dl (.lst (acc ++ [y]))) else Nx H3) := by
  obtain ⟨Gd, Y, w, hG, hY⟩ := it
  have q1w := q1.wiped (vs := vs) rfl
  rw [wipeO_same fun i hi => (den_at dn q1 hi).1] at q1w
  have sub := sub_at sp
  have t1 : ∀ zs, H1 Dl ≠ some (.tup zs) := fun zs h => by rw [hD] at h; cases h
  have f1 : ∀ o u, H1 Dl ≠ some (.frz o u) := fun o u h => by rw [hD] at h; cases h
  have q1h := q1w.hide n01 n02 t1 f1
  have later : ∀ {Z H en Os}, Step (muT elt ++ muEs cs) Z1 (hid Dl H1) (wipeE e1 vs) Os1 Z (hid Dl H) (wipeE en vs) Os → Later rs Os1 Z1 H1 Z H := fun {Z H en Os} s => by
    refine ⟨s.zz, stay_show (s.stay q1h) n02 t1 f1, fun i hi O hO a ha => ?_⟩
    have := List.all_eq_true.mp ap i hi
    simp only [List.contains_eq_mem, List.mem_append, Bool.not_eq_true', decide_eq_false_iff_not, not_or] at this
    have hne : a ≠ Dl := fun h => n01 (h ▸ mem_flat.mpr ⟨i, O, hO, ha⟩)
    have := (s.slot i (by simp only [List.mem_append, not_or]; exact this.1)).2.2 O hO a ha
    rw [hide_ne hne, hide_ne hne] at this
    exact this
  refine it_gen w (fun x H' Nx => g x (wipe σ vs) H' fun σ2 H2 => wipe σ2 vs = wipe σ vs ∧ tt σ2 H2 fun b H3 =>
        if b = true then te σ2 H3 fun y H4 => ∃ acc, H4 Dl = some (.lst acc) ∧ acc.length < sizeLine ∧ Nx (L2.upd H4 Dl (.lst (acc ++ [y]))) else Nx H3) (fun i H => ∃ Z en Os ws done rest, Sat B Z (wipe σ vs) H (wipeE en vs) Os ∧ Step (muT elt ++ muEs cs) Z1 (hid Dl H1) (wipeE e1 vs) Os1 Z (hid Dl H) (wipeE en vs) Os ∧ H Dl = some (.lst ws) ∧ RpL B Z H ws (done0 ++ done) ∧
      Dl ∉ Os.flatten ∧ ¬ Z Dl ∧ lcLoop (lcF G vs elt p cs) (xs.drop i) en = .ok (rest, e2) ∧ ys = done ++ rest) ?_ ?_ ?_ ?_
  · exact ⟨Z1, e1, Os1, ws0, [], ys, q1w, Step.refl, hD, by rw [List.append_nil]; exact r0, n01, n02, by simpa using hrun, rfl⟩
  · rintro i H hi ⟨Z, en, Os, ws, done, rest, q, s, _⟩
    exact hG Z H (later s)
  · rintro i x H H' hi ⟨Z, en, Os, ws, done, rest, q, s, hDl, rw', n1, n2, hr, e⟩ hy
    have hx : xs[i]? = some xs[i] := List.getElem?_eq_getElem hi
    obtain ⟨g1, rx⟩ := hY Z H i x H' xs[i] (later s) hx hy
    rw [List.drop_eq_getElem_cons hi] at hr
    obtain ⟨⟨o, en'⟩, h1, h2⟩ := R.bind_ok hr
    obtain ⟨⟨rest', e'⟩, h3, h4⟩ := R.bind_ok h2
    have he' : e' = e2 ∧ rest = (match o with | some y => y :: rest' | none => rest') := by
      cases o <;> (cases h4; exact ⟨rfl, rfl⟩)
    obtain ⟨rfl, hrest⟩ := he'
    obtain ⟨b2, b, b3, h5, h6, h7⟩ := lcF_at h1
    have qg := q.grow g1
    have hDl' : H' Dl = some (.lst ws) := g1 _ _ hDl
    have qgh := qg.hide n1 n2 (fun zs h => by rw [hDl'] at h; cases h) (fun o u h => by rw [hDl'] at h; cases h)
    have sg : Step (muT elt ++ muEs cs) Z1 (hid Dl H1) (wipeE e1 vs) Os1 Z (hid Dl H') (wipeE en vs) Os := s.trans ((Step.refl (mu := muT elt ++ muEs cs)).grow g1 q).hide (fun i hi => hi) fun i hi => hi
    refine hg x _ _ _ ⟨Z, _, Os, _, b2, qg, rx, h5, fun σ2 H2 ⟨eh, Os2, q2, s2, f2, l2⟩ => ?_⟩
    have hw : wipe σ2 vs = wipe σ vs := wipe_same f2 l2 sub
    cases eh
    refine ⟨hw, ht _ _ _ ⟨Z, b2, Os2, q2, b, b3, h6, fun H3 ⟨Z3, Os3, q3, s3⟩ => ?_⟩⟩
    have out2 := out_of s2 qg (.inr ⟨ws, hDl'⟩) n1 n2
    have out3 := out_of s3 q2 (.inr ⟨ws, hDl'⟩) out2.2.1 out2.2.2
    have s23 : Step (vs ++ (muT elt ++ muEs cs)) Z H' (wipeE en vs) Os Z3 H3 b3 Os3 := s2.trans s3 (fun i hi => ml _ (sub i hi)) (fun i hi => mr _ (mr _ hi))
    rcases h7 with ⟨rfl, d, h8, rfl⟩ | ⟨rfl, rfl, rfl⟩
    · refine if_t (he _ _ _ ⟨Z3, b3, Os3, q3, d, en', h8, fun y H4 ⟨Z4, Os4, q4, s4, r4⟩ => ?_⟩)
      have out4 := out_of s4 q3 (.inr ⟨ws, out3.1.trans hDl'⟩) out3.2.1 out3.2.2
      have hD4 : H4 Dl = some (.lst ws) := out4.1.trans (out3.1.trans hDl')
      have s24 : Step (vs ++ (muT elt ++ muEs cs)) Z H' (wipeE en vs) Os Z4 H4 en' Os4 := s23.trans s4 (fun i hi => hi) (fun i hi => mr _ (ml _ hi))
      have s5 : Step (muT elt ++ muEs cs) Z1 (hid Dl H1) (wipeE e1 vs) Os1 Z4 (hid Dl H4) (wipeE en' vs) (wipeO Os4 vs) := sg.trans (s24.hide.wiped qgh q4.len1) (fun i hi => hi) fun i hi => hi
      have t4 : ∀ zs, H4 Dl ≠ some (.tup zs) := fun zs h => by rw [hD4] at h; cases h
      have f4 : ∀ o u, H4 Dl ≠ some (.frz o u) := fun o u h => by rw [hD4] at h; cases h
      have st := side_stay (o := .lst (ws ++ [y])) out4.2.2 t4 f4
      have hlw : ws.length < sizeLine := by
        rw [← big_eq]
        have := rw'.length
        rw [List.length_append] at this
        have h9 : ys.length = done.length + rest.length := by rw [e, List.length_append]
        have h10 : rest.length = rest'.length + 1 := by rw [hrest]; rfl
        omega
      refine ⟨ws, hD4, hlw, Z4, en', wipeO Os4 vs, ws ++ [y], done ++ [d], rest', (q4.wiped hw).side (fun h => out4.2.1 (flat_wipeO h)) out4.2.2 t4 f4, by rw [hide_upd]; exact s5, upd_same, ?_, fun h => out4.2.1 (flat_wipeO h), out4.2.2, h3, ?_⟩
      · have s6 := (s2.trans s3 (mu := vs ++ (muT elt ++ muEs cs)) (fun i hi => ml _ (sub i hi)) (fun i hi => mr _ (mr _ hi))).trans s4 (mu := vs ++ (muT elt ++ muEs cs)) (fun i hi => hi) (fun i hi => mr _ (ml _ hi))
        have r1 : RpL B Z4 H4 ws (done0 ++ done) := (rw'.stay g1.stay fun _ z => z).stay (s6.stay qg) s6.zz
        rw [← List.append_assoc]
        exact (r1.append (.cons r4 .nil)).stay st fun _ z => z
      · rw [e, hrest, List.append_assoc]; rfl
    · refine if_f ?_
      have s5 : Step (muT elt ++ muEs cs) Z1 (hid Dl H1) (wipeE e1 vs) Os1 Z3 (hid Dl H3) (wipeE en' vs) (wipeO Os3 vs) := sg.trans (s23.hide.wiped qgh q3.len1) (fun i hi => hi) fun i hi => hi
      refine ⟨Z3, en', wipeO Os3 vs, ws, done, rest', q3.wiped hw, s5, out3.1.trans hDl', (rw'.stay g1.stay fun _ z => z).stay (s23.stay qg) s23.zz, fun h => out3.2.1 (flat_wipeO h), out3.2.2, h3, ?_⟩
      rw [e, hrest]
  · rintro H ⟨Z, en, Os, ws, done, rest, q, s, hDl, rw', n1, n2, hr, e⟩
    rw [List.drop_of_length_le (Nat.le_refl _)] at hr
    cases hr
    rw [List.append_nil] at e
    subst e
    exact fin Z Os H ws q s hDl rw' n1 n2
/-- one turn of the outer loop -/
def lc2F (G : List Fn) (vs vs1 : List Nat) (elt : E) (p : P) (it1 : E) (p1 : P) (cs1 : List E) : D → Env → R (List D × Env) := fun x en => do
  let e2 ← bindP p x (wipeE en vs)
  let (m1, rs1, e3) ← ev G it1 e2
  let xs1 ← itR m1
  if den e3 vs1 && apart rs1 (muT elt ++ muEs cs1 ++ vs1) then
    lcLoop (lcF G vs1 elt p1 cs1) xs1 e3
  else .bad
theorem lc2_loop {vs vs1 : List Nat} {elt it1 : E} {p p1 : P} {cs1 : List E} {rs : List Nat} {J : It} {xs ys : List D} {e1 e2 : Env} {tt1 : TT} {te : TE} {g g1 : TG} {wi1 : TI} {σ : L2.St} {Q : V → Hp → Prop}
    (q1 : Sat B Z1 σ H1 e1 Os1) (dn : den e1 vs = true) (sp : subs p.slots vs = true) (sv : subs vs1 vs = true) (sp1 : subs p1.slots vs1 = true) (it : ItOk B Z1 H1 Os1 rs J xs) (ap : apart rs (muE it1 ++ muT elt ++ muEs cs1 ++ vs) = true)
    (hrun : lc2Loop (lc2F G vs vs1 elt p it1 p1 cs1) xs e1 = .ok (ys, e2)) (hlen : ys.length ≤ big)
    (hg : ∀ v σ H Q, Gb B p.slots (bindP p) v σ H Q → g v σ H Q) (hw1 : ∀ σ H Q, Ix B (muE it1) (iRun G it1) σ H Q → wi1 σ H Q) (hg1 : ∀ v σ H Q, Gb B p1.slots (bindP p1) v σ H Q → g1 v σ H Q) (ht : ∀ σ H Q, Bx B (muEs cs1) (evCs G cs1) σ H Q → tt1 σ H Q) (he : ∀ σ H Q, Tx B (muT elt) (tRun G elt) σ H Q → te σ H Q) (hD : H1 Dl = none)
    (fin : ∀ Z Os H ws, Sat B Z (wipe σ vs) H (wipeE e2 vs) Os → Step (muE it1 ++ muT elt ++ muEs cs1) Z1 H1 (wipeE e1 vs) Os1 Z H (wipeE e2 vs) Os → H Dl = some (.lst ws) → RpL B Z H ws ys → Dl ∉ Os.flatten → ¬ Z Dl → Q (.ref Dl) H) :
    ∃ W : Nat → Nat → Hp → Prop, (∃ m, W 0 m (L2.upd H1 Dl (.lst []))) ∧ ∀ i m H, W i m H →
      (J.stop i H ∧ Q (.ref Dl) H) ∨ (J.go i H ∧ ∃ Nx : Hp → Prop, (∀ H', Nx H' → ∃ m', m' < m ∧ W (i + 1) m' H') ∧ ∀ x H', J.yld i H x H' → g x (wipe σ vs) H' fun σ2 H2 => wipe σ2 vs = wipe σ vs ∧ tYes σ2 H2 fun b H3 =>
        if b = true then wi1 σ2 H3 fun J1 H4 => ∃ W1 : Nat → Nat → Hp → Prop, (∃ m, W1 0 m H4) ∧ ∀ j k H, W1 j k H →
          (J1.stop j H ∧ Nx H) ∨ (J1.go j H ∧ ∃ Nx1 : Hp → Prop, (∀ H', Nx1 H' → ∃ k', k' < k ∧ W1 (j + 1) k' H') ∧ ∀ x H', J1.yld j H x H' → g1 x (wipe σ2 vs1) H' fun σ3 H5 => wipe σ3 vs1 = wipe σ2 vs1 ∧ tt1 σ3 H5 fun b H6 =>
            if b = true then te σ3 H6 fun y H7 => ∃ acc, H7 Dl = some (.lst acc) ∧ acc.length < sizeLine ∧ Nx1 (L2.upd H7 Dl (.lst (acc ++ [y]))) else Nx1 H6)
        else Nx H3) := by
  obtain ⟨Gd, Y, w, hG, hY⟩ := it
  have q1w := q1.wiped (vs := vs) rfl
  rw [wipeO_same fun i hi => (den_at dn q1 hi).1] at q1w
  have sub := sub_at sp
  have subv := sub_at sv
  have n01 : Dl ∉ Os1.flatten := fun h => q1.there h hD
  have n02 : ¬ Z1 Dl := fun z => q1.zh _ z hD
  have t1 : ∀ zs, H1 Dl ≠ some (.tup zs) := fun zs h => by rw [hD] at h; cases h
  have f1 : ∀ o u, H1 Dl ≠ some (.frz o u) := fun o u h => by rw [hD] at h; cases h
  have q1h := q1w.hide n01 n02 t1 f1
  have later : ∀ {Z H en Os}, Step (muE it1 ++ muT elt ++ muEs cs1) Z1 (hid Dl H1) (wipeE e1 vs) Os1 Z (hid Dl H) (wipeE en vs) Os → Later rs Os1 Z1 H1 Z H := fun {Z H en Os} s => by
    refine ⟨s.zz, stay_show (s.stay q1h) n02 t1 f1, fun i hi O hO a ha => ?_⟩
    have := List.all_eq_true.mp ap i hi
    simp only [List.contains_eq_mem, List.mem_append, Bool.not_eq_true', decide_eq_false_iff_not, not_or] at this
    have hne : a ≠ Dl := fun h => n01 (h ▸ mem_flat.mpr ⟨i, O, hO, ha⟩)
    have := (s.slot i (by simp only [List.mem_append, not_or]; exact this.1)).2.2 O hO a ha
    rw [hide_ne hne, hide_ne hne] at this
    exact this
  refine it_gen w (fun x H' Nx => g x (wipe σ vs) H' fun σ2 H2 => wipe σ2 vs = wipe σ vs ∧ tYes σ2 H2 fun b H3 =>
        if b = true then wi1 σ2 H3 fun J1 H4 => ∃ W1 : Nat → Nat → Hp → Prop, (∃ m, W1 0 m H4) ∧ ∀ j k H, W1 j k H →
          (J1.stop j H ∧ Nx H) ∨ (J1.go j H ∧ ∃ Nx1 : Hp → Prop, (∀ H', Nx1 H' → ∃ k', k' < k ∧ W1 (j + 1) k' H') ∧ ∀ x H', J1.yld j H x H' → g1 x (wipe σ2 vs1) H' fun σ3 H5 => wipe σ3 vs1 = wipe σ2 vs1 ∧ tt1 σ3 H5 fun b H6 =>
            if b = true then te σ3 H6 fun y H7 => ∃ acc, H7 Dl = some (.lst acc) ∧ acc.length < sizeLine ∧ Nx1 (L2.upd H7 Dl (.lst (acc ++ [y]))) else Nx1 H6)
        else Nx H3) (fun i H => ∃ Z en Os ws done rest, Sat B Z (wipe σ vs) H (wipeE en vs) Os ∧ Step (muE it1 ++ muT elt ++ muEs cs1) Z1 (hid Dl H1) (wipeE e1 vs) Os1 Z (hid Dl H) (wipeE en vs) Os ∧ H Dl = some (.lst ws) ∧ RpL B Z H ws done ∧
      Dl ∉ Os.flatten ∧ ¬ Z Dl ∧ lc2Loop (lc2F G vs vs1 elt p it1 p1 cs1) (xs.drop i) en = .ok (rest, e2) ∧ ys = done ++ rest) ?_ ?_ ?_ ?_
  · have g0 : Grow H1 (L2.upd H1 Dl (.lst [])) := Grow.upd hD
    exact ⟨Z1, e1, Os1, [], [], ys, q1w.grow g0, by rw [hide_upd]; exact Step.refl, upd_same, .nil, n01, n02, by simpa using hrun, rfl⟩
  · rintro i H hi ⟨Z, en, Os, ws, done, rest, q, s, _⟩
    exact hG Z H (later s)
  · rintro i x H H' hi ⟨Z, en, Os, ws, done, rest, q, s, hDl, rw', n1, n2, hr, e⟩ hy
    have hx : xs[i]? = some xs[i] := List.getElem?_eq_getElem hi
    obtain ⟨gr, rx⟩ := hY Z H i x H' xs[i] (later s) hx hy
    rw [List.drop_eq_getElem_cons hi] at hr
    obtain ⟨⟨os, en'⟩, h1, h2⟩ := R.bind_ok hr
    obtain ⟨⟨rest', e'⟩, h3, h4⟩ := R.bind_ok h2
    cases h4
    obtain ⟨b2, h5, h6⟩ := R.bind_ok h1
    obtain ⟨⟨m1, rs1, e3⟩, h7, h8⟩ := R.bind_ok h6
    obtain ⟨xs1, h9, h10⟩ := R.bind_ok h8
    obtain ⟨h11, h12⟩ := R.of_if h10
    simp only [Bool.and_eq_true] at h11
    have qg := q.grow gr
    have hDl' : H' Dl = some (.lst ws) := gr _ _ hDl
    have qgh := qg.hide n1 n2 (fun zs h => by rw [hDl'] at h; cases h) (fun o u h => by rw [hDl'] at h; cases h)
    have sg : Step (muE it1 ++ muT elt ++ muEs cs1) Z1 (hid Dl H1) (wipeE e1 vs) Os1 Z (hid Dl H') (wipeE en vs) Os := s.trans ((Step.refl (mu := muE it1 ++ muT elt ++ muEs cs1)).grow gr q).hide (fun i hi => hi) fun i hi => hi
    refine hg x _ _ _ ⟨Z, _, Os, _, b2, qg, rx, h5, fun σ2 H2 ⟨eh, Os2, q2, s2, f2, l2⟩ => ?_⟩
    have hw : wipe σ2 vs = wipe σ vs := wipe_same f2 l2 sub
    cases eh
    refine ⟨hw, ?_⟩
    unfold tYes
    dsimp only
    rw [if_pos rfl]
    have hir : iRun G it1 b2 = .ok (rs1, xs1, e3) := by
      unfold iRun
      rw [h7]
      show (itR m1 >>= _) = _
      rw [h9]
      rfl
    refine hw1 _ _ _ ⟨Z, b2, Os2, q2, rs1, xs1, e3, hir, fun J1 H4 ⟨Z4, Os4, q4, s4, it4⟩ => ?_⟩
    have out2 := out_of s2 qg (.inr ⟨ws, hDl'⟩) n1 n2
    have out4 := out_of s4 q2 (.inr ⟨ws, hDl'⟩) out2.2.1 out2.2.2
    have hD4 : H4 Dl = some (.lst ws) := out4.1.trans hDl'
    have s24 : Step (vs ++ (muE it1 ++ muT elt ++ muEs cs1)) Z H' (wipeE en vs) Os Z4 H4 e3 Os4 := s2.trans s4 (fun i hi => ml _ (sub i hi)) (fun i hi => mr _ (ml _ (ml _ hi)))
    have r4 : RpL B Z4 H4 ws done := (rw'.stay gr.stay fun _ z => z).stay (s24.stay qg) s24.zz
    have hl : done.length + os.length ≤ big := by
      have : ys.length = done.length + (os.length + rest'.length) := by rw [e, List.length_append, List.length_append]
      omega
    refine lc_loopA q4 h11.1 sp1 it4 h11.2 h12 hl hg1 ht he hD4 r4 out4.2.1 out4.2.2 fun Z5 Os5 H5 ws5 q5 s5 hD5 r5 n5 n6 => ?_
    have hw2 : wipe (wipe σ2 vs1) vs = wipe σ vs := (wipe_two subv).trans hw
    have q6 := q5.wiped hw2
    rw [wipeE_two subv] at q6
    have hsame : wipeO Os4 vs1 = Os4 := wipeO_same fun i hi => (den_at h11.1 q4 hi).1
    have sw : Step vs1 Z4 H4 e3 Os4 Z4 H4 (wipeE e3 vs1) Os4 := by
      have := Step.wipe (Z := Z4) (H := H4) (env := e3) (Os := Os4) vs1
      rw [hsame] at this
      exact this
    have s25 : Step (vs ++ (muE it1 ++ muT elt ++ muEs cs1)) Z (hid Dl H') (wipeE en vs) Os Z4 (hid Dl H4) (wipeE e3 vs1) Os4 := (s24.trans sw (mu := vs ++ (muE it1 ++ muT elt ++ muEs cs1)) (fun i hi => hi) (fun i hi => ml _ (subv i hi))).hide
    have s26 : Step (vs ++ (muE it1 ++ muT elt ++ muEs cs1)) Z (hid Dl H') (wipeE en vs) Os Z5 (hid Dl H5) (wipeE en' vs1) Os5 := s25.trans s5 (fun i hi => hi) (fun i hi => mr _ (by rw [List.append_assoc]; exact mr _ hi))
    have s27 := s26.wiped qgh q5.len1
    rw [wipeE_two subv] at s27
    exact ⟨Z5, en', wipeO Os5 vs, ws5, done ++ os, rest', q6, sg.trans s27 (fun i hi => hi) (fun i hi => hi), hD5, r5, fun h => n5 (flat_wipeO h), n6, h3, by rw [e, List.append_assoc]⟩
  · rintro H ⟨Z, en, Os, ws, done, rest, q, s, hDl, rw', n1, n2, hr, e⟩
    rw [List.drop_of_length_le (Nat.le_refl _)] at hr
    cases hr
    rw [List.append_nil] at e
    subst e
    exact fin Z Os H ws q (s.show hD q1w) hDl rw' n1 n2
end
end TR

set_option Elab.async false
set_option linter.all false
set_option maxHeartbeats 4000000
set_option maxRecDepth 100000
/-! x[::-1] -/
namespace TR
open PySem PySem.Spec PyProof.Rows L2 StX HT
section
variable {prog : Program} {w : World} {A : Around} {E : Value → Shared → Prop} {s : Shared}
theorem adjust_rev (n : Nat) : Builtin.Slice.sliceAdjust none none (-1) (n : Int) = ((n : Int) - 1, -1) := rfl
theorem places_rev (n : Nat) : Builtin.Slice.slicePlaces ((n : Int) - 1) (-1) (-1) = n := by
  unfold Builtin.Slice.slicePlaces
  have h1 : ¬ ((-1 : Int) > 0) := by decide
  simp only [h1, if_false]
  by_cases h : (n : Int) - 1 > -1
  · have e : ((n : Int) - 1 - -1 - 1) / (- -1) + 1 = (n : Int) := by
      rw [show (- -1 : Int) = 1 by decide, Int.ediv_one]; omega
    simp only [h, if_true, e, Int.toNat_natCast]
  · have e : n = 0 := by omega
    subst e
    simp
theorem sliceApplied_rev {sl : Addr} {vl vu vs : Value} {n : Nat} {Q : Int × Int × Nat → Shared → Prop} (hs : s.heap.IsSliceOf sl vl vu vs) (pl : IsPart vl none) (pu : IsPart vu none) (ps : IsPart vs (some (-1)))
    (h : Q ((n : Int) - 1, -1, n) s) : wpAny (model prog w) A (Builtin.Slice.sliceApplied (.ref sl) (pure (n : Int))) Q E s := by
  obtain ⟨os, hos, hcs, hds⟩ := id hs
  unfold Builtin.Slice.sliceApplied Builtin.Slice.sliceFields
  refine wpAny_bind (wpAny_bind (wpAny_field hos hds (x := vl) rfl (wpAny_bind (wpAny_field hos hds (x := vu) rfl (wpAny_bind (wpAny_field hos hds (x := vs) rfl (wpAny_pure ?_)))))))
  refine wpAny_bind (slicePart_ ps ?_)
  show wpAny _ _ (if ((-1 : Int) == 0) = true then _ else _) _ _ s
  rw [if_neg (by decide)]
  refine wpAny_bind (slicePart_ pl (wpAny_bind (slicePart_ pu (wpAny_bind (wpAny_pure ?_)))))
  show wpAny _ _ (match Builtin.Slice.sliceAdjust none none (-1) (n : Int) with | (lo, hi) => pure (lo, (-1 : Int), Builtin.Slice.slicePlaces lo hi (-1))) _ _ s
  rw [adjust_rev n]
  show wpAny _ _ (pure ((n : Int) - 1, (-1 : Int), Builtin.Slice.slicePlaces ((n : Int) - 1) (-1) (-1))) _ _ s
  rw [places_rev]
  exact wpAny_pure h
theorem pick_rev (xs : Array Value) : ((List.range xs.size).filterMap fun (m : Nat) => xs[((xs.size : Int) - 1 + (m : Int) * (-1)).toNat]?).toArray = xs.toList.reverse.toArray := by
  congr 1
  have e : (List.range xs.size).filterMap (fun (m : Nat) => xs[((xs.size : Int) - 1 + (m : Int) * (-1)).toNat]?) = ((List.range xs.size).map (fun k => xs.size - 1 - k)).filterMap (xs[·]?) := by
    rw [List.filterMap_map]
    have hh : ∀ l : List Nat, (∀ m ∈ l, m < xs.size) → l.filterMap (fun (m : Nat) => xs[((xs.size : Int) - 1 + (m : Int) * (-1)).toNat]?) = l.filterMap ((fun k => xs[k]?) ∘ fun k => xs.size - 1 - k) := by
      intro l
      induction l with
      | nil => intro _; rfl
      | cons m l ih =>
        intro h
        have h1 := h m List.mem_cons_self
        have e2 : ((xs.size : Int) - 1 + (m : Int) * (-1)).toNat = xs.size - 1 - m := by omega
        rw [List.filterMap_cons, List.filterMap_cons, ih fun m hm => h m (List.mem_cons_of_mem _ hm), e2]
        rfl
    exact hh _ fun m hm => List.mem_range.mp hm
  rw [e, PySem.W.krv_range, List.filterMap_reverse, PySem.W.krv_all]
theorem getItem_tuple_rev {t sl : Addr} {items : Array Value} {vl vu vs : Value} {Q : Value → Shared → Prop} (ht : IsTup s.heap t items) (hs : s.heap.IsSliceOf sl vl vu vs) (pl : IsPart vl none) (pu : IsPart vu none) (ps : IsPart vs (some (-1)))
    (h : Q (.ref s.heap.objs.size) { s with heap := s.heap.push { cls := .type "tuple", data := .seq items.toList.reverse.toArray } })
    (hsz : items.size ≤ sizeLine) : wpAny (model prog w) A (getItem (.ref t) (.ref sl)) Q E s := by
  have htake : sizeOk (.seq items.toList.reverse.toArray) := by
    show (items.toList.reverse.toArray).size ≤ sizeLine
    rw [List.size_toArray, List.length_reverse, Array.length_toList]
    omega
  obtain ⟨os, hos, hcs, hds⟩ := id hs
  have hTs : s.TypeIs (.ref sl) "slice" := ⟨os, hos, hcs⟩
  unfold getItem
  try with_reducible refine wpAny_holding ?_
  first | refine wpAny_bind (wpAny_pure ?_) | skip
  refine wpAny_bind (wpAny_sequenceKey ht.typeIs (by decide) ?_)
  refine wpAny_bind (wpAny_callSpecial?_slot (name := Str.ofString "__getitem__") ht.typeIs PyProof.Rows.slot_tuple_getitem
    (wpAny_call_entry PyProof.Rows.slot_tuple_getitem ht.typeIs entry_tuple_getitem ?_ (args_tuple_getitem _ _)))
  show wpAny _ _ (Builtin.Tuple.tupleItemsOf (.ref t) >>= _) _ _ s
  refine wpAny_bind (tupleItemsOf_ ht ?_)
  refine wpAny_bind (wpAny_typeOf hTs ?_)
  rw [if_pos (by decide)]
  refine wpAny_bind (sliceApplied_rev hs pl pu ps ?_)
  have hno : ¬ (((items.size : Int) - 1 == 0 && (-1 : Int) == 1 && items.size == items.size) = true) := by
    intro q
    rw [Bool.and_eq_true, Bool.and_eq_true] at q
    exact absurd q.1.2 (by decide)
  show wpAny _ _ (if ((items.size : Int) - 1 == 0 && (-1 : Int) == 1 && items.size == items.size) = true then _ else _) _ _ s
  rw [if_neg hno, pick_rev]
  first
    | exact wpAny_bind (m := Builtin.Tuple.tupleExact _) (wpAny_newObj_type (wpAny_pure ⟨_, rfl, wpAny_pure h⟩) htake)
    | exact wpAny_bind (m := Builtin.Tuple.tupleExact _) (wpAny_newObj_type (wpAny_bind (wpAny_pure (wpAny_pure ⟨_, rfl, wpAny_pure h⟩))) htake)
    | exact wpAny_bind (wpAny_bind (m := Builtin.Tuple.tupleExact _) (wpAny_newObj_type (wpAny_pure (wpAny_pure ⟨_, rfl, wpAny_pure h⟩)) htake))
    | exact wpAny_bind (wpAny_bind (m := Builtin.Tuple.tupleExact _) (wpAny_newObj_type (wpAny_pure ⟨_, rfl, wpAny_pure h⟩) htake))
end
section
variable {X : Cx}
def tRevA (K : PySem.W.Frag) (te : TE) : TE := fun σ H Q => te σ H fun x H1 => ∃ a xs, x = .ref a ∧ ((SqL K H1 a xs ∧ ∀ p, H1 p = none → Q (.ref p) (upd H1 p (.lst xs.reverse))) ∨ (SqT K H1 a xs ∧ ∀ p, H1 p = none → Q (.ref p) (upd H1 p (.tup xs.reverse))))
theorem pe_revA {e : Expr} {te : TE} {k : Nat} {p1 p2 p3 pos : Pos} (he : PE X e te) : PE X (.Subscript e (.Slice none none (some (.UnaryOp .USub (.Constant (.int 1) k p1) p2)) p3) pos) (tRevA X.K te) := by
  refine ⟨fun pins s σ H Q I h => ?_⟩
  refine Subscript_ (thn (he.run pins s σ H _ I h) fun v s1 ⟨x, H1, I1, r1, q1⟩ => ?_)
  obtain ⟨a, xs, ex, q⟩ := q1
  subst ex
  cases r1
  have hst : PO X (some (.UnaryOp .USub (.Constant (.int 1) k p1) p2)) (tPart (tUn (rU fun i => .int (-i)) (tC (.int 1)))) := po_some (pe_un un_neg pe_int)
  refine wpAny_Slice (thn (po_none.run pins s1 σ H1 (fun o H2 => o = none ∧ H2 = H1) I1 ⟨rfl, rfl⟩) fun vl s2 ⟨l, H2, I2, pl, el, e2⟩ => ?_)
  subst el e2
  refine thn (po_none.run pins s2 σ H2 (fun o H3 => o = none ∧ H3 = H2) I2 ⟨rfl, rfl⟩) fun vu s3 ⟨u, H3, I3, pu, eu, e3⟩ => ?_
  subst eu e3
  refine thn (hst.run pins s3 σ H3 (fun o H4 => o = some (-1) ∧ H4 = H3) I3 ⟨1, rfl, -1, rfl, rfl, rfl⟩) fun vs s4 ⟨o, H4, I4, ps, eo, e4⟩ => ?_
  subst eo e4
  have I5 : Inv X pins σ H4 { s4 with heap := s4.heap.push { cls := .type "slice", data := .fields #[vl, vu, vs] } } := I4.kept (t' := s4.toks) fun b ob q => Heap.get?_push_of_some _ q
  show wpAny (model X.prog X.w) X.A (subscriptTail e (.Slice none none (some (.UnaryOp .USub (.Constant (.int 1) k p1) p2)) p3) (.ref a) (.ref s4.heap.objs.size)) (EP X pins σ Q) X.xe { s4 with heap := s4.heap.push { cls := .type "slice", data := .fields #[vl, vu, vs] } }
  rcases q with ⟨hx, q⟩ | ⟨hx, q⟩
  · obtain ⟨its, r, ht, hz⟩ := I5.list hx
    have hlen := r.length
    refine tail_any (ops := [.ref a, .ref s4.heap.objs.size]) ht.isList.typeIs (PySem.slot_list_getitem.lookup) ?_ (by with_unfolding_all rfl)
    refine wpAny_getItem_list_slice ht.isList (Heap.IsSliceOf.new _ vl vu vs) pl pu ps (by decide) ?_ (by rw [List.size_toArray]; omega)
    rw [PySem.W.krv_pick]
    refine ⟨.ref _, _, I5.laid (t' := s4.toks) (o := .lst xs.reverse) (fun b ob q => Heap.get?_push_of_some _ q) (Nat.le_refl _) ?_, rfl, q _ (I5.hok.fresh (Nat.le_refl _))⟩
    exact ⟨by rw [List.length_reverse]; exact hz, _, 0, r.reverse, Heap.get?_push_size _ rfl⟩
  · obtain ⟨its, r, ht, hz⟩ := I5.tuple hx
    have hlen := r.length
    refine tail_any (ops := [.ref a, .ref s4.heap.objs.size]) ht.typeIs (PyProof.Rows.slot_tuple_getitem.lookup) ?_ (by with_unfolding_all rfl)
    refine getItem_tuple_rev ht (Heap.IsSliceOf.new _ vl vu vs) pl pu ps ?_ (by rw [List.size_toArray]; omega)
    refine ⟨.ref _, _, I5.laid (t' := s4.toks) (o := .tup xs.reverse) (fun b ob q => Heap.get?_push_of_some _ q) (Nat.le_refl _) ?_, rfl, q _ (I5.hok.fresh (Nat.le_refl _))⟩
    exact ⟨by rw [List.length_reverse]; exact hz, _, r.reverse, IsTup.new _ _⟩
end
end TR

set_option Elab.async false
set_option linter.all false
set_option maxHeartbeats 4000000
/-! comprehensions of two clauses; walks backwards; x[::-1]; x is True -/
namespace TR
open PySem PySem.Spec PyProof.Rows L2 StX RT RZ
section
variable {G : List Fn} {C : Ctx} {X : Cx} {B : Wd} {Z Z' Z0 Z1 Z2 : Zn} {H H' H0 H1 H2 : Hp} {σ σ' : L2.St} {env env' env0 env1 en : Env} {Os Os' Os0 Os1 : List (List Addr)} {mu mub vs : List Nat} {v : V} {m : M} {d : D} {Dl : Addr} {a : E} {xa xb : Expr} {pos p p1 p2 p3 : Pos}
theorem lc2_w {vs vs1 : List Nat} {elt it it1 : E} {p p1 : P} {cs1 : List E} {Q : VK} (h : Rx B (muE (.lc2 vs vs1 elt p it p1 it1 cs1)) (ev G (.lc2 vs vs1 elt p it p1 it1 cs1)) σ H Q) :
    tLc2 (Ix B (muE it) (iRun G it)) (Gb B p.slots (bindP p)) tYes (Ix B (muE it1) (iRun G it1)) (Gb B p1.slots (bindP p1)) (Bx B (muEs cs1) (evCs G cs1)) (Tx B (muT elt) (tRun G elt)) vs vs1 σ H Q := by
  obtain ⟨Z, env, Os, q, m, rs, env', h1, h2⟩ := h
  simp only [muE] at h2
  rw [ev] at h1
  obtain ⟨⟨mm, r1, e1⟩, h3, h⟩ := R.bind_ok h1
  obtain ⟨xs, h4, h⟩ := R.bind_ok h
  obtain ⟨hc, h⟩ := R.of_if h
  simp only [Bool.and_eq_true] at hc
  obtain ⟨⟨⟨⟨dn, sp⟩, sv⟩, sp1⟩, ap⟩ := hc
  obtain ⟨⟨ys, e2⟩, h5, h⟩ := R.bind_ok h
  obtain ⟨hc2, h⟩ := R.of_if h
  cases h
  refine ⟨Z, env, Os, q, r1, xs, e1, ?_, fun J H1 ⟨Z1, Os1, q1, s1, hit⟩ D hD => ?_⟩
  · unfold iRun
    rw [h3]
    show (itR mm >>= _) = _
    rw [h4]
    rfl
  · exact lc2_loop q1 dn sp sv sp1 hit ap h5 hc2 (fun v σ H Q h => h) (fun σ H Q h => h) (fun v σ H Q h => h) (fun σ H Q h => h) (fun σ H Q h => h) hD (lc_fin q s1 q1 dn hD h2)
/-- [elt for p in it for p1 in it1 if ..] -/
theorem k_lc2 (ok : XOk G C X) {vs vs1 : List Nat} {elt it it1 : E} {p p1 : P} {cs1 : List E} {xelt xi tg xi1 tg1 : Expr} {ifs1 : List Expr} {scope : Scope} {pos : Pos}
    (hi : PI X tg xi (Ix (wd X) (muE it) (iRun G it))) (hb : blkC C.N C.sc scope (ownOf C vs) = true) (hv : subs vs1 vs = true) (hs : noSet xi = true) (hs1 : noSet xi1 = true)
    (hg : ∀ Y : Cx, wd Y = wd X → XOk G (C.blk scope) Y → PG Y tg (Gb (wd Y) p.slots (bindP p))) (hi1 : ∀ Y : Cx, wd Y = wd X → XOk G (C.blk scope) Y → PI Y tg1 xi1 (Ix (wd Y) (muE it1) (iRun G it1)))
    (hg1 : ∀ Y : Cx, wd Y = wd X → XOk G (C.blk scope) Y → PG Y tg1 (Gb (wd Y) p1.slots (bindP p1))) (ht1 : ∀ Y : Cx, wd Y = wd X → XOk G (C.blk scope) Y → PTs Y ifs1 (Bx (wd Y) (muEs cs1) (evCs G cs1)))
    (he : ∀ Y : Cx, wd Y = wd X → XOk G (C.blk scope) Y → PE Y xelt (Tx (wd Y) (muT elt) (tRun G elt))) :
    PE X (.ListComp xelt [⟨tg, xi, [], 0⟩, ⟨tg1, xi1, ifs1, 0⟩] scope pos) (Rx (wd X) (muE (.lc2 vs vs1 elt p it p1 it1 cs1)) (ev G (.lc2 vs vs1 elt p it p1 it1 cs1))) ∧
    ∀ (i : Nat) (y : Str) (py spos : Pos), C.N[i]? = some y → C.sc.names.lookup y = some .local → swapsWith (.ListComp xelt [⟨tg, xi, [], 0⟩, ⟨tg1, xi1, ifs1, 0⟩] scope pos) (some (.Name y py)) spos.line X.env = pure true →
      PS X (.Assign [.Name y py] (.ListComp xelt [⟨tg, xi, [], 0⟩, ⟨tg1, xi1, ifs1, 0⟩] scope pos) spos) (tAsg (Rx (wd X) (muE (.lc2 vs vs1 elt p it p1 it1 cs1)) (ev G (.lc2 vs vs1 elt p it p1 it1 cs1))) (gName i)) := by
  have bo : BlkOk X.N X.env.scope scope (ownOf C vs) := by rw [ok.N, ok.sc]; exact blkOk_by hb
  have hN : X.N.Nodup := by rw [ok.N]; exact ok.nd
  have hvs : ∀ i ∈ vs1, i ∈ (ownOf C vs).map (·.2) := by rw [ownOf_ix]; exact sub_at hv
  refine ⟨?_, fun i y py spos hy hyl hsw => ?_⟩
  · have rule := pe_lc2 (X := X) (pos := pos) (vs1 := vs1) (g := Gb (wd X) p.slots (bindP p)) (tt := tYes) (wi1 := Ix (wd X) (muE it1) (iRun G it1)) (g1 := Gb (wd X) p1.slots (bindP p1)) (tt1 := Bx (wd X) (muEs cs1) (evCs G cs1)) (te := Tx (wd X) (muT elt) (tRun G elt)) ok.calm hN hi bo hvs (fun s H Cd cl fp => hg (X.blk s H scope (compEnvC scope cl Cd X.env) fp) rfl (ok.blk s H scope Cd cl fp)) (fun s H Cd cl fp => pts_nil) (fun s H Cd cl fp => hi1 (X.blk s H scope (compEnvC scope cl Cd X.env) fp) rfl (ok.blk s H scope Cd cl fp)) (fun s H Cd cl fp => hg1 (X.blk s H scope (compEnvC scope cl Cd X.env) fp) rfl (ok.blk s H scope Cd cl fp)) (fun s H Cd cl fp => ht1 (X.blk s H scope (compEnvC scope cl Cd X.env) fp) rfl (ok.blk s H scope Cd cl fp)) (fun s H Cd cl fp => he (X.blk s H scope (compEnvC scope cl Cd X.env) fp) rfl (ok.blk s H scope Cd cl fp)) (fold_no hs) (fun env x => fold_no hs1 x)
    rw [ownOf_ix] at rule
    exact PE.of rule fun σ H Q h => lc2_w h
  · have rule := ps_setLc2 (X := X) (pos := pos) (vs1 := vs1) (g := Gb (wd X) p.slots (bindP p)) (tt := tYes) (wi1 := Ix (wd X) (muE it1) (iRun G it1)) (g1 := Gb (wd X) p1.slots (bindP p1)) (tt1 := Bx (wd X) (muEs cs1) (evCs G cs1)) (te := Tx (wd X) (muT elt) (tRun G elt)) ok.calm hN (by rw [ok.N]; exact hy) (by rw [ok.sc]; exact hyl) hsw hi bo hvs (fun s H Cd cl fp => hg (X.blk s H scope (compEnvC scope cl Cd X.env) fp) rfl (ok.blk s H scope Cd cl fp)) (fun s H Cd cl fp => pts_nil) (fun s H Cd cl fp => hi1 (X.blk s H scope (compEnvC scope cl Cd X.env) fp) rfl (ok.blk s H scope Cd cl fp)) (fun s H Cd cl fp => hg1 (X.blk s H scope (compEnvC scope cl Cd X.env) fp) rfl (ok.blk s H scope Cd cl fp)) (fun s H Cd cl fp => ht1 (X.blk s H scope (compEnvC scope cl Cd X.env) fp) rfl (ok.blk s H scope Cd cl fp)) (fun s H Cd cl fp => he (X.blk s H scope (compEnvC scope cl Cd X.env) fp) rfl (ok.blk s H scope Cd cl fp)) (fold_no hs) (fun env x => fold_no hs1 x)
    rw [ownOf_ix] at rule
    exact PS.of rule fun D σ H h => lc2_w h

/-! ### reversed(..) walked -/
theorem walk_revT {K : PySem.W.Frag} {a : Addr} {xs : List V} : Walk (ItvT K a xs.length) xs.length (fun H => SqT K H a xs) (fun i H x H' => H' = H ∧ xs[xs.length - 1 - i]? = some x) where
  goes := fun i H hi q => ⟨hi, xs, xs[xs.length - 1 - i]'(by omega), q, List.getElem?_eq_getElem (by omega)⟩
  stops := fun H q => Nat.le_refl _
  yields := fun i H x H' hi q ⟨e, hy⟩ => ⟨e, hy xs q⟩
theorem rev_at {xs : List D} {vs : List V} {i : Nat} {x : V} {d : D} (r : RpL B Z H vs xs) (hd : xs.reverse[i]? = some d) (hx : vs[vs.length - 1 - i]? = some x) : Rp B Z H x d := by
  have hi : i < xs.length := by
    have := (List.getElem?_eq_some_iff.mp hd).1
    rwa [List.length_reverse] at this
  rw [List.getElem?_reverse hi] at hd
  rw [r.length] at hx
  exact rpl_get r hx hd
theorem it_of_revL {rs : List Nat} {a : Addr} {vs : List V} {xs : List D} (r : RpL B Z H vs xs) (h : ∀ Z2 H2, Later rs Os Z H Z2 H2 → SqL B.K H2 a vs) : ItOk B Z H Os rs (Itv B.K a vs.length) xs.reverse :=
  ⟨fun H => SqL B.K H a vs, fun i H x H' => H' = H ∧ vs[vs.length - 1 - i]? = some x, by rw [List.length_reverse, ← r.length]; exact walk_rev, h, fun Z2 H2 i x H3 d l hd ⟨e, hx⟩ => by
    subst e
    exact ⟨Grow.refl, (rev_at r hd hx).stay l.st l.zz⟩⟩
theorem it_of_revT {rs : List Nat} {a : Addr} {vs : List V} {xs : List D} (r : RpL B Z H vs xs) (h : ∀ Z2 H2, Later rs Os Z H Z2 H2 → SqT B.K H2 a vs) : ItOk B Z H Os rs (ItvT B.K a vs.length) xs.reverse :=
  ⟨fun H => SqT B.K H a vs, fun i H x H' => H' = H ∧ vs[vs.length - 1 - i]? = some x, by rw [List.length_reverse, ← r.length]; exact walk_revT, h, fun Z2 H2 i x H3 d l hd ⟨e, hx⟩ => by
    subst e
    exact ⟨Grow.refl, (rev_at r hd hx).stay l.st l.zz⟩⟩
theorem w_rvd {tg : Expr} (ok : XOk G C X) (hg : glB C.sc "reversed" = true) (ha : PE X xa (Rx (wd X) (muE a) (ev G a))) (hn : noStar xa = true) :
    PI X tg (.Call (.Name "reversed" p) [xa] [] pos) (Ix (wd X) (muE (.rvd a)) (iRun G (.rvd a))) := by
  refine PI.of (pi_revA (gl_of ok hg) (ok.bl _ (by simp [bnames])) ha (by rw [starEach_no hn])) fun σ H RR ⟨Z, env, Os, q, rs, xs, env', h1, h2⟩ => ?_
  obtain ⟨mm, h3, h4⟩ := i_run h1
  rw [ev] at h3
  simp only [muE] at h2
  obtain ⟨⟨m, r, e1⟩, h3, h5⟩ := R.bind_ok h3
  obtain ⟨ys, h6, h7⟩ := R.bind_ok h5
  cases h7
  cases h4
  refine Rx.go q h3 fun x H1 ⟨Z1, Os1, O1, q1, s1, r1, ro1⟩ => ?_
  obtain ⟨Z2, q2, s2, r2, hO⟩ := walk_give q1 s1 r1 ro1
  obtain ⟨p, vs, e, rl, ⟨_, h⟩ | ⟨_, h⟩⟩ := later_lst r2 hO h6
  · subst e
    exact ⟨p, vs, rfl, .inl ⟨h _ _ .refl, h2 _ _ ⟨Z2, Os1, q2, s2, it_of_revL rl h⟩⟩⟩
  · subst e
    exact ⟨p, vs, rfl, .inr ⟨h _ _ .refl, h2 _ _ ⟨Z2, Os1, q2, s2, it_of_revT rl h⟩⟩⟩

/-! ### x[::-1] -/
theorem k_rev {kk : Nat} {pos : Pos} (ha : PE X xa (Rx (wd X) (muE a) (ev G a))) :
    PE X (.Subscript xa (.Slice none none (some (.UnaryOp .USub (.Constant (.int 1) kk p1) p2)) p3) pos) (Rx (wd X) (muE (.rev a)) (ev G (.rev a))) := by
  refine PE.of (pe_revA ha) fun σ H Q ⟨Z, env, Os, q, m, rs, env', h1, h2⟩ => ?_
  rw [ev] at h1
  simp only [muE] at h2
  obtain ⟨⟨ma, ra, e1⟩, h3, h5⟩ := R.bind_ok h1
  obtain ⟨m', h6, h7⟩ := R.bind_ok h5
  cases h7
  refine Rx.go q h3 fun x H1 ⟨Z1, Os1, O1, q1, s1, r1, ro1⟩ => ?_
  obtain ⟨Z2, q2, s2, r2, hO⟩ := walk_give q1 s1 r1 ro1
  have hseq : ∃ ys, ma.seq = .ok ys ∧ ((ma = .pu (.tuple ys) ∧ m = .pu (.tuple ys.reverse)) ∨ (ma ≠ .pu (.tuple ys) ∧ m = .li ys.reverse)) := by
    unfold revD at h6
    split at h6
    · cases h6; exact ⟨_, rfl, .inl ⟨rfl, rfl⟩⟩
    · rename_i hne
      obtain ⟨ys, h8, h9⟩ := R.bind_ok h6
      cases h9
      exact ⟨ys, h8, .inr ⟨fun h => hne ys h, rfl⟩⟩
  obtain ⟨ys, hs, hm⟩ := hseq
  obtain ⟨p, vs, e, rl, hh⟩ := later_lst r2 hO hs
  subst e
  rcases hm with ⟨h8, rfl⟩ | ⟨h8, rfl⟩
  · have hh := hh.resolve_left fun w => w.1 h8
    exact ⟨p, vs, rfl, .inr ⟨hh.2 _ _ .refl, fun p hp => h2 _ _ ((New.tup hp rl.reverse).post q2 s2)⟩⟩
  · have hh := hh.resolve_right fun w => h8 w.1
    exact ⟨p, vs, rfl, .inl ⟨hh.2 _ _ .refl, fun p hp => h2 _ _ ((New.li hp rl.reverse).post q2 s2)⟩⟩

/-! ### x is True -/
theorem blM_ok {m : M} {b : Bool} (h : blM m = .ok b) : m = .pu (.bool b) := by
  unfold blM at h
  split at h
  · cases h; rfl
  · cases h
theorem isb_run {n b : Bool} {r : R2} (hr : ∀ (x : Bool) (H : Hp) (Q : VK), Q (.bl ((x == b) != n)) H → r (.bl x) (.bl b) H Q) {Q : VK} (h : Rx B (muE (.isc n a (.bool b))) (ev G (.isc n a (.bool b))) σ H Q) :
    tOp r (Rx B (muE a) (ev G a)) (tC (.bl b)) σ H Q := by
  obtain ⟨Z, env, Os, q, m, rs, env', h1, h2⟩ := h
  simp only [ev] at h1
  simp only [muE] at h2
  obtain ⟨⟨ma, ra, e1⟩, e1', h1⟩ := R.bind_ok h1
  obtain ⟨x, h3, h1⟩ := R.bind_ok h1
  cases h1
  have h4 := blM_ok h3
  refine Rx.go q e1' fun y H1 pp => ?_
  dsimp only at h4
  rw [h4] at pp
  obtain ⟨Z1, Os1, q1, s1, r1⟩ := pp.pure
  cases r1
  exact hr x H1 Q (h2 _ _ ((New.pure (.bl _)).post q1 s1))
theorem k_isB {b : Bool} {j : Nat} {p : Pos} (ha : PE X xa (Rx (wd X) (muE a) (ev G a))) : PE X (.Compare xa [.Is] [.Constant (.bool b) j p] pos) (Rx (wd X) (muE (.isc false a (.bool b))) (ev G (.isc false a (.bool b)))) :=
  PE.of (pe_cmpR op_is_bl ha pe_bl rfl) fun σ H Q h => isb_run (fun x H Q q => ⟨x, b, rfl, rfl, by cases x <;> cases b <;> exact q⟩) h
theorem t_isB {b : Bool} {j : Nat} {p : Pos} (ha : PE X xa (Rx (wd X) (muE a) (ev G a))) : PT X (.Compare xa [.Is] [.Constant (.bool b) j p] pos) (Bx (wd X) (muE (.isc false a (.bool b))) (bRun G (.isc false a (.bool b)))) :=
  PT.of (pt_cmpR op_is_bl ha pe_bl rfl) fun σ H Q h => isb_run (fun x H Q q => ⟨x, b, rfl, rfl, by cases x <;> cases b <;> exact q⟩) (bx_of h)
theorem k_notB {b : Bool} {j : Nat} {p : Pos} (ha : PE X xa (Rx (wd X) (muE a) (ev G a))) : PE X (.Compare xa [.IsNot] [.Constant (.bool b) j p] pos) (Rx (wd X) (muE (.isc true a (.bool b))) (ev G (.isc true a (.bool b)))) :=
  PE.of (pe_cmpR op_isnot_bl ha pe_bl rfl) fun σ H Q h => isb_run (fun x H Q q => ⟨x, b, rfl, rfl, by cases x <;> cases b <;> exact q⟩) h
theorem t_notB {b : Bool} {j : Nat} {p : Pos} (ha : PE X xa (Rx (wd X) (muE a) (ev G a))) : PT X (.Compare xa [.IsNot] [.Constant (.bool b) j p] pos) (Bx (wd X) (muE (.isc true a (.bool b))) (bRun G (.isc true a (.bool b)))) :=
  PT.of (pt_cmpR op_isnot_bl ha pe_bl rfl) fun σ H Q h => isb_run (fun x H Q q => ⟨x, b, rfl, rfl, by cases x <;> cases b <;> exact q⟩) (bx_of h)
end
end TR

set_option Elab.async false
set_option linter.all false
set_option maxHeartbeats 4000000
set_option maxRecDepth 100000
/-! zip of a list and a tuple -/
namespace TR
open PySem PySem.Spec PyProof.Rows L2 StX RT RZ

/-- the list at a and the tuple at b, the items in new pairs -/
def ItzM (K : PySem.W.Frag) (a b : Addr) : It :=
  ⟨fun i H => ∃ (xs ys : List V) (x y : V), SqL K H a xs ∧ SqT K H b ys ∧ xs[i]? = some x ∧ ys[i]? = some y,
    fun i H v H' => ∃ T x y, v = .ref T ∧ H T = none ∧ H' = upd H T (.tup [x, y]) ∧ (∀ xs, SqL K H a xs → xs[i]? = some x) ∧ ∀ ys, SqT K H b ys → ys[i]? = some y,
    fun i H => ∃ xs ys : List V, SqL K H a xs ∧ SqT K H b ys ∧ i ≤ xs.length ∧ i ≤ ys.length ∧ (i = xs.length ∨ i = ys.length)⟩
theorem turn_zipM {P : Program} {w : World} {K : PySem.W.Frag} {elts : List Expr} {kk : Nat} {tpos : Pos} {a b z TI TO i1 i2 : Addr} (S : ZipSep2 z TI TO i1 i2 [i1, a] [i2, b]) (hai : a ≠ i1) (hbi : b ≠ i2) :
    Turn P w K (.Tuple elts kk tpos) (ItzM K a b) [z, TI, TO, i1, i2] z (fun i h => IsZip h z TI TO .none ∧ IsTupOf2 h TI (.ref i1) (.ref i2) ∧ (∃ x y, IsTupOf2 h TO x y) ∧ h.IsListIter i1 a i ∧ h.IsTupleIter i2 b i) where
  mem := by simp
  obj := fun i h st c hc => by
    obtain ⟨hz, hTI, ⟨x, y, hTO⟩, ⟨o1, e1, _, d1⟩, ⟨o2, e2, _, d2⟩⟩ := st
    have e' : c = z ∨ c = TI ∨ c = TO ∨ c = i1 ∨ c = i2 := by simpa using hc
    rcases e' with q | q | q | q | q
    · rw [q]; exact ⟨_, hz, fun v q => nomatch q⟩
    · rw [q]; exact ⟨_, hTI, fun v q => nomatch q⟩
    · rw [q]; exact ⟨_, hTO, fun v q => nomatch q⟩
    · rw [q]; exact ⟨o1, e1, fun v q => by rw [d1] at q; cases q⟩
    · rw [q]; exact ⟨o2, e2, fun v q => by rw [d2] at q; cases q⟩
  keep := fun i h h' st k => by
    obtain ⟨hz, hTI, ⟨x, y, hTO⟩, h1, h2⟩ := st
    exact ⟨k z (by simp) _ hz, k TI (by simp) _ hTI, ⟨x, y, k TO (by simp) _ hTO⟩, h1.at fun o q => k i1 (by simp) o q, h2.at fun o q => k i2 (by simp) o q⟩
  item := by
    intro X hP hw hK hc i pins s σ H E I hf st hg
    subst hP hw hK
    obtain ⟨hz, hTI, ⟨x0, y0, hTO⟩, h1, h2⟩ := st
    obtain ⟨xs, ys, x, y, hqx, hqy, hx, hy⟩ := hg
    obtain ⟨its, rv, p, _⟩ := I.list hqx
    obtain ⟨its2, rv2, p2, _⟩ := I.tuple hqy
    obtain ⟨u, hu, ru⟩ := rv.get hx
    obtain ⟨u2, hu2, ru2⟩ := rv2.get hy
    have hzl : z < s.heap.objs.size := Heap.lt_size hz
    have hin : i < its.toArray.size := by
      have := (List.getElem?_eq_some_iff.mp hu).1
      simpa using this
    have hin2 : i < its2.toArray.size := by
      have := (List.getElem?_eq_some_iff.mp hu2).1
      simpa using this
    refine wpAny_pyNext_zipD2_item S (Draws.list (A := X.A.in1) (I.ok.hd hc) i1 a hai its.toArray) (Draws.tuple (A := X.A.in1) (I.ok.hd hc) i2 b hbi its2.toArray) hz hTI hTO ⟨h1, p.isList⟩ ⟨h2, p2⟩ hin hin2 fun y1 y2 h' tk hP1 hP2 z' TO' st1 st2 hT hsz hk => ?_
    have hyu : y1 = u := by
      have e1 : its[i]? = some y1 := by simpa using hP1
      rw [hu] at e1
      exact (Option.some.inj e1).symm
    have hyu2 : y2 = u2 := by
      have e1 : its2[i]? = some y2 := by simpa using hP2
      rw [hu2] at e1
      exact (Option.some.inj e1).symm
    subst hyu hyu2
    refine ⟨_, rfl, wpAny_letOwnedTupleGo_zip (s := { s with heap := h', toks := tk }) z' fun h'' z'' sb => ?_⟩
    have hT2 : h''.get? s.heap.objs.size = some { cls := .type "tuple", data := .seq #[y1, y2] } := (sb.2 _ (Nat.ne_of_gt hzl)).trans hT
    have new : ObjOk X.prog X.w (upd H s.heap.objs.size (.tup [x, y])) h'' s.heap.objs.size (.tup [x, y]) :=
      ⟨by show 2 ≤ sizeLine; decide, [y1, y2], .cons ru (.cons ru2 .nil), ⟨_, hT2, rfl, _, rfl⟩⟩
    have I1 : Inv X pins σ (upd H s.heap.objs.size (.tup [x, y])) { s with heap := h'', toks := tk } :=
      I.turnedNew (ch := [z, TI, TO, i1, i2]) (fun c o hb q => (sb.2 c (fun q' => hb (by simp [q']))).trans (hk c o (fun q' => hb (by simp [q'])) (fun q' => hb (by simp [q'])) (fun q' => hb (by simp [q'])) (fun q' => hb (by simp [q'])) q)) hf (Nat.le_refl _) new
    refine ⟨.ref s.heap.objs.size, _, I1, rfl, ⟨_, x, y, rfl, I.hok.fresh (Nat.le_refl _), rfl, fun l hl => by rw [I.list_inj hl hqx]; exact hx, fun l hl => by rw [I.tuple_inj hl hqy]; exact hy⟩, ⟨z'', ?_, ⟨y1, y2, ?_⟩, ?_, ?_⟩, fun c hcm => ?_⟩
    · exact (sb.2 _ S.TIz).trans (hk _ _ S.TIz S.TITO S.TIi1 S.TIi2 hTI)
    · exact (sb.2 _ S.TOz).trans TO'
    · exact st1.1.at fun o q => (sb.2 _ (Ne.symm S.zi1)).trans q
    · exact st2.1.at fun o q => (sb.2 _ (Ne.symm S.zi2)).trans q
    · have hlt : c < s.heap.objs.size := by
        have e' : c = z ∨ c = TI ∨ c = TO ∨ c = i1 ∨ c = i2 := by simpa using hcm
        rcases e' with q | q | q | q | q
        · rw [q]; exact hzl
        · rw [q]; exact Heap.lt_size hTI
        · rw [q]; exact Heap.lt_size hTO
        · rw [q]; obtain ⟨_, e1, _⟩ := h1; exact Heap.lt_size e1
        · rw [q]; obtain ⟨_, e2, _⟩ := h2; exact Heap.lt_size e2
      rw [upd_ne (Nat.ne_of_lt hlt)]
      exact (hf c hcm).1
  done := by
    intro X hP hw hK hc i pins s σ H E I hf st hg
    subst hP hw hK
    obtain ⟨hz, hTI, ⟨x0, y0, hTO⟩, h1, h2⟩ := st
    obtain ⟨xs, ys, hqx, hqy, hl1, hl2, hend⟩ := hg
    obtain ⟨its, rv, p, _⟩ := I.list hqx
    obtain ⟨its2, rv2, p2, _⟩ := I.tuple hqy
    have l1 := rv.length
    have l2 := rv2.length
    exact wpAny_pyNext_zipD2_end S (Draws.list (A := X.A.in1) (I.ok.hd hc) i1 a hai its.toArray) (Draws.tuple (A := X.A.in1) (I.ok.hd hc) i2 b hbi its2.toArray) hz hTI hTO ⟨h1, p.isList⟩ ⟨h2, p2⟩ (by simp; omega) (by simp; omega) (by simp; omega) fun h' tk hk => ⟨rfl, I.turnedL (t' := tk) (ch := [z, TI, TO, i1, i2]) (fun c o hb q =>
      hk c o (fun q' => hb (by simp [q'])) (fun q' => hb (by simp [q'])) (fun q' => hb (by simp [q'])) (fun q' => hb (by simp [q'])) q) hf⟩
  self := fun A i s Q E st h => wpAny_pyIter_zip st.1 h

theorem nin2 (x p q : Nat) (h1 : x ≠ p) (h2 : x ≠ q) : (x : Addr) ∉ ([p, q] : List Addr) := by
  intro h
  rcases List.mem_cons.1 h with h | h
  · exact h1 h
  · rcases List.mem_cons.1 h with h | h
    · exact h2 h
    · cases h
theorem sep_new (I a b : Nat) (h1 : a < I) (h2 : b < I) : ZipSep2 (I + 4) (I + 2) (I + 3) I (I + 1) [I, a] [I + 1, b] where
  TIz := by show (I + 2 : Nat) ≠ I + 4; omega
  TOz := by show (I + 3 : Nat) ≠ I + 4; omega
  TITO := by show (I + 2 : Nat) ≠ I + 3; omega
  TIi1 := by show (I + 2 : Nat) ≠ I; omega
  mem1 := List.mem_cons_self
  zf1 := nin2 _ _ _ (by omega) (by omega)
  Tf1 := nin2 _ _ _ (by omega) (by omega)
  TIi2 := by show (I + 2 : Nat) ≠ I + 1; omega
  mem2 := List.mem_cons_self
  zf2 := nin2 _ _ _ (by omega) (by omega)
  Tf2 := nin2 _ _ _ (by omega) (by omega)
  sep1_2 := nin2 _ _ _ (by omega) (by omega)
  sep2_1 := nin2 _ _ _ (by omega) (by omega)
def iZipM (K : PySem.W.Frag) (ta : TA) : TI := fun σ H R => ta σ H fun vs H1 => ∃ a b xs ys, vs = [.ref a, .ref b] ∧ SqL K H1 a xs ∧ SqT K H1 b ys ∧ R (ItzM K a b) H1
theorem pi_zipM {X : Cx} {e e2 : Expr} {ta : TA} {p pos tpos : Pos} {elts : List Expr} {kk : Nat} (hg : Gl X "zip") (hm : X.mg "zip" = none) (ha : PA X [e, e2] ta)
    (hs : starEach [e, e2] X.env = (false, eval e X.env) :: starEach [e2] X.env) (hpl : (backTo pos (starEach [e2] X.env)).any (·.1) = false) :
    PI X (.Tuple elts kk tpos) (.Call (.Name "zip" p) [e, e2] [] pos) (iZipM X.K ta) := by
  refine ⟨fun pins s σ H R I h => ?_⟩
  refine Call_ (ld_blt I hg hm PyProof.Rows.boot_zip (PyProof.Rows.callWith_type1 (thn (ha.run pos pins s σ H _ I h) fun us s1 ⟨vs, H1, I1, r1, q1⟩ => ?_) hs hpl))
  obtain ⟨a, b, xs, ys, ex, hqx, hqy, q⟩ := q1
  subst ex
  cases r1 with
  | cons r rr =>
    cases rr with
    | cons r' rr =>
      cases rr
      cases r
      cases r'
      have fresh5 : ∀ c, c ∈ [s1.heap.objs.size + 4, s1.heap.objs.size + 2, s1.heap.objs.size + 3, s1.heap.objs.size, s1.heap.objs.size + 1] → FpOk X pins H1 c := fun c hcm => by
        have e' : c = s1.heap.objs.size + 4 ∨ c = s1.heap.objs.size + 2 ∨ c = s1.heap.objs.size + 3 ∨ c = s1.heap.objs.size ∨ c = s1.heap.objs.size + 1 := by simpa using hcm
        have hle : s1.heap.objs.size ≤ c := by
          rcases e' with z | z | z | z | z
          · rw [z]; exact Nat.le_add_right _ _
          · rw [z]; exact Nat.le_add_right _ _
          · rw [z]; exact Nat.le_add_right _ _
          · rw [z]; exact Nat.le_refl _
          · rw [z]; exact Nat.le_add_right _ _
        exact I1.fpOk hle (I1.hok.fresh hle)
      obtain ⟨its, rv, p1, _⟩ := I1.list hqx
      obtain ⟨its2, rv2, p2, _⟩ := I1.tuple hqy
      refine zip_begins2 (begins_list a its.toArray) (begins_tuple b its2.toArray) p1.isList p2 fun h' hz hTI hTO g1 g2 hsz hk => wpAny_pyIter_zip hz ?_
      have I2 : Inv X pins σ H1 { s1 with heap := h' } := I1.kept (t' := s1.toks) hk
      have la : a < s1.heap.objs.size := p1.lt
      have lb : b < s1.heap.objs.size := p2.lt
      exact ⟨s1.heap.objs.size + 4, [s1.heap.objs.size + 4, s1.heap.objs.size + 2, s1.heap.objs.size + 3, s1.heap.objs.size, s1.heap.objs.size + 1], _, _, H1, rfl, I2, turn_zipM (sep_new _ a b la lb) (Nat.ne_of_lt la) (Nat.ne_of_lt (Nat.lt_succ_of_lt lb)), ⟨hz, hTI, ⟨_, _, hTO⟩, ⟨_, g1, rfl, rfl⟩, ⟨_, g2, rfl, rfl⟩⟩, fresh5, q⟩
theorem walk_zipM {K : PySem.W.Frag} {a b : Addr} {xs ys : List V} : Walk (ItzM K a b) (min xs.length ys.length) (fun H => SqL K H a xs ∧ SqT K H b ys) (YPair (fun i => xs[i]?) (fun i => ys[i]?)) := by
  refine ⟨fun i _ hi q => ?_, fun _ q => ⟨xs, ys, q.1, q.2, by omega, by omega, by omega⟩, fun i H v H' _ q y => ?_⟩
  · have h1 : i < xs.length := by omega
    have h2 : i < ys.length := by omega
    exact ⟨xs, ys, xs[i], ys[i], q.1, q.2, by simp [h1], by simp [h2]⟩
  · obtain ⟨T, x, z, h1, h2, h3, h4, h5⟩ := y
    exact ⟨T, x, z, h1, h2, h3, h4 xs q.1, h5 ys q.2⟩
/-- the tuple at a and the list at b, the items in new pairs -/
def ItzN (K : PySem.W.Frag) (a b : Addr) : It :=
  ⟨fun i H => ∃ (xs ys : List V) (x y : V), SqT K H a xs ∧ SqL K H b ys ∧ xs[i]? = some x ∧ ys[i]? = some y,
    fun i H v H' => ∃ T x y, v = .ref T ∧ H T = none ∧ H' = upd H T (.tup [x, y]) ∧ (∀ xs, SqT K H a xs → xs[i]? = some x) ∧ ∀ ys, SqL K H b ys → ys[i]? = some y,
    fun i H => ∃ xs ys : List V, SqT K H a xs ∧ SqL K H b ys ∧ i ≤ xs.length ∧ i ≤ ys.length ∧ (i = xs.length ∨ i = ys.length)⟩
theorem turn_zipN {P : Program} {w : World} {K : PySem.W.Frag} {elts : List Expr} {kk : Nat} {tpos : Pos} {a b z TI TO i1 i2 : Addr} (S : ZipSep2 z TI TO i1 i2 [i1, a] [i2, b]) (hai : a ≠ i1) (hbi : b ≠ i2) :
    Turn P w K (.Tuple elts kk tpos) (ItzN K a b) [z, TI, TO, i1, i2] z (fun i h => IsZip h z TI TO .none ∧ IsTupOf2 h TI (.ref i1) (.ref i2) ∧ (∃ x y, IsTupOf2 h TO x y) ∧ h.IsTupleIter i1 a i ∧ h.IsListIter i2 b i) where
  mem := by simp
  obj := fun i h st c hc => by
    obtain ⟨hz, hTI, ⟨x, y, hTO⟩, ⟨o1, e1, _, d1⟩, ⟨o2, e2, _, d2⟩⟩ := st
    have e' : c = z ∨ c = TI ∨ c = TO ∨ c = i1 ∨ c = i2 := by simpa using hc
    rcases e' with q | q | q | q | q
    · rw [q]; exact ⟨_, hz, fun v q => nomatch q⟩
    · rw [q]; exact ⟨_, hTI, fun v q => nomatch q⟩
    · rw [q]; exact ⟨_, hTO, fun v q => nomatch q⟩
    · rw [q]; exact ⟨o1, e1, fun v q => by rw [d1] at q; cases q⟩
    · rw [q]; exact ⟨o2, e2, fun v q => by rw [d2] at q; cases q⟩
  keep := fun i h h' st k => by
    obtain ⟨hz, hTI, ⟨x, y, hTO⟩, h1, h2⟩ := st
    exact ⟨k z (by simp) _ hz, k TI (by simp) _ hTI, ⟨x, y, k TO (by simp) _ hTO⟩, h1.at fun o q => k i1 (by simp) o q, h2.at fun o q => k i2 (by simp) o q⟩
  item := by
    intro X hP hw hK hc i pins s σ H E I hf st hg
    subst hP hw hK
    obtain ⟨hz, hTI, ⟨x0, y0, hTO⟩, h1, h2⟩ := st
    obtain ⟨xs, ys, x, y, hqx, hqy, hx, hy⟩ := hg
    obtain ⟨its, rv, p, _⟩ := I.tuple hqx
    obtain ⟨its2, rv2, p2, _⟩ := I.list hqy
    obtain ⟨u, hu, ru⟩ := rv.get hx
    obtain ⟨u2, hu2, ru2⟩ := rv2.get hy
    have hzl : z < s.heap.objs.size := Heap.lt_size hz
    have hin : i < its.toArray.size := by
      have := (List.getElem?_eq_some_iff.mp hu).1
      simpa using this
    have hin2 : i < its2.toArray.size := by
      have := (List.getElem?_eq_some_iff.mp hu2).1
      simpa using this
    refine wpAny_pyNext_zipD2_item S (Draws.tuple (A := X.A.in1) (I.ok.hd hc) i1 a hai its.toArray) (Draws.list (A := X.A.in1) (I.ok.hd hc) i2 b hbi its2.toArray) hz hTI hTO ⟨h1, p⟩ ⟨h2, p2.isList⟩ hin hin2 fun y1 y2 h' tk hP1 hP2 z' TO' st1 st2 hT hsz hk => ?_
    have hyu : y1 = u := by
      have e1 : its[i]? = some y1 := by simpa using hP1
      rw [hu] at e1
      exact (Option.some.inj e1).symm
    have hyu2 : y2 = u2 := by
      have e1 : its2[i]? = some y2 := by simpa using hP2
      rw [hu2] at e1
      exact (Option.some.inj e1).symm
    subst hyu hyu2
    refine ⟨_, rfl, wpAny_letOwnedTupleGo_zip (s := { s with heap := h', toks := tk }) z' fun h'' z'' sb => ?_⟩
    have hT2 : h''.get? s.heap.objs.size = some { cls := .type "tuple", data := .seq #[y1, y2] } := (sb.2 _ (Nat.ne_of_gt hzl)).trans hT
    have new : ObjOk X.prog X.w (upd H s.heap.objs.size (.tup [x, y])) h'' s.heap.objs.size (.tup [x, y]) :=
      ⟨by show 2 ≤ sizeLine; decide, [y1, y2], .cons ru (.cons ru2 .nil), ⟨_, hT2, rfl, _, rfl⟩⟩
    have I1 : Inv X pins σ (upd H s.heap.objs.size (.tup [x, y])) { s with heap := h'', toks := tk } :=
      I.turnedNew (ch := [z, TI, TO, i1, i2]) (fun c o hb q => (sb.2 c (fun q' => hb (by simp [q']))).trans (hk c o (fun q' => hb (by simp [q'])) (fun q' => hb (by simp [q'])) (fun q' => hb (by simp [q'])) (fun q' => hb (by simp [q'])) q)) hf (Nat.le_refl _) new
    refine ⟨.ref s.heap.objs.size, _, I1, rfl, ⟨_, x, y, rfl, I.hok.fresh (Nat.le_refl _), rfl, fun l hl => by rw [I.tuple_inj hl hqx]; exact hx, fun l hl => by rw [I.list_inj hl hqy]; exact hy⟩, ⟨z'', ?_, ⟨y1, y2, ?_⟩, ?_, ?_⟩, fun c hcm => ?_⟩
    · exact (sb.2 _ S.TIz).trans (hk _ _ S.TIz S.TITO S.TIi1 S.TIi2 hTI)
    · exact (sb.2 _ S.TOz).trans TO'
    · exact st1.1.at fun o q => (sb.2 _ (Ne.symm S.zi1)).trans q
    · exact st2.1.at fun o q => (sb.2 _ (Ne.symm S.zi2)).trans q
    · have hlt : c < s.heap.objs.size := by
        have e' : c = z ∨ c = TI ∨ c = TO ∨ c = i1 ∨ c = i2 := by simpa using hcm
        rcases e' with q | q | q | q | q
        · rw [q]; exact hzl
        · rw [q]; exact Heap.lt_size hTI
        · rw [q]; exact Heap.lt_size hTO
        · rw [q]; obtain ⟨_, e1, _⟩ := h1; exact Heap.lt_size e1
        · rw [q]; obtain ⟨_, e2, _⟩ := h2; exact Heap.lt_size e2
      rw [upd_ne (Nat.ne_of_lt hlt)]
      exact (hf c hcm).1
  done := by
    intro X hP hw hK hc i pins s σ H E I hf st hg
    subst hP hw hK
    obtain ⟨hz, hTI, ⟨x0, y0, hTO⟩, h1, h2⟩ := st
    obtain ⟨xs, ys, hqx, hqy, hl1, hl2, hend⟩ := hg
    obtain ⟨its, rv, p, _⟩ := I.tuple hqx
    obtain ⟨its2, rv2, p2, _⟩ := I.list hqy
    have l1 := rv.length
    have l2 := rv2.length
    exact wpAny_pyNext_zipD2_end S (Draws.tuple (A := X.A.in1) (I.ok.hd hc) i1 a hai its.toArray) (Draws.list (A := X.A.in1) (I.ok.hd hc) i2 b hbi its2.toArray) hz hTI hTO ⟨h1, p⟩ ⟨h2, p2.isList⟩ (by simp; omega) (by simp; omega) (by simp; omega) fun h' tk hk => ⟨rfl, I.turnedL (t' := tk) (ch := [z, TI, TO, i1, i2]) (fun c o hb q =>
      hk c o (fun q' => hb (by simp [q'])) (fun q' => hb (by simp [q'])) (fun q' => hb (by simp [q'])) (fun q' => hb (by simp [q'])) q) hf⟩
  self := fun A i s Q E st h => wpAny_pyIter_zip st.1 h

def iZipN (K : PySem.W.Frag) (ta : TA) : TI := fun σ H R => ta σ H fun vs H1 => ∃ a b xs ys, vs = [.ref a, .ref b] ∧ SqT K H1 a xs ∧ SqL K H1 b ys ∧ R (ItzN K a b) H1
theorem pi_zipN {X : Cx} {e e2 : Expr} {ta : TA} {p pos tpos : Pos} {elts : List Expr} {kk : Nat} (hg : Gl X "zip") (hm : X.mg "zip" = none) (ha : PA X [e, e2] ta)
    (hs : starEach [e, e2] X.env = (false, eval e X.env) :: starEach [e2] X.env) (hpl : (backTo pos (starEach [e2] X.env)).any (·.1) = false) :
    PI X (.Tuple elts kk tpos) (.Call (.Name "zip" p) [e, e2] [] pos) (iZipN X.K ta) := by
  refine ⟨fun pins s σ H R I h => ?_⟩
  refine Call_ (ld_blt I hg hm PyProof.Rows.boot_zip (PyProof.Rows.callWith_type1 (thn (ha.run pos pins s σ H _ I h) fun us s1 ⟨vs, H1, I1, r1, q1⟩ => ?_) hs hpl))
  obtain ⟨a, b, xs, ys, ex, hqx, hqy, q⟩ := q1
  subst ex
  cases r1 with
  | cons r rr =>
    cases rr with
    | cons r' rr =>
      cases rr
      cases r
      cases r'
      have fresh5 : ∀ c, c ∈ [s1.heap.objs.size + 4, s1.heap.objs.size + 2, s1.heap.objs.size + 3, s1.heap.objs.size, s1.heap.objs.size + 1] → FpOk X pins H1 c := fun c hcm => by
        have e' : c = s1.heap.objs.size + 4 ∨ c = s1.heap.objs.size + 2 ∨ c = s1.heap.objs.size + 3 ∨ c = s1.heap.objs.size ∨ c = s1.heap.objs.size + 1 := by simpa using hcm
        have hle : s1.heap.objs.size ≤ c := by
          rcases e' with z | z | z | z | z
          · rw [z]; exact Nat.le_add_right _ _
          · rw [z]; exact Nat.le_add_right _ _
          · rw [z]; exact Nat.le_add_right _ _
          · rw [z]; exact Nat.le_refl _
          · rw [z]; exact Nat.le_add_right _ _
        exact I1.fpOk hle (I1.hok.fresh hle)
      obtain ⟨its, rv, p1, _⟩ := I1.tuple hqx
      obtain ⟨its2, rv2, p2, _⟩ := I1.list hqy
      refine zip_begins2 (begins_tuple a its.toArray) (begins_list b its2.toArray) p1 p2.isList fun h' hz hTI hTO g1 g2 hsz hk => wpAny_pyIter_zip hz ?_
      have I2 : Inv X pins σ H1 { s1 with heap := h' } := I1.kept (t' := s1.toks) hk
      have la : a < s1.heap.objs.size := p1.lt
      have lb : b < s1.heap.objs.size := p2.lt
      exact ⟨s1.heap.objs.size + 4, [s1.heap.objs.size + 4, s1.heap.objs.size + 2, s1.heap.objs.size + 3, s1.heap.objs.size, s1.heap.objs.size + 1], _, _, H1, rfl, I2, turn_zipN (sep_new _ a b la lb) (Nat.ne_of_lt la) (Nat.ne_of_lt (Nat.lt_succ_of_lt lb)), ⟨hz, hTI, ⟨_, _, hTO⟩, ⟨_, g1, rfl, rfl⟩, ⟨_, g2, rfl, rfl⟩⟩, fresh5, q⟩
theorem walk_zipN {K : PySem.W.Frag} {a b : Addr} {xs ys : List V} : Walk (ItzN K a b) (min xs.length ys.length) (fun H => SqT K H a xs ∧ SqL K H b ys) (YPair (fun i => xs[i]?) (fun i => ys[i]?)) := by
  refine ⟨fun i _ hi q => ?_, fun _ q => ⟨xs, ys, q.1, q.2, by omega, by omega, by omega⟩, fun i H v H' _ q y => ?_⟩
  · have h1 : i < xs.length := by omega
    have h2 : i < ys.length := by omega
    exact ⟨xs, ys, xs[i], ys[i], q.1, q.2, by simp [h1], by simp [h2]⟩
  · obtain ⟨T, x, z, h1, h2, h3, h4, h5⟩ := y
    exact ⟨T, x, z, h1, h2, h3, h4 xs q.1, h5 ys q.2⟩
theorem walk_zipT {K : PySem.W.Frag} {a b : Addr} {xs ys : List V} : Walk (ItzT K a b) (min xs.length ys.length) (fun H => SqT K H a xs ∧ SqT K H b ys) (YPair (fun i => xs[i]?) (fun i => ys[i]?)) := by
  refine ⟨fun i _ hi q => ?_, fun _ q => ⟨xs, ys, q.1, q.2, by omega⟩, fun i H v H' _ q y => ?_⟩
  · have h1 : i < xs.length := by omega
    have h2 : i < ys.length := by omega
    exact ⟨xs, ys, xs[i], ys[i], q.1, q.2, by simp [h1], by simp [h2]⟩
  · obtain ⟨T, x, z, h1, h2, h3, h4, h5⟩ := y
    exact ⟨T, x, z, h1, h2, h3, h4 xs q.1, h5 ys q.2⟩
section
variable {G : List Fn} {C : Ctx} {X : Cx} {B : Wd} {Z Z1 Z3 : Zn} {H H1 H2 : Hp} {σ : L2.St} {env e1 e2 : Env} {Os Os1 Os2 : List (List Addr)} {mu2 ra rb : List Nat} {x y : V} {ma mb : M} {O1 O2 : List Addr} {ys zs : List D} {a b : E} {xa xb : Expr} {pos p : Pos}
theorem zip_tail (q1 : Sat B Z1 σ H1 e1 Os1) (r1 : RM B Z1 H1 x ma O1) (hO1 : ∀ a ∈ O1, Z1 a ∨ ∃ i ∈ ra, ∃ Oi, Os1[i]? = some Oi ∧ a ∈ Oi) (s3 : Step mu2 Z1 H1 e1 Os1 Z3 H2 e2 Os2)
    (r3 : RM B Z3 H2 y mb O2) (hO2 : ∀ a ∈ O2, Z3 a ∨ ∃ i ∈ rb, ∃ Oi, Os2[i]? = some Oi ∧ a ∈ Oi) (ap : apart ra mu2 = true) (h1 : ma.seq = .ok ys) (h2 : mb.seq = .ok zs) :
    (∃ pa vs, x = .ref pa ∧ RpL B Z3 H2 vs ys ∧ ((ma ≠ .pu (.tuple ys) ∧ ∀ Z2 H3, Later (ra ++ rb) Os2 Z3 H2 Z2 H3 → SqL B.K H3 pa vs) ∨ (ma = .pu (.tuple ys) ∧ ∀ Z2 H3, Later (ra ++ rb) Os2 Z3 H2 Z2 H3 → SqT B.K H3 pa vs))) ∧
    ∃ pb ws, y = .ref pb ∧ RpL B Z3 H2 ws zs ∧ ((mb ≠ .pu (.tuple zs) ∧ ∀ Z2 H3, Later (ra ++ rb) Os2 Z3 H2 Z2 H3 → SqL B.K H3 pb ws) ∨ (mb = .pu (.tuple zs) ∧ ∀ Z2 H3, Later (ra ++ rb) Os2 Z3 H2 Z2 H3 → SqT B.K H3 pb ws)) := by
  have hn : ∀ i ∈ ra, i ∉ mu2 := fun i hi => by
    unfold apart at ap
    simpa using List.all_eq_true.mp ap i hi
  have r : RM B Z3 H2 x ma O1 := by
    refine r1.stay (s3.stay q1) s3.zz fun a o ha e => ?_
    rcases hO1 a ha with z | ⟨i, hi, Oi, h3, h4⟩
    · exact (s3.stay q1).z _ _ z e
    · rw [(s3.slot i (hn i hi)).2.2 Oi h3 a h4]; exact e
  refine ⟨later_lst r (fun a ha => ?_) h1, later_lst r3 (fun a ha => ?_) h2⟩
  · rcases hO1 a ha with z | ⟨i, hi, Oi, h3, h4⟩
    · exact .inl (s3.zz a z)
    · exact .inr ⟨i, List.mem_append_left _ hi, Oi, (s3.slot i (hn i hi)).2.1.trans h3, h4⟩
  · rcases hO2 a ha with z | ⟨i, hi, Oi, h3, h4⟩
    · exact .inl z
    · exact .inr ⟨i, List.mem_append_right _ hi, Oi, h3, h4⟩
theorem w_zip {ts : List Expr} {kk : Nat} {tpos : Pos} (ok : XOk G C X) (hg : glB C.sc "zip" = true) (ha : PE X xa (Rx (wd X) (muE a) (ev G a))) (hb : PE X xb (Rx (wd X) (muE b) (ev G b))) (hn : noStar xa = true) (hn2 : noStar xb = true) :
    PI X (.Tuple ts kk tpos) (.Call (.Name "zip" p) [xa, xb] [] pos) (Ix (wd X) (muE (.zip a b)) (iRun G (.zip a b))) := by
  have hpa := pa_cons ha (pa_cons hb pa_nil (starEach_no hn2)) (starEach_no hn)
  have hse : starEach [xa, xb] X.env = (false, eval xa X.env) :: starEach [xb] X.env := by rw [starEach_no hn]
  have hpl : (backTo pos (starEach [xb] X.env)).any (·.1) = false := by rw [starEach_no hn2]; rfl
  refine PI.of (PI.or (pi_zipA (gl_of ok hg) (ok.bl _ (by simp [bnames])) hpa hse hpl) (PI.or (pi_zipM (gl_of ok hg) (ok.bl _ (by simp [bnames])) hpa hse hpl) (pi_zipN (gl_of ok hg) (ok.bl _ (by simp [bnames])) hpa hse hpl))) fun σ H RR ⟨Z, env, Os, q, rs, xs, env', h1, h2⟩ => ?_
  obtain ⟨mm, h3, h4⟩ := i_run h1
  rw [ev] at h3
  simp only [muE] at h2
  obtain ⟨⟨ma, ra, e1⟩, k3, h5⟩ := R.bind_ok h3
  obtain ⟨⟨mb, rb, e2⟩, h6, h7⟩ := R.bind_ok h5
  obtain ⟨ys, h8, h9⟩ := R.bind_ok h7
  obtain ⟨zs, h10, h11⟩ := R.bind_ok h9
  obtain ⟨ap, h12⟩ := R.of_if h11
  cases h12
  cases h4
  by_cases m1 : ma = .pu (.tuple ys)
  · by_cases m2 : mb = .pu (.tuple zs)
    · refine .inl (Rx.go q k3 fun x H1 ⟨Z1, Os1, O1, q1, s1, r1, ro1⟩ => ?_)
      obtain ⟨Z1', q1', s1', r1', hO1⟩ := walk_give q1 s1 r1 ro1
      refine Rx.go q1' h6 fun y H2 ⟨Z2, Os2, O2, q2, s2, r2, ro2⟩ => ?_
      obtain ⟨Z3, q3, s3, r3, hO2⟩ := walk_give q2 s2 r2 ro2
      obtain ⟨⟨pa, vs, ex, rl, g⟩, pb, ws, ey, rl2, g2⟩ := zip_tail q1' r1' hO1 s3 r3 hO2 ap h8 h10
      have g := g.resolve_left (fun w => w.1 m1)
      have g2 := g2.resolve_left (fun w => w.1 m2)
      subst ex ey
      exact ⟨pa, pb, vs, ws, rfl, .inr ⟨g.2 _ _ .refl, g2.2 _ _ .refl, h2 _ _ ⟨Z3, Os2, q3, s1'.trans s3 ml mr, it_of_zipY rl rl2 walk_zipT fun Z2 H3 l => ⟨g.2 _ _ l, g2.2 _ _ l⟩⟩⟩⟩
    · refine .inr (.inr (Rx.go q k3 fun x H1 ⟨Z1, Os1, O1, q1, s1, r1, ro1⟩ => ?_))
      obtain ⟨Z1', q1', s1', r1', hO1⟩ := walk_give q1 s1 r1 ro1
      refine Rx.go q1' h6 fun y H2 ⟨Z2, Os2, O2, q2, s2, r2, ro2⟩ => ?_
      obtain ⟨Z3, q3, s3, r3, hO2⟩ := walk_give q2 s2 r2 ro2
      obtain ⟨⟨pa, vs, ex, rl, g⟩, pb, ws, ey, rl2, g2⟩ := zip_tail q1' r1' hO1 s3 r3 hO2 ap h8 h10
      have g := g.resolve_left (fun w => w.1 m1)
      have g2 := g2.resolve_right (fun w => m2 w.1)
      subst ex ey
      exact ⟨pa, pb, vs, ws, rfl, g.2 _ _ .refl, g2.2 _ _ .refl, h2 _ _ ⟨Z3, Os2, q3, s1'.trans s3 ml mr, it_of_zipY rl rl2 walk_zipN fun Z2 H3 l => ⟨g.2 _ _ l, g2.2 _ _ l⟩⟩⟩
  · by_cases m2 : mb = .pu (.tuple zs)
    · refine .inr (.inl (Rx.go q k3 fun x H1 ⟨Z1, Os1, O1, q1, s1, r1, ro1⟩ => ?_))
      obtain ⟨Z1', q1', s1', r1', hO1⟩ := walk_give q1 s1 r1 ro1
      refine Rx.go q1' h6 fun y H2 ⟨Z2, Os2, O2, q2, s2, r2, ro2⟩ => ?_
      obtain ⟨Z3, q3, s3, r3, hO2⟩ := walk_give q2 s2 r2 ro2
      obtain ⟨⟨pa, vs, ex, rl, g⟩, pb, ws, ey, rl2, g2⟩ := zip_tail q1' r1' hO1 s3 r3 hO2 ap h8 h10
      have g := g.resolve_right (fun w => m1 w.1)
      have g2 := g2.resolve_left (fun w => w.1 m2)
      subst ex ey
      exact ⟨pa, pb, vs, ws, rfl, g.2 _ _ .refl, g2.2 _ _ .refl, h2 _ _ ⟨Z3, Os2, q3, s1'.trans s3 ml mr, it_of_zipY rl rl2 walk_zipM fun Z2 H3 l => ⟨g.2 _ _ l, g2.2 _ _ l⟩⟩⟩
    · refine .inl (Rx.go q k3 fun x H1 ⟨Z1, Os1, O1, q1, s1, r1, ro1⟩ => ?_)
      obtain ⟨Z1', q1', s1', r1', hO1⟩ := walk_give q1 s1 r1 ro1
      refine Rx.go q1' h6 fun y H2 ⟨Z2, Os2, O2, q2, s2, r2, ro2⟩ => ?_
      obtain ⟨Z3, q3, s3, r3, hO2⟩ := walk_give q2 s2 r2 ro2
      obtain ⟨⟨pa, vs, ex, rl, g⟩, pb, ws, ey, rl2, g2⟩ := zip_tail q1' r1' hO1 s3 r3 hO2 ap h8 h10
      have g := g.resolve_right (fun w => m1 w.1)
      have g2 := g2.resolve_right (fun w => m2 w.1)
      subst ex ey
      exact ⟨pa, pb, vs, ws, rfl, .inl ⟨g.2 _ _ .refl, g2.2 _ _ .refl, h2 _ _ ⟨Z3, Os2, q3, s1'.trans s3 ml mr, it_of_zipY rl rl2 (walk_zip rfl) fun Z2 H3 l => ⟨g.2 _ _ l, g2.2 _ _ l⟩⟩⟩⟩
end
end TR

set_option Elab.async false
set_option linter.all false
set_option maxHeartbeats 4000000
/-! the text against the small language: expressions -/
namespace TR
open PySem PySem.Spec PyProof.Rows L2 StX

def isPr : Option Fn → Bool
  | some (.pr _) => true
  | _ => false
def isWr : Option Fn → Bool
  | some (.wr _) => true
  | _ => false
def sameD : D → D → Bool
  | .int i, .int j => decide (i = j)
  | .str i, .str j => decide (i = j)
  | .bool i, .bool j => i == j
  | .none, .none => true
  | _, _ => false
theorem sameD_eq {d e : D} (h : sameD d e = true) : d = e := by
  unfold sameD at h
  split at h <;> first | (rw [of_decide_eq_true h]) | (rw [eq_of_beq h]) | rfl | cases h
def isTupX : Expr → Bool
  | .Tuple .. => true
  | _ => false
/-- None -/
def isNone : E → Bool
  | .cst .none => true
  | _ => false
theorem isNone_at {z : E} (h : isNone z = true) : z = .cst .none := by
  unfold isNone at h
  split at h
  · rfl
  · cases h
def bi1N : Bi → Option Str
  | .len => some "len"
  | .abs => some "abs"
  | .max => some "max"
  | .min => some "min"
  | .sum => some "sum"
  | .any => some "any"
  | .all => some "all"
  | .sorted => some "sorted"
  | .list => some "list"
  | .tuple => some "tuple"
  | .int => some "int"
  | .bool => some "bool"
  | .str => some "str"
  | _ => none
def isiN : Bi → Option Str
  | .isint => some "int"
  | .isbool => some "bool"
  | .istup => some "tuple"
  | .islist => some "list"
  | .isstr => some "str"
  | _ => none
def nmOk (C : Ctx) (nm : Str) (x : Str) : Bool := decide (nm = x) && glB C.sc nm
def varOk (C : Ctx) (i : Nat) (x : Str) : Bool := decide (C.N[i]? = some x) && visB C.sc x && noDbg x
def fnOk (C : Ctx) (k : Nat) (nm : Str) (n : Nat) : Bool := decide (C.fn[k]? = some (nm, n)) && glB C.sc nm && noDbg nm
/-- a test that is no plain value -/
def chkB : E → Expr → Bool
  | .cmp .., _ => true
  | .chn .., _ => true
  | .isc .., _ => true
  | .not a, .UnaryOp _ x _ => plainT x || chkB a x
  | .and a b, .BoolOp _ (x :: y :: rest) pos => (plainT x || chkB a x) && (match rest with | [] => plainT y || chkB b y | _ => chkB b (.BoolOp .And (y :: rest) pos))
  | .or a b, .BoolOp _ (x :: y :: rest) pos => (plainT x || chkB a x) && (match rest with | [] => plainT y || chkB b y | _ => chkB b (.BoolOp .Or (y :: rest) pos))
  | _, _ => false
mutual
def chkE (G : List Fn) (C : Ctx) : E → Expr → Bool
  | .cst d, .Constant c _ _ => chkC d c
  | .var i, .Name x _ => varOk C i x
  | .glb k d, .Name x _ => (match C.con[k]? with | some (y, e) => decide (y = x) && sameD e d | none => false) && glB C.sc x && noDbg x
  | .bin o a b, .BinOp x op y _ => decide (op = opOf o) && chkE G C a x && chkE G C b y
  | .cmp o a b, .Compare x [op] [y] _ => decide (op = cmpOf o) && noSet y && chkE G C a x && chkE G C b y
  | .chn o1 o2 a b c, .Compare x [op1, op2] [y, z] _ => decide (op1 = cmpOf o1) && decide (op2 = cmpOf o2) && noSet z && chkE G C a x && chkE G C b y && chkE G C c z
  | .isc n a .none, .Compare x [op] [.Constant .none _ _] _ => decide (op = if n then .IsNot else .Is) && chkE G C a x
  | .isc n a (.bool b), .Compare x [op] [.Constant (.bool c) _ _] _ => (b == c) && decide (op = if n then .IsNot else .Is) && chkE G C a x
  | .neg a, .UnaryOp .USub x _ => chkE G C a x
  | .not a, .UnaryOp .Not x _ => chkE G C a x
  | .and a b, .BoolOp .And (x :: y :: rest) pos => chkE G C a x && (match rest with | [] => chkE G C b y | _ => chkE G C b (.BoolOp .And (y :: rest) pos))
  | .or a b, .BoolOp .Or (x :: y :: rest) pos => chkE G C a x && (match rest with | [] => chkE G C b y | _ => chkE G C b (.BoolOp .Or (y :: rest) pos))
  | .ite c a b, .IfExp x y z _ => (plainT x || chkB c x) && chkE G C c x && chkE G C a y && chkE G C b z
  | .tup as, .Tuple xs _ _ => chkTs G C as xs
  | .lst as, .List xs _ => chkTs G C as xs
  | .sub a b, .Subscript x y _ => plainIx y && chkE G C a x && chkE G C b y
  | .slc a lo hi, .Subscript x (.Slice l h none _) _ => chkE G C a x && chkO G C lo l && chkO G C hi h
  | .rev a, .Subscript x (.Slice none none (some (.UnaryOp .USub (.Constant (.int 1) _ _) _)) _) _ => chkE G C a x
  | .bi b [a], .Call (.Name nm _) [x] [] _ => (match bi1N b with | some y => nmOk C nm y | none => false) && noStar x && chkE G C a x
  | .bi b [a], .Call (.Name nm _) [x, .Name t _] [] _ => (match isiN b with | some y => nmOk C t y | none => false) && nmOk C nm "isinstance" && noStar x && chkE G C a x
  | .bi b [a], .Call (.Name nm _) [x, .Tuple [.Name t1 _, .Name t2 _] _ _] [] _ => decide (b = .istl) && nmOk C nm "isinstance" && nmOk C t1 "tuple" && nmOk C t2 "list" && noStar x && chkE G C a x
  | .bi b [a, z], .Call (.Name nm _) [x] [] _ => decide (b = .set) && decide (isNone z) && nmOk C nm "sorted" && (match x with | .Call (.Name nm2 _) [y] [] _ => nmOk C nm2 "set" && noStar y && chkE G C a y | _ => false)
  | .bi b [a1, a2], .Call (.Name nm _) [x, y] [] _ => ((decide (b = .max) && nmOk C nm "max") || (decide (b = .min) && nmOk C nm "min")) && noStar x && noStar y && chkE G C a1 x && chkE G C a2 y
  | .mt m o [a], .Call (.Attribute x nm ap) [y] [] cp => (match m with | .index => decide (nm = "index") | .count => decide (nm = "count") | .get => decide (nm = "get") | _ => false) && noStar y && plainBase x && (ap.endLine == cp.line) && chkE G C o x && chkE G C a y
  | .mt m o [a, b], .Call (.Attribute x nm ap) [y, z] [] cp => (match m with | .get => decide (nm = "get") | _ => false) && noStar y && noStar z && plainBase x && (ap.endLine == cp.line) && chkE G C o x && chkE G C a y && chkE G C b z
  | .call k as, .Call (.Name nm _) xs [] _ => fnOk C k nm as.length && isPr G[k]? && as.all (fun e => !isStar e) && xs.all noStar && chkTs G C as xs
  | .callW k y as, .Call (.Name nm _) (.Name ynm _ :: xs) [] _ => fnOk C k nm (as.length + 1) && isWr G[k]? && varOk C y ynm && as.all (fun e => !isStar e) && xs.all noStar && chkTs G C as xs
  | .popI y a, .Call (.Attribute (.Name ynm _) nm ap) [x] [] cp => decide (nm = "pop") && varOk C y ynm && noStar x && (ap.endLine == cp.line) && chkE G C a x
  | .rgl t as, .Call (.Name nm _) [.Call (.Name r _) xs [] _] [] _ => nmOk C nm (if t then "tuple" else "list") && nmOk C r "range" && chkRg G C as xs
  | .lc own vs elt p it cs, .ListComp xelt [⟨tg, xi, ifs, 0⟩] scope _ => chkP (C.blk scope) p tg && (match it with
    | .rng as => (match xi with
      | .Call (.Name nm _) xs [] _ => nmOk C nm "range" && chkRg G C as xs
      | _ => false)
    | .enm a => (match xi with
      | .Call (.Name nm _) [x] [] _ => nmOk C nm "enumerate" && isTupX tg && noStar x && chkE G C a x
      | _ => false)
    | .rvd a => (match xi with
      | .Call (.Name nm _) [x] [] _ => nmOk C nm "reversed" && noStar x && chkE G C a x
      | _ => false)
    | .zip a b => (match xi with
      | .Call (.Name nm _) [x, y] [] _ => nmOk C nm "zip" && isTupX tg && noStar x && noStar y && chkE G C a x && chkE G C b y
      | _ => false)
    | it => chkE G C it xi) && noSet xi && blkC C.N C.sc scope (ownOf C vs) && chkE G (C.blk scope) elt xelt && chkCs G (C.blk scope) cs ifs && (!own || ifs.isEmpty)
  | .dct [], .Dict [] [] _ => true
  | _, _ => false
def chkTs (G : List Fn) (C : Ctx) : List E → List Expr → Bool
  | [], [] => true
  | .star a :: as, .Starred x _ :: xs => chkE G C a x && chkTs G C as xs
  | a :: as, x :: xs => !isStar a && noStar x && chkE G C a x && chkTs G C as xs
  | _, _ => false
def chkRg (G : List Fn) (C : Ctx) : List E → List Expr → Bool
  | [a], [x] => noStar x && chkE G C a x
  | [a, b], [x, y] => noStar x && noStar y && chkE G C a x && chkE G C b y
  | _, _ => false
def chkO (G : List Fn) (C : Ctx) : Option E → Option Expr → Bool
  | none, none => true
  | some a, some x => chkE G C a x
  | _, _ => false
def chkCs (G : List Fn) (C : Ctx) : List E → List Expr → Bool
  | [], [] => true
  | [a], [x] => (plainT x || chkB a x) && chkE G C a x
  | _, _ => false
end
def chkI (G : List Fn) (C : Ctx) (it : E) (xi tg : Expr) : Bool := (match it with
    | .rng as => (match xi with
      | .Call (.Name nm _) xs [] _ => nmOk C nm "range" && chkRg G C as xs
      | _ => false)
    | .enm a => (match xi with
      | .Call (.Name nm _) [x] [] _ => nmOk C nm "enumerate" && isTupX tg && noStar x && chkE G C a x
      | _ => false)
    | .rvd a => (match xi with
      | .Call (.Name nm _) [x] [] _ => nmOk C nm "reversed" && noStar x && chkE G C a x
      | _ => false)
    | .zip a b => (match xi with
      | .Call (.Name nm _) [x, y] [] _ => nmOk C nm "zip" && isTupX tg && noStar x && noStar y && chkE G C a x && chkE G C b y
      | _ => false)
    | it => chkE G C it xi)
/-- an expression that is stored or handed back -/
def chkX (G : List Fn) (C : Ctx) : E → Expr → Bool
  | .lc2 vs vs1 elt p it p1 it1 cs1, .ListComp xelt [⟨tg, xi, [], 0⟩, ⟨tg1, xi1, ifs1, 0⟩] scope _ => chkP (C.blk scope) p tg && chkI G C it xi tg && noSet xi && subs vs1 vs && noSet xi1 && blkC C.N C.sc scope (ownOf C vs) && chkP (C.blk scope) p1 tg1 && chkI G (C.blk scope) it1 xi1 tg1 && chkE G (C.blk scope) elt xelt && chkCs G (C.blk scope) cs1 ifs1
  | e, x => chkE G C e x
end TR

set_option Elab.async false
set_option linter.all false
set_option maxHeartbeats 8000000
set_option maxRecDepth 10000
/-! expressions: the text computes what the small language says -/
namespace TR
open PySem PySem.Spec PyProof.Rows L2 StX

def AllE (G : List Fn) (n : Nat) : Prop := ∀ (p : E) (C : Ctx) (X : Cx) (x : Expr), sizeOf p < n → XOk G C X → chkE G C p x = true → PE X x (Rx (wd X) (muE p) (ev G p))
def AllT (G : List Fn) (n : Nat) : Prop := ∀ (p : E) (C : Ctx) (X : Cx) (x : Expr), sizeOf p < n → XOk G C X → chkE G C p x = true → (plainT x || chkB p x) = true → PT X x (Bx (wd X) (muE p) (bRun G p))
section
variable {G : List Fn} {C : Ctx} {X : Cx} {n : Nat}
theorem chk_noStar {p : E} {x : Expr} (h : chkE G C p x = true) : noStar x = true := by
  cases x <;> first | rfl | (unfold chkE at h; split at h <;> first | (rename_i he; cases he; done) | cases h)
theorem nmOk_at {nm y : Str} (h : nmOk C nm y = true) : nm = y ∧ glB C.sc nm = true := by
  unfold nmOk at h
  simp only [Bool.and_eq_true, decide_eq_true_eq] at h
  exact h
theorem varOk_at {i : Nat} {y : Str} (h : varOk C i y = true) : C.N[i]? = some y ∧ visB C.sc y = true ∧ noDbg y = true := by
  unfold varOk at h
  simp only [Bool.and_eq_true, decide_eq_true_eq] at h
  exact ⟨h.1.1, h.1.2, h.2⟩
theorem fnOk_at {k n : Nat} {y : Str} (h : fnOk C k y n = true) : C.fn[k]? = some (y, n) ∧ glB C.sc y = true ∧ noDbg y = true := by
  unfold fnOk at h
  simp only [Bool.and_eq_true, decide_eq_true_eq] at h
  exact ⟨h.1.1, h.1.2, h.2⟩
theorem isPr_at {k : Nat} (h : isPr G[k]? = true) : ∃ f, G[k]? = some (.pr f) := by
  unfold isPr at h
  split at h
  · exact ⟨_, by assumption⟩
  · cases h
theorem isWr_at {k : Nat} (h : isWr G[k]? = true) : ∃ f, G[k]? = some (.wr f) := by
  unfold isWr at h
  split at h
  · exact ⟨_, by assumption⟩
  · cases h
theorem ts_of (ok : XOk G C X) (ih : AllE G n) : ∀ {as : List E} {xs : List Expr}, sizeOf as < n → chkTs G C as xs = true → PA X xs (Lx (wd X) (muTs as) (evTs G as))
  | [], xs, _, h => by
    cases xs with
    | nil => exact l_nil
    | cons x xs => simp [chkTs] at h
  | a :: as, xs, hn, h => by
    simp only [List.cons.sizeOf_spec] at hn
    cases xs with
    | nil => cases a <;> simp [chkTs] at h
    | cons x xs =>
      unfold chkTs at h
      split at h
      · rename_i he1 he2; cases he1
      · rename_i b bs y p ys he1 he2
        cases he1; cases he2
        simp only [Bool.and_eq_true] at h
        simp only [E.star.sizeOf_spec] at hn
        exact l_star (ih _ C X _ (by omega) ok h.1) (ts_of ok ih (by omega) h.2)
      · rename_i b bs y ys _ he1 he2
        cases he1; cases he2
        simp only [Bool.and_eq_true, Bool.not_eq_true'] at h
        exact l_cons h.1.1.1 (ih _ C X _ (by omega) ok h.1.2) (ts_of ok ih (by omega) h.2) h.1.1.2
      · cases h
theorem rg_of (ok : XOk G C X) (ih : AllE G n) {as : List E} {xs : List Expr} {r : Str} {p pos : Pos} (hn : sizeOf as < n) (hr : nmOk C r "range" = true) (h : chkRg G C as xs = true) : PRg X (.Call (.Name r p) xs [] pos) (Gx (wd X) (muEs as) (gRun G as)) := by
  obtain ⟨rfl, hg⟩ := nmOk_at hr
  unfold chkRg at h
  split at h
  · simp only [Bool.and_eq_true] at h
    simp at hn
    exact g_1 ok hg (ih _ C X _ (by omega) ok h.2) h.1
  · simp only [Bool.and_eq_true] at h
    simp at hn
    exact g_2 ok hg (ih _ C X _ (by omega) ok h.1.2) (ih _ C X _ (by omega) ok h.2) h.1.1.1 h.1.1.2
  · cases h
theorem o_of (ok : XOk G C X) (ih : AllE G n) {lo : Option E} {l : Option Expr} (hn : sizeOf lo < n) (h : chkO G C lo l = true) : PO X l (OPost (wd X) (muO lo) (evO G lo)) := by
  unfold chkO at h
  split at h
  · exact o_none
  · simp at hn
    exact o_some (ih _ C X _ (by omega) ok h)
  · cases h
theorem cs_of (ok : XOk G C X) (it : AllT G n) {cs : List E} {ifs : List Expr} (hn : sizeOf cs < n) (h : chkCs G C cs ifs = true) : PTs X ifs (Bx (wd X) (muEs cs) (evCs G cs)) := by
  unfold chkCs at h
  split at h
  · exact c_nil
  · simp only [Bool.and_eq_true] at h
    simp at hn
    exact c_one (it _ C X _ (by omega) ok h.2 h.1)
  · cases h
theorem iRun_seq {p : E} : seqOnly G p = iRun G p := rfl
theorem i_of (ok : XOk G C X) (ih : AllE G n) {p : E} {x tg : Expr} (hn : sizeOf p < n) (h : chkI G C p x tg = true) : PI X tg x (Ix (wd X) (muE p) (iRun G p)) := by
  unfold chkI at h
  split at h
  · split at h
    · rename_i as _ nm pos1 xs pos2
      simp only [Bool.and_eq_true] at h
      obtain ⟨rfl, hg⟩ := nmOk_at h.1
      have h2 := h.2
      unfold chkRg at h2
      split at h2
      · simp only [Bool.and_eq_true] at h2
        simp at hn
        exact w_rng1 ok hg (ih _ C X _ (by omega) ok h2.2) h2.1
      · simp only [Bool.and_eq_true] at h2
        simp at hn
        exact w_rng2 ok hg (ih _ C X _ (by omega) ok h2.1.2) (ih _ C X _ (by omega) ok h2.2) h2.1.1.1 h2.1.1.2
      · cases h2
    · cases h
  · split at h
    · simp only [Bool.and_eq_true] at h
      obtain ⟨⟨⟨h1, h2⟩, h3⟩, h4⟩ := h
      obtain ⟨rfl, hg⟩ := nmOk_at h1
      cases tg <;> try (cases h2)
      simp at hn
      exact w_enm ok hg (ih _ C X _ (by omega) ok h4) h3
    · cases h
  · split at h
    · simp only [Bool.and_eq_true] at h
      obtain ⟨⟨h1, h3⟩, h4⟩ := h
      obtain ⟨rfl, hg⟩ := nmOk_at h1
      simp at hn
      exact w_rvd ok hg (ih _ C X _ (by omega) ok h4) h3
    · cases h
  · split at h
    · simp only [Bool.and_eq_true] at h
      obtain ⟨⟨⟨⟨⟨h1, h2⟩, h3⟩, h4⟩, h5⟩, h6⟩ := h
      obtain ⟨rfl, hg⟩ := nmOk_at h1
      cases tg <;> try (cases h2)
      simp at hn
      exact w_zip ok hg (ih _ C X _ (by omega) ok h5) (ih _ C X _ (by omega) ok h6) h3 h4
    · cases h
  · exact w_seq (ih _ C X _ hn ok h)
theorem bn {x : Str} (h : decide (x ∈ bnames) = true) : x ∈ bnames := of_decide_eq_true h
theorem bi1_of (ok : XOk G C X) {b : Bi} {a : E} {xa : Expr} {nm y : Str} {p pos : Pos} (hb : bi1N b = some y) (hnm : nmOk C nm y = true) (hn : noStar xa = true) (ha : PE X xa (Rx (wd X) (muE a) (ev G a))) : PE X (.Call (.Name nm p) [xa] [] pos) (Rx (wd X) (muE (.bi b [a])) (ev G (.bi b [a]))) := by
  obtain ⟨rfl, hg⟩ := nmOk_at hnm
  cases b <;> simp only [bi1N] at hb <;> cases hb
  · exact k_b1B cr_len ok hg (bn (by decide)) boot_len (by decide) ha hn
  · exact k_b1B cr_absM ok hg (bn (by decide)) PyProof.Rows.boot_abs (by decide) ha hn
  · exact k_b1B (cr_bestMax ok.calm ok.hd ok.hu) ok hg (bn (by decide)) PyProof.Rows.boot_max (by decide) ha hn
  · exact k_b1B (cr_bestMin ok.calm ok.hd ok.hu) ok hg (bn (by decide)) PyProof.Rows.boot_min (by decide) ha hn
  · exact k_b1B (cr_sumM ok.calm) ok hg (bn (by decide)) PyProof.Rows.boot_sum (by decide) ha hn
  · exact k_b1B (cr_anyM ok.calm) ok hg (bn (by decide)) PyProof.Rows.boot_any (by decide) ha hn
  · exact k_b1B (cr_allM ok.calm) ok hg (bn (by decide)) PyProof.Rows.boot_all (by decide) ha hn
  · exact k_b1B (cr_sortM ok.hu) ok hg (bn (by decide)) PyProof.Rows.boot_sorted (by decide) ha hn
  · exact k_b1T (cr_listM ok.calm) ok hg (bn (by decide)) PyProof.Rows.boot_list (by decide) ha hn
  · exact k_b1T cr_tupM ok hg (bn (by decide)) PyProof.Rows.boot_tuple (by decide) ha hn
  · exact k_b1T cr_intM ok hg (bn (by decide)) PyProof.Rows.boot_int (by decide) ha hn
  · exact k_b1T cr_boolM ok hg (bn (by decide)) PyProof.Rows.boot_bool (by decide) ha hn
  · exact k_b1T cr_strM ok hg (bn (by decide)) PyProof.Rows.boot_str (by decide) ha hn
theorem isi_of (ok : XOk G C X) {b : Bi} {a : E} {xa : Expr} {nm t y : Str} {p p2 pos : Pos} (hb : isiN b = some y) (ht : nmOk C t y = true) (hnm : nmOk C nm "isinstance" = true) (hn : noStar xa = true) (ha : PE X xa (Rx (wd X) (muE a) (ev G a))) :
    PE X (.Call (.Name nm p) [xa, .Name t p2] [] pos) (Rx (wd X) (muE (.bi b [a])) (ev G (.bi b [a]))) := by
  obtain ⟨rfl, hg⟩ := nmOk_at hnm
  obtain ⟨rfl, hg2⟩ := nmOk_at ht
  cases b <;> simp only [isiN] at hb <;> cases hb
  · exact k_isi .isint (t := .int) (fun m => rfl) (by decide) (fun u => by cases u <;> decide) ok hg hg2 (bn (by decide)) PyProof.Rows.boot_int (by decide) ha hn
  · exact k_isi .isbool (t := .bool) (fun m => rfl) (by decide) (fun u => by cases u <;> decide) ok hg hg2 (bn (by decide)) PyProof.Rows.boot_bool (by decide) ha hn
  · exact k_isi .istup (t := .tuple) (fun m => rfl) (by decide) (fun u => by cases u <;> decide) ok hg hg2 (bn (by decide)) PyProof.Rows.boot_tuple (by decide) ha hn
  · exact k_isi .islist (t := .list) (fun m => rfl) (by decide) (fun u => by cases u <;> decide) ok hg hg2 (bn (by decide)) PyProof.Rows.boot_list (by decide) ha hn
  · exact k_isi .isstr (t := .str) (fun m => rfl) (by decide) (fun u => by cases u <;> decide) ok hg hg2 (bn (by decide)) PyProof.Rows.boot_str (by decide) ha hn
end
end TR

set_option Elab.async false
set_option linter.all false
set_option maxHeartbeats 8000000
set_option maxRecDepth 10000
namespace TR
open PySem PySem.Spec PyProof.Rows L2 StX
section
variable {G : List Fn} {C : Ctx} {X : Cx} {n : Nat}
theorem and_rest {G : List Fn} {C : Ctx} {X : Cx} {n : Nat} (ok : XOk G C X) (ih : AllE G n) {b : E} {y : Expr} {rest : List Expr} {pos : Pos} (hn : sizeOf b < n)
    (h : (match rest with | [] => chkE G C b y | _ => chkE G C b (.BoolOp .And (y :: rest) pos)) = true) : PE X (.BoolOp .And (y :: rest) pos) (Rx (wd X) (muE b) (ev G b)) := by
  cases rest with
  | nil => exact pe_one (ih b C X y hn ok h)
  | cons z zs => exact ih b C X _ hn ok h
theorem or_rest {G : List Fn} {C : Ctx} {X : Cx} {n : Nat} (ok : XOk G C X) (ih : AllE G n) {b : E} {y : Expr} {rest : List Expr} {pos : Pos} (hn : sizeOf b < n)
    (h : (match rest with | [] => chkE G C b y | _ => chkE G C b (.BoolOp .Or (y :: rest) pos)) = true) : PE X (.BoolOp .Or (y :: rest) pos) (Rx (wd X) (muE b) (ev G b)) := by
  cases rest with
  | nil => exact pe_one (ih b C X y hn ok h)
  | cons z zs => exact ih b C X _ hn ok h
/-- a comprehension: as a value; stored in a local -/
theorem lc_of (ok : XOk G C X) (ih : AllE G n) (it : AllT G n) {own : Bool} {vs : List Nat} {elt it' : E} {p : P} {cs : List E} {xelt tg xi : Expr} {ifs : List Expr} {scope : Scope} {pos : Pos} (hn : sizeOf elt < n ∧ sizeOf it' < n ∧ sizeOf cs < n)
    (h : (chkP (C.blk scope) p tg && chkI G C it' xi tg && noSet xi && blkC C.N C.sc scope (ownOf C vs) && chkE G (C.blk scope) elt xelt && chkCs G (C.blk scope) cs ifs && (!own || ifs.isEmpty)) = true) :
    PE X (.ListComp xelt [⟨tg, xi, ifs, 0⟩] scope pos) (Rx (wd X) (muE (.lc own vs elt p it' cs)) (ev G (.lc own vs elt p it' cs))) ∧
    ∀ (i : Nat) (y : Str) (py spos : Pos), C.N[i]? = some y → C.sc.names.lookup y = some .local → swapsWith (.ListComp xelt [⟨tg, xi, ifs, 0⟩] scope pos) (some (.Name y py)) spos.line X.env = pure true →
      PS X (.Assign [.Name y py] (.ListComp xelt [⟨tg, xi, ifs, 0⟩] scope pos) spos) (tAsg (Rx (wd X) (muE (.lc own vs elt p it' cs)) (ev G (.lc own vs elt p it' cs))) (gName i)) := by
  simp only [Bool.and_eq_true, Bool.or_eq_true, Bool.not_eq_true'] at h
  obtain ⟨⟨⟨⟨⟨⟨h1, h2⟩, h3⟩, h4⟩, h5⟩, h6⟩, h7⟩ := h
  have hI := i_of (tg := tg) ok ih hn.2.1 h2
  cases own with
  | false =>
    refine k_lc ok hI (fun i e => ?_) h4 h3 (fun Y hw okY => g_of okY p tg h1) (fun Y hw okY => cs_of okY it hn.2.2 h6) (fun Y hw okY => k_take (ih _ _ Y _ hn.1 okY h5))
    subst e
    exact w_nl (ih _ C X _ hn.2.1 ok (by unfold chkI at h2; exact h2))
  | true =>
    have e : ifs = [] := by simpa using h7
    subst e
    have e2 : cs = [] := by
      cases cs with
      | nil => rfl
      | cons c cs => unfold chkCs at h6; split at h6 <;> first | (rename_i z1 z2; cases z1; done) | (rename_i z1 z2; cases z2; done) | cases h6
    subst e2
    exact k_lcO ok hI h4 h3 (fun Y hw okY => g_of okY p tg h1) (fun Y hw okY => ih _ _ Y _ hn.1 okY h5)
/-- a comprehension of two clauses: as a value; stored in a local -/
theorem lc2_of (ok : XOk G C X) (ih : AllE G n) (it : AllT G n) {vs vs1 : List Nat} {elt it' it1 : E} {p p1 : P} {cs1 : List E} {xelt tg xi tg1 xi1 : Expr} {ifs1 : List Expr} {scope : Scope} {pos : Pos} (hn : sizeOf elt < n ∧ sizeOf it' < n ∧ sizeOf it1 < n ∧ sizeOf cs1 < n)
    (h : (chkP (C.blk scope) p tg && chkI G C it' xi tg && noSet xi && subs vs1 vs && noSet xi1 && blkC C.N C.sc scope (ownOf C vs) && chkP (C.blk scope) p1 tg1 && chkI G (C.blk scope) it1 xi1 tg1 && chkE G (C.blk scope) elt xelt && chkCs G (C.blk scope) cs1 ifs1) = true) :
    PE X (.ListComp xelt [⟨tg, xi, [], 0⟩, ⟨tg1, xi1, ifs1, 0⟩] scope pos) (Rx (wd X) (muE (.lc2 vs vs1 elt p it' p1 it1 cs1)) (ev G (.lc2 vs vs1 elt p it' p1 it1 cs1))) ∧
    ∀ (i : Nat) (y : Str) (py spos : Pos), C.N[i]? = some y → C.sc.names.lookup y = some .local → swapsWith (.ListComp xelt [⟨tg, xi, [], 0⟩, ⟨tg1, xi1, ifs1, 0⟩] scope pos) (some (.Name y py)) spos.line X.env = pure true →
      PS X (.Assign [.Name y py] (.ListComp xelt [⟨tg, xi, [], 0⟩, ⟨tg1, xi1, ifs1, 0⟩] scope pos) spos) (tAsg (Rx (wd X) (muE (.lc2 vs vs1 elt p it' p1 it1 cs1)) (ev G (.lc2 vs vs1 elt p it' p1 it1 cs1))) (gName i)) := by
  simp only [Bool.and_eq_true] at h
  obtain ⟨⟨⟨⟨⟨⟨⟨⟨⟨h1, h2⟩, h3⟩, h4⟩, h5⟩, h6⟩, h7⟩, h8⟩, h9⟩, h10⟩ := h
  exact k_lc2 ok (i_of ok ih hn.2.1 h2) h6 h4 h3 h5 (fun Y hw okY => g_of okY p tg h1) (fun Y hw okY => i_of okY ih hn.2.2.1 h8) (fun Y hw okY => g_of okY p1 tg1 h7) (fun Y hw okY => cs_of okY it hn.2.2.2 h10) (fun Y hw okY => k_take (ih _ _ Y _ hn.1 okY h9))
theorem stepE (ih : AllE G n) (it : AllT G n) : AllE G (n + 1) := by
  intro p C X x hn ok h
  unfold chkE at h
  split at h
  · exact k_cst h
  · obtain ⟨h1, h2, h3⟩ := varOk_at h
    exact k_var ok h1 h2 h3
  · rename_i k d y pos
    simp only [Bool.and_eq_true] at h
    obtain ⟨⟨h1, h2⟩, h3⟩ := h
    cases hc : C.con[k]? with
    | none => rw [hc] at h1; cases h1
    | some ye =>
      obtain ⟨z, e⟩ := ye
      rw [hc] at h1
      simp only [Bool.and_eq_true, decide_eq_true_eq] at h1
      obtain ⟨rfl, h4⟩ := h1
      have := sameD_eq h4; subst this
      exact k_glb ok hc h2 h3
  · simp only [Bool.and_eq_true, decide_eq_true_eq] at h
    simp at hn
    obtain ⟨⟨rfl, h1⟩, h2⟩ := h
    exact k_bin _ (ih _ C X _ (by omega) ok h1) (ih _ C X _ (by omega) ok h2)
  · simp only [Bool.and_eq_true, decide_eq_true_eq] at h
    simp at hn
    obtain ⟨⟨⟨rfl, h0⟩, h1⟩, h2⟩ := h
    exact k_cmp ok _ (ih _ C X _ (by omega) ok h1) (ih _ C X _ (by omega) ok h2) h0
  · simp only [Bool.and_eq_true, decide_eq_true_eq] at h
    simp at hn
    obtain ⟨⟨⟨⟨⟨rfl, rfl⟩, h0⟩, h1⟩, h2⟩, h3⟩ := h
    exact k_chn ok _ _ (ih _ C X _ (by omega) ok h1) (ih _ C X _ (by omega) ok h2) (ih _ C X _ (by omega) ok h3) h0
  · rename_i m a y op _ _ _
    simp only [Bool.and_eq_true, decide_eq_true_eq] at h
    simp at hn
    obtain ⟨h0, h1⟩ := h
    cases m
    · simp only [Bool.false_eq_true, if_false] at h0
      subst h0
      exact k_isN (ih _ C X _ (by omega) ok h1)
    · simp only [if_true] at h0
      subst h0
      exact k_notN (ih _ C X _ (by omega) ok h1)
  · rename_i m a b y op c _ _ _
    simp only [Bool.and_eq_true, decide_eq_true_eq] at h
    simp at hn
    obtain ⟨⟨h2, h0⟩, h1⟩ := h
    have := eq_of_beq h2; subst this
    cases m
    · simp only [Bool.false_eq_true, if_false] at h0
      subst h0
      exact k_isB (ih _ C X _ (by omega) ok h1)
    · simp only [if_true] at h0
      subst h0
      exact k_notB (ih _ C X _ (by omega) ok h1)
  · simp at hn
    exact k_neg (ih _ C X _ (by omega) ok h)
  · simp at hn
    exact k_not (ih _ C X _ (by omega) ok h)
  · simp only [Bool.and_eq_true] at h
    simp at hn
    exact k_and (ih _ C X _ (by omega) ok h.1) (and_rest ok ih (by omega) h.2)
  · simp only [Bool.and_eq_true] at h
    simp at hn
    exact k_or (ih _ C X _ (by omega) ok h.1) (or_rest ok ih (by omega) h.2)
  · simp only [Bool.and_eq_true] at h
    simp at hn
    exact k_ite (it _ C X _ (by omega) ok h.1.1.2 (by simpa using h.1.1.1)) (ih _ C X _ (by omega) ok h.1.2) (ih _ C X _ (by omega) ok h.2)
  · simp at hn
    exact k_tup (ts_of ok ih (by omega) h)
  · simp at hn
    exact k_lst (ts_of ok ih (by omega) h)
  · simp only [Bool.and_eq_true] at h
    simp at hn
    exact k_sub ok (ih _ C X _ (by omega) ok h.1.2) (ih _ C X _ (by omega) ok h.2) h.1.1
  · simp only [Bool.and_eq_true] at h
    simp at hn
    exact k_slc (ih _ C X _ (by omega) ok h.1.1) (o_of ok ih (by omega) h.1.2) (o_of ok ih (by omega) h.2)
  · simp at hn
    exact k_rev (ih _ C X _ (by omega) ok h)
  · rename_i b a nm pos1 y pos2
    simp only [Bool.and_eq_true] at h
    simp at hn
    obtain ⟨⟨h1, h2⟩, h3⟩ := h
    cases hb : bi1N b with
    | none => rw [hb] at h1; cases h1
    | some z =>
      rw [hb] at h1
      exact bi1_of ok hb h1 h2 (ih _ C X _ (by omega) ok h3)
  · rename_i b a nm pos1 y t pos3 pos2
    simp only [Bool.and_eq_true] at h
    simp at hn
    obtain ⟨⟨⟨h1, h4⟩, h2⟩, h3⟩ := h
    cases hb : isiN b with
    | none => rw [hb] at h1; cases h1
    | some z =>
      rw [hb] at h1
      exact isi_of ok hb h1 h4 h2 (ih _ C X _ (by omega) ok h3)
  · simp only [Bool.and_eq_true, decide_eq_true_eq] at h
    simp at hn
    obtain ⟨⟨⟨⟨⟨rfl, h1⟩, h2⟩, h3⟩, h4⟩, h5⟩ := h
    obtain ⟨rfl, h1⟩ := nmOk_at h1
    obtain ⟨rfl, h2⟩ := nmOk_at h2
    obtain ⟨rfl, h3⟩ := nmOk_at h3
    exact k_istl ok h1 h2 h3 (ih _ C X _ (by omega) ok h5) h4
  · simp only [Bool.and_eq_true, decide_eq_true_eq] at h
    obtain ⟨⟨⟨rfl, h1⟩, h2⟩, h3⟩ := h
    split at h3
    · simp only [Bool.and_eq_true] at h3
      simp at hn
      obtain ⟨⟨h4, h5⟩, h6⟩ := h3
      obtain ⟨rfl, h2⟩ := nmOk_at h2
      obtain ⟨rfl, h4⟩ := nmOk_at h4
      obtain rfl := isNone_at h1
      exact w_sortSet ok h2 h4 (ih _ C X _ (by omega) ok h6) h5
    · cases h3
  · simp only [Bool.and_eq_true, Bool.or_eq_true, decide_eq_true_eq] at h
    simp at hn
    obtain ⟨⟨⟨⟨h1, h2⟩, h3⟩, h4⟩, h5⟩ := h
    rcases h1 with ⟨rfl, h1⟩ | ⟨rfl, h1⟩
    · obtain ⟨rfl, h1⟩ := nmOk_at h1
      exact k_b2B (cr_max2M ok.calm) ok h1 (bn (by decide)) PyProof.Rows.boot_max (by decide) (ih _ C X _ (by omega) ok h4) (ih _ C X _ (by omega) ok h5) h2 h3
    · obtain ⟨rfl, h1⟩ := nmOk_at h1
      exact k_b2B (cr_min2M ok.calm) ok h1 (bn (by decide)) PyProof.Rows.boot_min (by decide) (ih _ C X _ (by omega) ok h4) (ih _ C X _ (by omega) ok h5) h2 h3
  · rename_i m o a y nm ap z cp
    simp only [Bool.and_eq_true] at h
    simp at hn
    obtain ⟨⟨⟨⟨⟨h1, h2⟩, h3⟩, h4⟩, h5⟩, h6⟩ := h
    have e1 := ih _ C X _ (by omega) ok h5
    have e2 := ih _ C X _ (by omega) ok h6
    cases m <;> first | (cases h1; done) | skip
    · cases of_decide_eq_true h1
      exact k_index ok e1 e2 h2 h3 h4
    · cases of_decide_eq_true h1
      exact k_count ok e1 e2 h2 h3 h4
    · cases of_decide_eq_true h1
      exact k_get1 ok e1 e2 h2 h3 h4
  · rename_i m o a b y nm ap z w cp
    simp only [Bool.and_eq_true] at h
    simp at hn
    obtain ⟨⟨⟨⟨⟨⟨⟨h1, h2⟩, h2'⟩, h3⟩, h4⟩, h5⟩, h6⟩, h7⟩ := h
    have e1 := ih _ C X _ (by omega) ok h5
    have e2 := ih _ C X _ (by omega) ok h6
    have e3 := ih _ C X _ (by omega) ok h7
    cases m <;> first | (cases h1; done) | skip
    cases of_decide_eq_true h1
    exact k_get2 ok e1 e2 e3 h2 h2' h3 h4
  · rename_i k as nm pos1 xs pos2
    simp only [Bool.and_eq_true] at h
    simp at hn
    obtain ⟨⟨⟨⟨h1, h2⟩, h3⟩, h4⟩, h5⟩ := h
    obtain ⟨f1, f2, f3⟩ := fnOk_at h1
    obtain ⟨f, hf⟩ := isPr_at h2
    cases as with
    | nil =>
      cases xs with
      | nil => exact k_call0 ok f1 hf f2 f3
      | cons x xs => simp [chkTs] at h5
    | cons a as =>
      cases xs with
      | nil => cases a <;> simp [chkTs] at h5
      | cons x xs => exact k_call ok f1 hf f2 f3 h3 rfl (ts_of ok ih (by omega) h5) h4
  · simp only [Bool.and_eq_true] at h
    simp at hn
    obtain ⟨⟨⟨⟨⟨h1, h2⟩, h3⟩, h4⟩, h5⟩, h6⟩ := h
    obtain ⟨f1, f2, f3⟩ := fnOk_at h1
    obtain ⟨f, hf⟩ := isWr_at h2
    obtain ⟨v1, v2, v3⟩ := varOk_at h3
    exact k_callW ok f1 hf f2 f3 h4 rfl v1 v2 v3 (ts_of ok ih (by omega) h6) h5
  · simp only [Bool.and_eq_true, decide_eq_true_eq] at h
    simp at hn
    obtain ⟨⟨⟨⟨rfl, h1⟩, h2⟩, h3⟩, h4⟩ := h
    obtain ⟨v1, v2, v3⟩ := varOk_at h1
    exact k_popI ok v1 v2 v3 (ih _ C X _ (by omega) ok h4) h2 h3
  · simp only [Bool.and_eq_true] at h
    simp at hn
    obtain ⟨⟨h1, h2⟩, h3⟩ := h
    obtain ⟨h4, h5⟩ := nmOk_at h1
    exact k_rgl ok h5 (by rw [h4]; split <;> rfl) (rg_of ok ih (by omega) h2 h3) rfl
  · rename_i own vs elt p it' cs xelt tg xi ifs scope pos
    simp at hn
    exact (lc_of ok ih it ⟨by omega, by omega, by omega⟩ (by unfold chkI; exact h)).1
  · exact k_dct0
  · cases h
theorem pw_rest_and (ok : XOk G C X) (it : AllT G n) (iw : ∀ (p : E) (C : Ctx) (X : Cx) (x : Expr), sizeOf p < n → XOk G C X → chkE G C p x = true → chkB p x = true → ∀ vs pos, x = .BoolOp .And vs pos → PW X x (Bx (wd X) (muE p) (bRun G p)))
    {b : E} {y : Expr} {rest : List Expr} {pos : Pos} (hn : sizeOf b < n) (h : (match rest with | [] => chkE G C b y | _ => chkE G C b (.BoolOp .And (y :: rest) pos)) = true) (hb : (match (generalizing := false) rest with | [] => plainT y || chkB b y | _ => chkB b (.BoolOp .And (y :: rest) pos)) = true) :
    PW X (.BoolOp .And (y :: rest) pos) (Bx (wd X) (muE b) (bRun G b)) := by
  cases rest with
  | nil => exact pw_and1 (it b C X y hn ok h hb)
  | cons z zs => exact iw b C X _ hn ok h hb _ _ rfl
theorem pw_rest_or (ok : XOk G C X) (it : AllT G n) (iw : ∀ (p : E) (C : Ctx) (X : Cx) (x : Expr), sizeOf p < n → XOk G C X → chkE G C p x = true → chkB p x = true → ∀ vs pos, x = .BoolOp .Or vs pos → PW X x (Bx (wd X) (muE p) (bRun G p)))
    {b : E} {y : Expr} {rest : List Expr} {pos : Pos} (hn : sizeOf b < n) (h : (match rest with | [] => chkE G C b y | _ => chkE G C b (.BoolOp .Or (y :: rest) pos)) = true) (hb : (match (generalizing := false) rest with | [] => plainT y || chkB b y | _ => chkB b (.BoolOp .Or (y :: rest) pos)) = true) :
    PW X (.BoolOp .Or (y :: rest) pos) (Bx (wd X) (muE b) (bRun G b)) := by
  cases rest with
  | nil => exact pw_or1 (it b C X y hn ok h hb)
  | cons z zs => exact iw b C X _ hn ok h hb _ _ rfl
/-- tests that are and, or -/
def AllW (G : List Fn) (n : Nat) : Prop := ∀ (p : E) (C : Ctx) (X : Cx) (x : Expr), sizeOf p < n → XOk G C X → chkE G C p x = true → chkB p x = true → ∀ op vs pos, x = .BoolOp op vs pos → PW X x (Bx (wd X) (muE p) (bRun G p))
theorem stepW (it : AllT G n) (iw : AllW G n) : AllW G (n + 1) := by
  intro p C X x hn ok h hb op vs pos ex
  subst ex
  unfold chkE at h
  split at h <;> first | (rename_i he; cases he; done) | skip
  all_goals first | (rename_i he1 he2; cases he2; done) | skip
  all_goals first | (cases h; done) | skip
  · rename_i a b y z rest pos' he2
    cases he2
    unfold chkB at hb
    simp only [Bool.and_eq_true] at h hb
    simp at hn
    exact t_and (it a C X y (by omega) ok h.1 hb.1) (pw_rest_and ok it (fun p C X x h1 h2 h3 h4 vs pos e => iw p C X x h1 h2 h3 h4 _ vs pos e) (by omega) h.2 hb.2)
  · rename_i a b y z rest pos' he2
    cases he2
    unfold chkB at hb
    simp only [Bool.and_eq_true] at h hb
    simp at hn
    exact t_or (it a C X y (by omega) ok h.1 hb.1) (pw_rest_or ok it (fun p C X x h1 h2 h3 h4 vs pos e => iw p C X x h1 h2 h3 h4 _ vs pos e) (by omega) h.2 hb.2)
theorem chk_test {p : E} {x : Expr} (h : chkE G C p x = true) (hb : (plainT x || chkB p x) = true) (hp : plainT x = false) : chkB p x = true := by
  rw [hp] at hb
  simpa using hb
theorem stepT (ih : AllE G (n + 1)) (it : AllT G n) (iw : AllW G (n + 1)) : AllT G (n + 1) := by
  intro p C X x hn ok h hb
  have hE := ih p C X x hn ok h
  cases hp : plainT x with
  | true => exact t_val hE hp
  | false =>
    have hB := chk_test h hb hp
    cases x <;> first | (cases hp; done) | skip
    · exact (iw p C X _ hn ok h hB _ _ _ rfl).pt
    · rename_i op x1 pos
      unfold chkE at h
      split at h <;> first | (rename_i he; cases he; done) | skip
      all_goals first | (cases h; done) | skip
      · unfold chkB at hB
        cases hB
      · rename_i a y pos' he
        cases he
        unfold chkB at hB
        simp at hn
        exact t_not (it _ C X _ (by omega) ok h hB)
    · unfold chkE at h
      split at h <;> first | (rename_i he; cases he; done) | skip
      all_goals first | (cases h; done) | skip
      · unfold chkB at hB
        cases hB
    · unfold chkE at h
      split at h <;> first | (rename_i he; cases he; done) | skip
      all_goals first | (cases h; done) | skip
      · rename_i o a b y op z pos' he
        cases he
        simp only [Bool.and_eq_true, decide_eq_true_eq] at h
        simp at hn
        obtain ⟨⟨⟨rfl, h0⟩, h1⟩, h2⟩ := h
        exact t_cmp ok _ (ih _ C X _ (by omega) ok h1) (ih _ C X _ (by omega) ok h2) h0
      · rename_i he
        cases he
        simp only [Bool.and_eq_true, decide_eq_true_eq] at h
        simp at hn
        obtain ⟨⟨⟨⟨⟨rfl, rfl⟩, h0⟩, h1⟩, h2⟩, h3⟩ := h
        exact t_chn ok _ _ (ih _ C X _ (by omega) ok h1) (ih _ C X _ (by omega) ok h2) (ih _ C X _ (by omega) ok h3) h0
      · rename_i m a y op _ _ _ he
        cases he
        simp only [Bool.and_eq_true, decide_eq_true_eq] at h
        simp at hn
        obtain ⟨h0, h1⟩ := h
        cases m
        · simp only [Bool.false_eq_true, if_false] at h0
          subst h0
          exact t_isN (ih _ C X _ (by omega) ok h1)
        · simp only [if_true] at h0
          subst h0
          exact t_notN (ih _ C X _ (by omega) ok h1)
      · rename_i m a b y op c _ _ _ he
        cases he
        simp only [Bool.and_eq_true, decide_eq_true_eq] at h
        simp at hn
        obtain ⟨⟨h2, h0⟩, h1⟩ := h
        have := eq_of_beq h2; subst this
        cases m
        · simp only [Bool.false_eq_true, if_false] at h0
          subst h0
          exact t_isB (ih _ C X _ (by omega) ok h1)
        · simp only [if_true] at h0
          subst h0
          exact t_notB (ih _ C X _ (by omega) ok h1)
theorem all (G : List Fn) : ∀ n, AllE G n ∧ AllT G n ∧ AllW G n
  | 0 => ⟨fun p C X x hn => absurd hn (Nat.not_lt_zero _), fun p C X x hn => absurd hn (Nat.not_lt_zero _), fun p C X x hn => absurd hn (Nat.not_lt_zero _)⟩
  | n + 1 => by
    obtain ⟨h1, h2, h3⟩ := all G n
    have e := stepE h1 h2
    have w := stepW h2 h3
    exact ⟨e, stepT e h2 w, w⟩
theorem sLc (ok : XOk G C X) {own : Bool} {vs : List Nat} {elt it' : E} {p : P} {cs : List E} {xelt tg xi : Expr} {ifs : List Expr} {scope : Scope} {pos : Pos} (h : chkE G C (.lc own vs elt p it' cs) (.ListComp xelt [⟨tg, xi, ifs, 0⟩] scope pos) = true) :
    ∀ (i : Nat) (y : Str) (py spos : Pos), C.N[i]? = some y → C.sc.names.lookup y = some .local → swapsWith (.ListComp xelt [⟨tg, xi, ifs, 0⟩] scope pos) (some (.Name y py)) spos.line X.env = pure true →
      PS X (.Assign [.Name y py] (.ListComp xelt [⟨tg, xi, ifs, 0⟩] scope pos) spos) (tAsg (Rx (wd X) (muE (.lc own vs elt p it' cs)) (ev G (.lc own vs elt p it' cs))) (gName i)) := by
  obtain ⟨h1, h2, _⟩ := all G (sizeOf elt + sizeOf it' + sizeOf cs + 1)
  unfold chkE at h
  exact (lc_of ok h1 h2 ⟨by omega, by omega, by omega⟩ (by unfold chkI; exact h)).2
theorem sLc2 (ok : XOk G C X) {vs vs1 : List Nat} {elt it' it1 : E} {p p1 : P} {cs1 : List E} {xelt tg xi tg1 xi1 : Expr} {ifs1 : List Expr} {scope : Scope} {pos : Pos} (h : chkX G C (.lc2 vs vs1 elt p it' p1 it1 cs1) (.ListComp xelt [⟨tg, xi, [], 0⟩, ⟨tg1, xi1, ifs1, 0⟩] scope pos) = true) :
    PE X (.ListComp xelt [⟨tg, xi, [], 0⟩, ⟨tg1, xi1, ifs1, 0⟩] scope pos) (Rx (wd X) (muE (.lc2 vs vs1 elt p it' p1 it1 cs1)) (ev G (.lc2 vs vs1 elt p it' p1 it1 cs1))) ∧
    ∀ (i : Nat) (y : Str) (py spos : Pos), C.N[i]? = some y → C.sc.names.lookup y = some .local → swapsWith (.ListComp xelt [⟨tg, xi, [], 0⟩, ⟨tg1, xi1, ifs1, 0⟩] scope pos) (some (.Name y py)) spos.line X.env = pure true →
      PS X (.Assign [.Name y py] (.ListComp xelt [⟨tg, xi, [], 0⟩, ⟨tg1, xi1, ifs1, 0⟩] scope pos) spos) (tAsg (Rx (wd X) (muE (.lc2 vs vs1 elt p it' p1 it1 cs1)) (ev G (.lc2 vs vs1 elt p it' p1 it1 cs1))) (gName i)) := by
  obtain ⟨h1, h2, _⟩ := all G (sizeOf elt + sizeOf it' + sizeOf it1 + sizeOf cs1 + 1)
  exact lc2_of ok h1 h2 ⟨by omega, by omega, by omega, by omega⟩ h
/-- EXPRESSIONS -/
theorem sE (ok : XOk G C X) {p : E} {x : Expr} (h : chkE G C p x = true) : PE X x (Rx (wd X) (muE p) (ev G p)) := (all G (sizeOf p + 1)).1 p C X x (Nat.lt_succ_self _) ok h
theorem sT (ok : XOk G C X) {p : E} {x : Expr} (h : chkE G C p x = true) (hb : (plainT x || chkB p x) = true) : PT X x (Bx (wd X) (muE p) (bRun G p)) := (all G (sizeOf p + 1)).2.1 p C X x (Nat.lt_succ_self _) ok h hb
theorem sI (ok : XOk G C X) {p : E} {x tg : Expr} (h : chkI G C p x tg = true) : PI X tg x (Ix (wd X) (muE p) (iRun G p)) := i_of ok (all G (sizeOf p + 1)).1 (Nat.lt_succ_self _) h
theorem sTs (ok : XOk G C X) {as : List E} {xs : List Expr} (h : chkTs G C as xs = true) : PA X xs (Lx (wd X) (muTs as) (evTs G as)) := ts_of ok (all G (sizeOf as + 1)).1 (Nat.lt_succ_self _) h
end
end TR

set_option Elab.async false
set_option linter.all false
set_option maxHeartbeats 4000000
set_option maxRecDepth 10000
/-! statements -/
namespace TR
open PySem PySem.Spec PyProof.Rows L2 StX

def SPost (B : Wd) (asl mu : List Nat) (σ : L2.St) (Z : Zn) (H : Hp) (env : Env) (Os : List (List Addr)) (env' : Env) (σ' : L2.St) (H' : Hp) : Prop :=
  ∃ Z' Os', Sat B Z' σ' H' env' Os' ∧ Step mu Z H env Os Z' H' env' Os' ∧ ∀ i, i ∉ asl → σ'[i]? = σ[i]?
def RPost (B : Wd) (asl mu : List Nat) (σ : L2.St) (Z : Zn) (H : Hp) (env : Env) (Os : List (List Addr)) (m : M) (env' : Env) (v : V) (H' : Hp) : Prop :=
  ∃ Z' Os' O σ', Sat B Z' σ' H' env' Os' ∧ Step mu Z H env Os Z' H' env' Os' ∧ (∀ i, i ∉ asl → σ'[i]? = σ[i]?) ∧ RM B Z' H' v m O ∧ (O ++ Os'.flatten).Nodup ∧ ∀ a ∈ O, ¬ Z' a ∧ (H a = none ∨ a ∈ Os.flatten)
def SEnd (B : Wd) (asl mu : List Nat) (σ : L2.St) (Z : Zn) (H : Hp) (env : Env) (Os : List (List Addr)) (D : Ends) : Out → Prop
  | .nx e => ∀ σ' H', SPost B asl mu σ Z H env Os e σ' H' → D.nx σ' H'
  | .br e => ∀ σ' H', SPost B asl mu σ Z H env Os e σ' H' → D.bk σ' H'
  | .ret m e => ∀ v H', RPost B asl mu σ Z H env Os m e v H' → D.rt v H'
def Sx (B : Wd) (asl mu : List Nat) (run : Env → R Out) : TS := fun D σ H => ∃ Z env Os, Sat B Z σ H env Os ∧ ∃ o, run env = .ok o ∧ SEnd B asl mu σ Z H env Os D o
section
variable {G : List Fn} {C : Ctx} {X : Cx} {B : Wd} {Z Z' Z0 Z1 Z2 : Zn} {H H' H0 H1 H2 : Hp} {σ σ' σ1 : L2.St} {env env' env0 env1 en : Env} {Os Os' Os0 Os1 : List (List Addr)} {mu mu1 mu2 asl asl1 asl2 vs : List Nat} {v : V} {m : M} {d : D} {e : E} {x : Expr} {pos p1 p2 p3 : Pos}
theorem SPost.trans (a : SPost B asl1 mu1 σ Z H env Os env1 σ1 H1) (h1 : ∀ i ∈ asl1, i ∈ asl) (h2 : ∀ i ∈ mu1, i ∈ mu) : ∃ Z1 Os1, Sat B Z1 σ1 H1 env1 Os1 ∧ (∀ e σ' H', SPost B asl2 mu2 σ1 Z1 H1 env1 Os1 e σ' H' → (∀ i ∈ asl2, i ∈ asl) → (∀ i ∈ mu2, i ∈ mu) → SPost B asl mu σ Z H env Os e σ' H') ∧
    ∀ m e v H', RPost B asl2 mu2 σ1 Z1 H1 env1 Os1 m e v H' → (∀ i ∈ asl2, i ∈ asl) → (∀ i ∈ mu2, i ∈ mu) → RPost B asl mu σ Z H env Os m e v H' := by
  obtain ⟨Z1, Os1, q1, s1, f1⟩ := a
  refine ⟨Z1, Os1, q1, fun e σ' H' ⟨Z2, Os2, q2, s2, f2⟩ k1 k2 => ⟨Z2, Os2, q2, s1.trans s2 h2 k2, fun i hi => ?_⟩, fun m e v H' ⟨Z2, Os2, O, σ', q2, s2, f2, r, nd, ho⟩ k1 k2 => ⟨Z2, Os2, O, σ', q2, s1.trans s2 h2 k2, fun i hi => ?_, r, nd, fun a ha => ⟨(ho a ha).1, ?_⟩⟩⟩
  · rw [f2 i fun h => hi (k1 i h), f1 i fun h => hi (h1 i h)]
  · rw [f2 i fun h => hi (k1 i h), f1 i fun h => hi (h1 i h)]
  · rcases (ho a ha).2 with k | k
    · exact .inl (s1.dom a k)
    · exact s1.on a k
theorem SEnd.trans {D : Ends} {o : Out} (a : SPost B asl1 mu1 σ Z H env Os env1 σ1 H1) (h1 : ∀ i ∈ asl1, i ∈ asl) (h2 : ∀ i ∈ mu1, i ∈ mu) (k1 : ∀ i ∈ asl2, i ∈ asl) (k2 : ∀ i ∈ mu2, i ∈ mu) (h : SEnd B asl mu σ Z H env Os D o) :
    ∃ Z1 Os1, Sat B Z1 σ1 H1 env1 Os1 ∧ SEnd B asl2 mu2 σ1 Z1 H1 env1 Os1 D o := by
  obtain ⟨Z1, Os1, q1, f1, f2⟩ := a.trans (asl2 := asl2) (mu2 := mu2) h1 h2
  refine ⟨Z1, Os1, q1, ?_⟩
  cases o with
  | nx e => exact fun σ' H' p => h σ' H' (f1 e σ' H' p k1 k2)
  | br e => exact fun σ' H' p => h σ' H' (f1 e σ' H' p k1 k2)
  | ret m e => exact fun v H' p => h v H' (f2 m e v H' p k1 k2)
theorem SPost.of (q : Sat B Z' σ H' env' Os') (s : Step mu Z H env Os Z' H' env' Os') : SPost B asl mu σ Z H env Os env' σ H' := ⟨Z', Os', q, s, fun _ _ => rfl⟩
theorem PS.or {st : Stmt} {t t' : TS} (h : PS X st t) (h' : PS X st t') : PS X st (fun D σ H => t D σ H ∨ t' D σ H) := ⟨fun pins s σ H D I q => q.elim (h.run pins s σ H D I) (h'.run pins s σ H D I)⟩

/-! ### blocks -/
theorem s_nil : PSs X [] (Sx (wd X) (asSs []) (muSs []) (exs G [])) := by
  refine PSs.of pss_nil fun D σ H ⟨Z, env, Os, q, o, h1, h2⟩ => ?_
  simp only [exs] at h1
  cases h1
  exact h2 σ H (.of q Step.refl)
theorem s_cons {s : S} {ss : List S} {st : Stmt} {sts : List Stmt} (h1 : PS X st (Sx (wd X) (asS s) (muS s) (ex G s))) (h2 : PSs X sts (Sx (wd X) (asSs ss) (muSs ss) (exs G ss))) : PSs X (st :: sts) (Sx (wd X) (asSs (s :: ss)) (muSs (s :: ss)) (exs G (s :: ss))) := by
  refine PSs.of (pss_cons h1 h2) fun D σ H ⟨Z, env, Os, q, o, k1, k2⟩ => ?_
  simp only [exs] at k1
  simp only [asSs, muSs] at k2
  obtain ⟨o1, k3, k4⟩ := R.bind_ok k1
  refine ⟨Z, env, Os, q, o1, k3, ?_⟩
  cases o1 with
  | nx e1 =>
    intro σ1 H1 p
    obtain ⟨Z1, Os1, q1, f⟩ := SEnd.trans (asl2 := asSs ss) (mu2 := muSs ss) p ml ml mr mr k2
    exact ⟨Z1, e1, Os1, q1, o, k4, f⟩
  | br e1 =>
    cases k4
    intro σ1 H1 p
    obtain ⟨Z1, Os1, q1, s1, f1⟩ := p
    exact k2 σ1 H1 ⟨Z1, Os1, q1, s1.mono ml, fun i hi => f1 i fun h => hi (ml i h)⟩
  | ret m e1 =>
    cases k4
    intro v H1 p
    obtain ⟨Z1, Os1, O, σ', q1, s1, f1, r⟩ := p
    exact k2 v H1 ⟨Z1, Os1, O, σ', q1, s1.mono ml, fun i hi => f1 i fun h => hi (ml i h), r⟩

/-! ### simple statements -/
def noComp : Expr → Bool
  | .ListComp .. => false
  | .SetComp .. => false
  | .DictComp .. => false
  | _ => true
theorem sw_no {t : Option Expr} {l : Nat} {env : PySem.Env} (h : noComp x = true) : swapsWith x t l env = pure false := by
  cases x <;> first | rfl | cases h
theorem s_pass : PS X (.Pass pos) (Sx (wd X) (asS .pass) (muS .pass) (ex G .pass)) := by
  refine PS.of ps_pass fun D σ H ⟨Z, env, Os, q, o, h1, h2⟩ => ?_
  simp only [ex] at h1
  cases h1
  exact h2 σ H (.of q Step.refl)
theorem s_brk : PS X (.Break pos) (Sx (wd X) (asS .brk) (muS .brk) (ex G .brk)) := by
  refine PS.of ps_break fun D σ H ⟨Z, env, Os, q, o, h1, h2⟩ => ?_
  simp only [ex] at h1
  cases h1
  exact h2 σ H (.of q Step.refl)
theorem s_never {a : E} {st : Stmt} : PS X st (Sx (wd X) (asS (.do_ (.star a))) (muS (.do_ (.star a))) (ex G (.do_ (.star a)))) := by
  refine PS.of ps_never fun D σ H ⟨Z, env, Os, q, o, h1, h2⟩ => ?_
  simp only [ex, ev] at h1
  cases h1
theorem s_do (he : PE X x (Rx (wd X) (muE e) (ev G e))) (hn : noComp x = true) : PS X (.Expr x pos) (Sx (wd X) (asS (.do_ e)) (muS (.do_ e)) (ex G (.do_ e))) := by
  refine PS.of (ps_expr he (sw_no hn)) fun D σ H ⟨Z, env, Os, q, o, h1, h2⟩ => ?_
  simp only [ex] at h1
  simp only [muS] at h2
  obtain ⟨⟨mm, rs, e1⟩, h3, h4⟩ := R.bind_ok h1
  cases h4
  exact Rx.go q h3 fun v H1 ⟨Z1, Os1, O1, q1, s1, r1, ro1⟩ => h2 σ H1 (.of q1 s1)
/-! returning -/
theorem ret_post {rs : List Nat} {e1 e2 : Env} {m' : M} (he : ev G e env = .ok (m, rs, e1)) (ht : retR e (m, rs, e1) = .ok (m', e2)) (hp : Post B (muE e) σ Z H env Os m rs e1 v H') : RPost B asl (muT e) σ Z H env Os m' e2 v H' := by
  obtain ⟨Z1, Os1, O, q, s, r, ro⟩ := hp
  have hm := (muT_of e).1
  unfold retR at ht
  split at ht
  · rename_i heq
    cases heq; cases ht
    cases r with | pu r => exact ⟨Z1, Os1, [], σ, q, s.mono hm, fun _ _ => rfl, .pu r, by simpa using q.nd, fun a h => nomatch h⟩
  · rename_i n1 heq
    cases heq
    cases ht
    exact ⟨Z1, Os1, O, σ, q, s.mono hm, fun _ _ => rfl, r, (ro.1 rfl).1, (ro.1 rfl).2⟩
  · rename_i n1 heq
    cases heq
    split at ht
    · rename_i i
      cases ht
      obtain ⟨e1, e2, e3⟩ := ev_var he
      cases e1
      rcases e3 with ⟨d, e4, e5⟩ | ⟨e4, e5⟩
      · cases e5
      · injection e5 with e6 e7
        subst e7
        have e8 := e6.symm
        subst e8
        obtain ⟨w, Oi, h3, ho, hr⟩ := q.val i m e2
        have hO : ∀ a ∈ O, a ∈ Oi := fun a ha => by
          obtain ⟨j, hj, Oj, h1, h2⟩ := ro.2.1 (by simp) a ha
          simp at hj; subst hj
          rw [ho] at h1; cases h1
          exact h2
        have hfl : ∀ a ∈ Oi, a ∈ Os1.flatten := fun a ha => mem_flat.mpr ⟨_, Oi, ho, ha⟩
        refine ⟨Z1, Os1.set i [], O, σ, ⟨by rw [List.length_set, List.length_set]; exact q.len1, by rw [List.length_set]; exact q.len2, fun j w' h => ?_, fun j h => ?_, nodup_set_nil q.nd, fun a ha => q.nz a (flat_set_nil ha).1, q.zh⟩,
          ⟨by rw [List.length_set], s.zz, s.zn, fun a ha => s.on a (flat_set_nil ha).1, s.keep, s.dom, fun j hj => ?_⟩, fun _ _ => rfl, r, List.nodup_append.mpr ⟨ro.2.2, nodup_set_nil q.nd, fun a ha b hb e => ?_⟩, fun a ha => ⟨q.nz a (hfl a (hO a ha)), s.on a (hfl a (hO a ha))⟩⟩
        · rcases getElem?_set_or h with ⟨_, h1, _⟩ | ⟨hj, h1⟩
          · cases h1
          · obtain ⟨v, O, h3, h4, r⟩ := q.val j w' h1
            exact ⟨v, O, h3, by rw [List.getElem?_set_ne (Ne.symm hj)]; exact h4, r⟩
        · rcases getElem?_set_or h with ⟨rfl, _, h1⟩ | ⟨hj, h1⟩
          · rw [List.getElem?_set_self (by rw [q.len1]; exact h1)]
          · rw [List.getElem?_set_ne (Ne.symm hj)]; exact q.emp j h1
        · have hn : i ≠ j := fun z => hj (z ▸ (muT_of (.var i)).2 i rfl)
          obtain ⟨z1, z2, z3⟩ := s.slot j (fun h => hj (hm j h))
          exact ⟨by rw [List.getElem?_set_ne hn], by rw [List.getElem?_set_ne hn]; exact z2, z3⟩
        · subst e
          exact (flat_set_nil hb).2 Oi ho q.nd (hO a ha)
    · cases ht
theorem s_ret (he : PE X x (Rx (wd X) (muE e) (ev G e))) : PS X (.Return (some x) pos) (Sx (wd X) (asS (.ret e)) (muS (.ret e)) (ex G (.ret e))) := by
  refine PS.of (ps_ret he) fun D σ H ⟨Z, env, Os, q, o, h1, h2⟩ => ?_
  simp only [ex] at h1
  simp only [muS] at h2
  obtain ⟨⟨mm, rs, e1⟩, h3, h4⟩ := R.bind_ok h1
  obtain ⟨⟨m', e2⟩, h5, h6⟩ := R.bind_ok h4
  cases h6
  exact Rx.go q h3 fun v H1 p => h2 v H1 (ret_post h3 h5 p)
theorem s_retN : PS X (.Return none pos) (Sx (wd X) (asS .retN) (muS .retN) (ex G .retN)) := by
  refine PS.of ps_retN fun D σ H ⟨Z, env, Os, q, o, h1, h2⟩ => ?_
  simp only [ex] at h1
  cases h1
  exact h2 .non H ⟨Z, Os, [], σ, q, Step.refl, fun _ _ => rfl, .pu .non, by simpa using q.nd, fun a h => nomatch h⟩
/-! if -/
theorem s_ifs {a b : List S} {sa sb : List Stmt} (hc : PT X x (Bx (wd X) (muE e) (bRun G e))) (ha : PSs X sa (Sx (wd X) (asSs a) (muSs a) (exs G a))) (hb : PSs X sb (Sx (wd X) (asSs b) (muSs b) (exs G b))) :
    PS X (.If x sa sb pos) (Sx (wd X) (asS (.ifs e a b)) (muS (.ifs e a b)) (ex G (.ifs e a b))) := by
  refine PS.of (ps_if hc ha hb) fun D σ H ⟨Z, env, Os, q, o, h1, h2⟩ => ?_
  simp only [ex] at h1
  simp only [muS, asS] at h2
  obtain ⟨r, h3, h4⟩ := R.bind_ok h1
  obtain ⟨⟨k, e1⟩, h5, h6⟩ := R.bind_ok h4
  refine ⟨Z, env, Os, q, k, e1, by unfold bRun; rw [h3]; exact h5, fun H1 ⟨Z1, Os1, q1, s1⟩ => ?_⟩
  have sp : SPost (wd X) [] (muE e) σ Z H env Os e1 σ H1 := .of q1 s1
  cases k with
  | true =>
    rw [if_pos rfl] at h6
    refine if_t ?_
    obtain ⟨Z2, Os2, q2, f⟩ := SEnd.trans (asl2 := asSs a) (mu2 := muSs a) sp (fun i h => nomatch h) (fun i hi => ml _ (ml _ hi)) (fun i hi => ml _ hi) (fun i hi => ml _ (mr _ hi)) h2
    exact ⟨Z2, e1, Os2, q2, o, h6, f⟩
  | false =>
    rw [if_neg (by simp)] at h6
    refine if_f ?_
    obtain ⟨Z2, Os2, q2, f⟩ := SEnd.trans (asl2 := asSs b) (mu2 := muSs b) sp (fun i h => nomatch h) (fun i hi => ml _ (ml _ hi)) (fun i hi => mr _ hi) (fun i hi => mr _ hi) h2
    exact ⟨Z2, e1, Os2, q2, o, h6, f⟩
end
end TR

set_option Elab.async false
set_option linter.all false
set_option maxHeartbeats 4000000
set_option maxRecDepth 10000
namespace TR
open PySem PySem.Spec PyProof.Rows L2 StX

structure SOk (G : List Fn) (C : Ctx) (X : Cx) : Prop extends XOk G C X where
  xe : X.xe = fun _ _ => False
  kind : C.sc.kind = .function
section
variable {G : List Fn} {C : Ctx} {X : Cx} {B : Wd} {Z Z' Z0 Z1 Z2 : Zn} {H H' H0 H1 H2 : Hp} {σ σ' σ1 : L2.St} {env env' env0 env1 en : Env} {Os Os' Os0 Os1 : List (List Addr)} {mu mu1 mu2 asl asl1 asl2 vs : List Nat} {v : V} {m : M} {d : D} {e : E} {x : Expr} {pos p1 p2 p3 : Pos} {nm : Str}
theorem SOk.pass (ok : SOk G C X) : PassesOwn (model X.prog X.w) X.A X.env X.xe := by rw [ok.xe]; exact PassesOwn.never
/-- a value that a slot is to hold -/
theorem keep_post {rs : List Nat} {e1 e2 : Env} {m' : M} (he : ev G e env = .ok (m, rs, e1)) (ht : keepR e (m, rs, e1) = .ok (m', e2)) (hp : Post B (muE e) σ Z H env Os m rs e1 v H') :
    ∃ Z' Os' O, Sat B Z' σ H' e2 Os' ∧ Step (muT e) Z H env Os Z' H' e2 Os' ∧ RM B Z' H' v m' O ∧ (O ++ Os'.flatten).Nodup ∧ ∀ a ∈ O, ¬ Z' a ∧ (H a = none ∨ a ∈ Os.flatten) := by
  have hp0 := hp
  obtain ⟨Z1, Os1, O, q, s, r, ro⟩ := hp
  have hm := (muT_of e).1
  unfold keepR at ht
  split at ht
  · rename_i heq
    cases heq; cases ht
    cases r with | pu r => exact ⟨Z1, Os1, [], q, s.mono hm, .pu r, by simpa using q.nd, fun a h => nomatch h⟩
  · rename_i n1 heq
    cases heq
    cases ht
    exact ⟨Z1, Os1, O, q, s.mono hm, r, (ro.1 rfl).1, (ro.1 rfl).2⟩
  · rename_i n1 heq
    cases heq
    split at ht
    · rename_i i
      cases ht
      have ht' : ∀ (h : Nat) (t : List Nat), takeR (.var i) (m, h :: t, e1) = .ok (m.toD, e1.set i (some (.pu m.toD))) := fun h t => by
        unfold takeR
        split
        · rename_i heq; cases heq; exact absurd rfl (n1 _)
        · rename_i heq; cases heq
        · rename_i heq; cases heq; rfl
      obtain ⟨Z2, Os2, q2, s2, r2⟩ := take_post he (ht' _ _) hp0
      exact ⟨Z2, Os2, [], q2, s2, .pu r2, by simpa using q2.nd, fun a h => nomatch h⟩
    · cases ht
/-- x = e, by whatever rule the text takes -/
theorem s_asgV {i : Nat} (hp : PS X (.Assign [.Name nm p1] x pos) (tAsg (Rx (wd X) (muE e) (ev G e)) (gName i))) : PS X (.Assign [.Name nm p1] x pos) (Sx (wd X) (asS (.asg (.v i) e)) (muS (.asg (.v i) e)) (ex G (.asg (.v i) e))) := by
  refine PS.of hp fun D σ H ⟨Z, env, Os, q, o, h1, h2⟩ => ?_
  simp only [ex] at h1
  simp only [muS, asS, P.slots] at h2
  obtain ⟨⟨mm, rs, e1⟩, h3, h4⟩ := R.bind_ok h1
  obtain ⟨⟨m', e2⟩, h5, h6⟩ := R.bind_ok h4
  dsimp only at h6
  obtain ⟨hi, h6⟩ := R.of_if h6
  cases h6
  refine Rx.go q h3 fun v H1 p => ?_
  obtain ⟨Z1, Os1, O, q1, s1, r1, nd, ho⟩ := keep_post h3 h5 p
  refine h2 (σ.set i (some v)) H1 ⟨Z1, Os1.set i O, q1.put hi r1 nd fun a ha => (ho a ha).1, (s1.mono fun j hj => List.mem_append_right _ hj).put q1 (by simp) hi fun a ha => (ho a ha).2, fun j hj => ?_⟩
  simp at hj
  rw [List.getElem?_set_ne (Ne.symm hj)]
theorem asg_name (ok : SOk G C X) {i : Nat} (hN : C.N[i]? = some nm) (hl : nm ∈ C.loc) (he : PE X x (Rx (wd X) (muE e) (ev G e))) (hs : swapsWith x (some (.Name nm p1)) pos.line X.env = pure false) :
    PS X (.Assign [.Name nm p1] x pos) (tAsg (Rx (wd X) (muE e) (ev G e)) (gName i)) := by
  obtain ⟨h1, h2⟩ := ok.loc nm hl
  exact ps_set (by rw [ok.N]; exact ok.nd) (by rw [ok.N]; exact hN) h1 he hs h2
/-- does the new list go straight to the name -/
def swB (C : Ctx) (nm : Str) (p1 : Pos) (scope : Scope) (pos : Pos) : Bool :=
  (decide (C.sc.names.lookup nm = some .local) && (p1.line == pos.line)) && !(scope.names.any fun (n, k) => n == nm && (k == .local || k == .cell))
theorem sw_eq (ok : SOk G C X) {elt : Expr} {gs : List Comprehension} {scope : Scope} {l : Nat} : swapsWith (.ListComp elt gs scope pos) (some (.Name nm p1)) l X.env = pure (swB C nm p1 scope pos) := by
  have hb : X.env.blockKind = .function := by unfold PySem.Env.blockKind; rw [ok.sc, ok.kind]; rfl
  have hk : (X.env.kindOf nm == some .local) = decide (C.sc.names.lookup nm = some .local) := by
    unfold PySem.Env.kindOf
    rw [ok.sc]
    cases hx : C.sc.names.lookup nm with
    | none => rfl
    | some k => cases k <;> rfl
  unfold swapsWith swB
  simp only [hb, hk, Expr.pos]
  rfl
/-- a, b = data -/
theorem s_asgT (ok : SOk G C X) {ps : List P} {ts : List Expr} {kk : Nat} {tpos : Pos} (hg : chkP C (.t ps) (.Tuple ts kk tpos) = true) (he : PE X x (Rx (wd X) (muE e) (ev G e))) (hs : swapsWithSole [.Tuple ts kk tpos] x pos.line X.env = pure false) (hw : swappedStores [.Tuple ts kk tpos] x X.env = pure none) :
    PS X (.Assign [.Tuple ts kk tpos] x pos) (Sx (wd X) (asS (.asg (.t ps) e)) (muS (.asg (.t ps) e)) (ex G (.asg (.t ps) e))) := by
  refine PS.of (ps_asg (k_take he) (g_of ok.toXOk (.t ps) _ hg) hs hw) fun D σ H ⟨Z, env, Os, q, o, h1, h2⟩ => ?_
  simp only [ex] at h1
  simp only [muS, asS] at h2
  obtain ⟨r, h3, h4⟩ := R.bind_ok h1
  obtain ⟨⟨d, e1⟩, h5, h6⟩ := R.bind_ok h4
  obtain ⟨e2, h7, h8⟩ := R.bind_ok h6
  cases h8
  refine Tx.go q (tRun_eq h3 h5) fun v H1 ⟨Z1, Os1, q1, s1, r1⟩ => ?_
  exact ⟨Z1, e1, Os1, d, e2, q1, r1, h7, fun σ2 H2 ⟨eh, Os2, q2, s2, f2, l2⟩ => by
    subst eh
    exact h2 σ2 _ ⟨Z1, Os2, q2, s1.trans s2 mr ml, f2⟩⟩
/-! ### writing into a slot's own object -/
theorem upd_dom {a : Addr} {o u : HO} (h : H a = some u) : ∀ b, L2.upd H a o b = none → H b = none := fun b e => by
  by_cases hb : b = a
  · subst hb; rw [upd_same] at e; cases e
  · rw [upd_ne hb] at e; exact e
/-- the slot's own object at a is written: its new content m1 -/
theorem slot_write {y : Nat} {a : Addr} {o : HO} {Oy : List Addr} {w : V} {m1 : M} (q : Sat B Z1 σ H1 env1 Os1) (s : Step mu Z H env Os Z1 H1 env1 Os1) (hy : y ∈ mu) (hw : σ[y]? = some (some w)) (hO : Os1[y]? = some Oy) (ha : a ∈ Oy)
    (r : ∀ (st : Stay Z1 H1 (L2.upd H1 a o)), RM B Z1 (L2.upd H1 a o) w m1 Oy) : Sat B Z1 σ (L2.upd H1 a o) (env1.set y (some m1)) (Os1.set y Oy) ∧ Step mu Z H env Os Z1 (L2.upd H1 a o) (env1.set y (some m1)) (Os1.set y Oy) ∧ Stay Z1 H1 (L2.upd H1 a o) := by
  have hf : ∀ b ∈ Oy, b ∈ Os1.flatten := fun b hb => mem_flat.mpr ⟨y, Oy, hO, hb⟩
  obtain ⟨u, hu⟩ := Mut.some (q.own a (hf a ha))
  have kp : ∀ b o', H1 b = some o' → b ∉ Oy → L2.upd H1 a o b = some o' := fun b o' e hn => by rw [upd_ne (fun h => hn (by rw [h]; exact ha))]; exact e
  have dom := upd_dom (o := o) hu
  have st : Stay Z1 H1 (L2.upd H1 a o) := ⟨fun b o' z e => kp b o' e fun h => q.nz b (hf b h) z, fun b ys e => kp b _ e fun h => q.not_tup e (hf b h), fun b o' u' e => kp b _ e fun h => q.not_frz e (hf b h)⟩
  refine ⟨q.upd hO kp (fun _ z => z) (fun b z => ⟨.inl z, fun e => q.zh b z (dom b e)⟩) rfl hw (fun _ _ => rfl) (r st) (flat_mem q.nd (List.mem_of_getElem? hO)) fun b hb => ⟨fun z => q.nz b (hf b hb) z, fun j O hj hOj => own_apart q (Ne.symm hj) hO hOj hb⟩,
    s.upd q hy hO kp dom (fun _ z => z) (fun b z => .inl z) fun b hb => s.on b (hf b hb), st⟩
def tAppend (B : Wd) (y : Nat) (t : TE) : TE := fun σ H Q => tBM B.K "list" rAppend (tVar y) (tCons t tNil) σ H Q
/-- y.append(e) -/
theorem s_app (ok : SOk G C X) {y : Nat} {ap cp : Pos} (hN : C.N[y]? = some nm) (hv : visB C.sc nm = true) (hd : noDbg nm = true) (he : PE X x (Rx (wd X) (muE e) (ev G e))) (hn : noStar x = true) (hl : (ap.endLine == cp.line) = true) :
    PS X (.Expr (.Call (.Attribute (.Name nm p2) "append" ap) [x] [] cp) pos) (Sx (wd X) (asS (.app y e)) (muS (.app y e)) (ex G (.app y e))) := by
  have hp : PE X (.Name nm p2) (tVar y) := pe_var (by rw [ok.N]; exact hN) (vis_of ok.toXOk hv) (noDbg_of hd).1 (noDbg_of hd).2.1
  refine PS.of (ps_expr (pe_bm PySem.F.plainAttrs_list PySem.F.slot_list_append PySem.F.type_list_append mt_append hp (pa_cons (k_take he) pa_nil (starEach_no hn)) rfl (few1 hn) hl (starEach_no hn) rfl) rfl) fun D σ H ⟨Z, env, Os, q, o, h1, h2⟩ => ?_
  simp only [ex] at h1
  simp only [muS, asS] at h2
  obtain ⟨m00, h0, h1⟩ := R.bind_ok h1
  obtain ⟨hli, h1⟩ := R.of_if h1
  obtain ⟨r, h3, h4⟩ := R.bind_ok h1
  obtain ⟨⟨d, e1⟩, h5, h6⟩ := R.bind_ok h4
  obtain ⟨m0, h7, h8⟩ := R.bind_ok h6
  obtain ⟨m2, h9, h10⟩ := R.bind_ok h8
  cases h10
  obtain ⟨w, Ow, hw, _, rw0⟩ := q.val y m00 (Env.get_ok h0)
  have hty : tyV (wd X).K "list" w H := by
    cases m00 with
    | li zs => cases rw0 with | li h r => exact lst_ty rfl (.inl (.of h))
    | _ => cases hli
  refine ⟨w, hw, hty, Tx.go q (tRun_eq h3 h5) fun v H1 ⟨Z1, Os1, q1, s1, r1⟩ => ?_⟩
  obtain ⟨w', Oy, hw', hO, rw1⟩ := q1.val y m0 (Env.get_ok h7)
  rw [hw] at hw'; cases hw'
  unfold appM at h9
  split at h9
  · rename_i ds
    obtain ⟨hz, h9⟩ := R.of_if h9
    cases h9
    cases rw1 with | li hH rl =>
    rename_i l ws
    have hlen := rl.length
    obtain ⟨k1, k2, k3⟩ := slot_write (o := .lst (ws ++ [v])) (m1 := .li (ds ++ [d])) (a := l) q1 (s1.mono fun i hi => List.mem_cons_of_mem _ hi) (mu := y :: muT e) List.mem_cons_self hw hO (by simp) (fun st => .li upd_same ((rl.append (.cons r1 .nil)).stay st fun _ z => z))
    exact ⟨l, ws, v, rfl, rfl, hH, by rw [← big_eq, hlen]; exact hz, h2 σ _ (.of k1 k2)⟩
  · cases h9
end
end TR

set_option Elab.async false
set_option linter.all false
set_option maxHeartbeats 4000000
set_option maxRecDepth 10000
namespace TR
open PySem PySem.Spec PyProof.Rows L2 StX
section
variable {G : List Fn} {C : Ctx} {X : Cx} {B : Wd} {Z Z' Z0 Z1 Z2 : Zn} {H H' H0 H1 H2 : Hp} {σ σ' σ1 : L2.St} {env env' env0 env1 en : Env} {Os Os' Os0 Os1 : List (List Addr)} {mu mu1 mu2 asl asl1 asl2 vs : List Nat} {v : V} {m : M} {d : D} {e : E} {x : Expr} {pos p1 p2 p3 : Pos} {nm : Str}
/-! ### for -/
def forF (G : List Fn) (p : P) (body : List S) : D → Env → R Out := fun x en => do
  let e2 ← bindP p x en
  exs G body e2
theorem s_for (ok : SOk G C X) {p : P} {body : List S} {tg xi : Expr} {sb : List Stmt} (hg : chkP C p tg = true) (hi : PI X tg xi (Ix (wd X) (muE e) (iRun G e))) (hb : PSs X sb (Sx (wd X) (asSs body) (muSs body) (exs G body))) (hs : noSet xi = true) :
    PS X (.For tg xi sb [] pos) (Sx (wd X) (asS (.for_ p e body)) (muS (.for_ p e body)) (ex G (.for_ p e body))) := by
  refine PS.of (ps_for ok.pass ok.calm hi (g_of ok.toXOk p tg hg) hb (fold_no hs)) fun D σ H ⟨Z, env, Os, q, o, h1, h2⟩ => ?_
  simp only [ex] at h1
  simp only [muS, asS] at h2
  obtain ⟨⟨mm, rs, e1⟩, h3, h4⟩ := R.bind_ok h1
  obtain ⟨xs, h5, h6⟩ := R.bind_ok h4
  obtain ⟨ap, h7⟩ := R.of_if h6
  refine ⟨Z, env, Os, q, rs, xs, e1, by unfold iRun; rw [h3]; show (itR mm >>= _) = _; rw [h5]; rfl, fun J H1 ⟨Z1, Os1, q1, s1, Gd, Y, w, hG, hY⟩ => ?_⟩
  have later : ∀ {Z H en Os}, Step (p.slots ++ muSs body) Z1 H1 e1 Os1 Z H en Os → Later rs Os1 Z1 H1 Z H := fun {Z H en Os} s => by
    refine ⟨s.zz, s.stay q1, fun i hi O hO a ha => ?_⟩
    have := List.all_eq_true.mp ap i hi
    simp only [List.contains_eq_mem, List.mem_append, Bool.not_eq_true', decide_eq_false_iff_not, not_or] at this
    exact (s.slot i (by simp only [List.mem_append, not_or]; exact ⟨this.2, this.1⟩)).2.2 O hO a ha
  have tot : ∀ {Z' H' en Os' σ'}, Sat (wd X) Z' σ' H' en Os' → Step (p.slots ++ muSs body) Z1 H1 e1 Os1 Z' H' en Os' → (∀ j, j ∉ p.slots ++ asSs body → σ'[j]? = σ[j]?) → SPost (wd X) (p.slots ++ asSs body) (p.slots ++ muE e ++ muSs body) σ Z H env Os en σ' H' :=
    fun {Z' H' en Os' σ'} q' s' f' => ⟨Z', Os', q', s1.trans s' (fun i hi => ml _ (mr _ hi)) (fun i hi => by
      rcases List.mem_append.mp hi with k | k
      · exact ml _ (ml _ k)
      · exact mr _ k), f'⟩
  refine for_it w (fun i σ' H' => ∃ Z en Os, Sat (wd X) Z σ' H' en Os ∧ Step (p.slots ++ muSs body) Z1 H1 e1 Os1 Z H' en Os ∧ (∀ j, j ∉ p.slots ++ asSs body → σ'[j]? = σ[j]?) ∧ foLoop (forF G p body) (xs.drop i) en = .ok o) ?_ ?_ ?_ ?_
  · exact ⟨Z1, e1, Os1, q1, Step.refl, fun _ _ => rfl, by rw [List.drop_zero]; exact h7⟩
  · rintro i σ' H' hi ⟨Z, en, Os, q, s, _⟩
    exact hG Z H' (later s)
  · rintro i y σ' H' H'' hi ⟨Z2, en, Os2, q2, s2, f2, hr⟩ hy
    have hx : xs[i]? = some xs[i] := List.getElem?_eq_getElem hi
    obtain ⟨g1, rx⟩ := hY Z2 H' i y H'' xs[i] (later s2) hx hy
    rw [List.drop_eq_getElem_cons hi] at hr
    obtain ⟨o1, h8, h9⟩ := R.bind_ok hr
    obtain ⟨e3, h10, h11⟩ := R.bind_ok h8
    refine ⟨Z2, en, Os2, _, e3, q2.grow g1, rx, h10, fun σ3 H3 ⟨eh, Os3, q3, s3, f3, l3⟩ => ?_⟩
    subst eh
    have s23 : Step (p.slots ++ muSs body) Z1 H1 e1 Os1 Z2 _ e3 Os3 := (s2.grow g1 q2).trans s3 (fun i hi => hi) (fun i hi => ml _ hi)
    have f23 : ∀ j, j ∉ p.slots ++ asSs body → σ3[j]? = σ[j]? := fun j hj => by rw [f3 j fun h => hj (ml _ h), f2 j hj]
    refine ⟨Z2, e3, Os3, q3, o1, h11, ?_⟩
    cases o1 with
    | nx e4 =>
      intro σ4 H4 ⟨Z4, Os4, q4, s4, f4⟩
      exact ⟨Z4, e4, Os4, q4, s23.trans s4 (fun i hi => hi) (fun i hi => mr _ hi), fun j hj => by rw [f4 j fun h => hj (mr _ h), f23 j hj], h9⟩
    | br e4 =>
      cases h9
      intro σ4 H4 ⟨Z4, Os4, q4, s4, f4⟩
      exact h2 σ4 H4 (tot q4 (s23.trans s4 (fun i hi => hi) (fun i hi => mr _ hi)) fun j hj => by rw [f4 j fun h => hj (mr _ h), f23 j hj])
    | ret m e4 =>
      cases h9
      intro v H4 ⟨Z4, Os4, O, σ4, q4, s4, f4, r, nd, ho⟩
      have s24 := s23.trans s4 (mu := p.slots ++ muSs body) (fun i hi => hi) (fun i hi => mr _ hi)
      obtain ⟨_, _, k1, k2, k3⟩ := tot q4 s24 fun j hj => by rw [f4 j fun h => hj (mr _ h), f23 j hj]
      refine h2 v H4 ⟨Z4, Os4, O, σ4, q4, s1.trans s24 (fun i hi => ml _ (mr _ hi)) (fun i hi => ?_), fun j hj => by rw [f4 j fun h => hj (mr _ h), f23 j hj], r, nd, fun a ha => ⟨(ho a ha).1, ?_⟩⟩
      · rcases List.mem_append.mp hi with k | k
        · exact ml _ (ml _ k)
        · exact mr _ k
      · rcases (ho a ha).2 with k | k
        · exact .inl (s1.dom a (s23.dom a k))
        · rcases s23.on a k with k | k
          · exact .inl (s1.dom a k)
          · exact s1.on a k
  · rintro σ' H' ⟨Z2, en, Os2, q2, s2, f2, hr⟩
    rw [List.drop_of_length_le (Nat.le_refl _)] at hr
    cases hr
    exact h2 σ' H' (tot q2 s2 f2)
/-! ### y[i] = e -/
theorem PSet.or {t t' : TSet} (h : PSet X t) (h' : PSet X t') : PSet X (fun o i v H Q => t o i v H Q ∨ t' o i v H Q) := fun pins s σ H o i v ov iv u Q I ro ri rv q =>
  q.elim (h pins s σ H o i v ov iv u Q I ro ri rv) (h' pins s σ H o i v ov iv u Q I ro ri rv)
theorem eqv_keyD (a b : Key) : PyData.eqv (keyD a) (keyD b) = decide (a = b) := eqv_key a b
theorem RKV.any {ks : List (Key × V)} {kvs : List (D × D)} (r : RKV B Z H ks kvs) (k : Key) : (kvs.any fun kv => PyData.eqv kv.1 (keyD k)) = ks.any fun kv => decide (kv.1 = k) := by
  induction kvs generalizing ks with
  | nil => cases r; rfl
  | cons kv kvs ih =>
    cases r with | cons h r =>
    rw [List.any_cons, List.any_cons, ih r, eqv_key]
theorem RKV.repl {ks : List (Key × V)} {kvs : List (D × D)} (r : RKV B Z H ks kvs) (k : Key) (hv : Rp B Z H v d) :
    RKV B Z H (ks.map fun kv => if kv.1 = k then (kv.1, v) else kv) (kvs.map fun kv => if PyData.eqv kv.1 (keyD k) = true then (kv.1, d) else kv) := by
  induction kvs generalizing ks with
  | nil => cases r; exact .nil
  | cons kv kvs ih =>
    cases r with | cons h r =>
    rename_i j w ks dd
    rw [List.map_cons, List.map_cons, eqv_key]
    by_cases e : j = k
    · rw [if_pos e, if_pos (by simpa using e)]
      exact .cons hv (ih r)
    · rw [if_neg e, if_neg (by simpa using e)]
      exact .cons h (ih r)
theorem RKV.snoc {ks : List (Key × V)} {kvs : List (D × D)} (r : RKV B Z H ks kvs) (k : Key) (hv : Rp B Z H v d) : RKV B Z H (ks ++ [(k, v)]) (kvs ++ [(keyD k, d)]) := by
  induction kvs generalizing ks with
  | nil => cases r; exact .cons hv .nil
  | cons kv kvs ih => cases r with | cons h r => exact .cons h (ih r)
theorem RKV.put {ks : List (Key × V)} {kvs : List (D × D)} (r : RKV B Z H ks kvs) (k : Key) (hv : Rp B Z H v d) : RKV B Z H (putK ks k v) (dPut kvs (keyD k) d) := by
  unfold putK dPut
  rw [r.any]
  by_cases h : (ks.any fun kv => decide (kv.1 = k)) = true
  · rw [if_pos h, if_pos h]
    have := r.repl k hv
    simpa using this
  · rw [if_neg h, if_neg h]
    exact r.snoc k hv
theorem RM.li_inv {ds : List TR.D} {O : List Addr} (r : RM B Z H v (.li ds) O) : ∃ a ws, v = .ref a ∧ O = [a] ∧ H a = some (.lst ws) ∧ RpL B Z H ws ds := by
  cases r with | li h r => exact ⟨_, _, rfl, rfl, h, r⟩
theorem RM.di_inv {kvs : List (TR.D × TR.D)} {O : List Addr} (r : RM B Z H v (.di kvs) O) : ∃ a ks, v = .ref a ∧ O = [a] ∧ H a = some (.dK ks) ∧ RKV B Z H ks kvs := by
  cases r with | dK h r => exact ⟨_, _, rfl, rfl, h, r⟩
theorem RM.nl_inv {dss : List (List TR.D)} {O : List Addr} (r : RM B Z H v (.nl dss) O) : ∃ a ws O', v = .ref a ∧ O = a :: O' ∧ H a = some (.lst ws) ∧ RN B Z H ws dss O' := by
  cases r with | nl h r => exact ⟨_, _, _, rfl, rfl, h, r⟩
theorem putI_ok {m0 mi m2 : M} {d : TR.D} (h : putI m0 mi d = .ok m2) : (∃ ds k j, m0 = .li ds ∧ mi = .pu (.int k) ∧ ixOf ds.length k = some j ∧ m2 = .li (ds.set j d)) ∨
    ∃ kvs k, m0 = .di kvs ∧ mi = .pu k ∧ keyFit kvs k = true ∧ kvs.length < big ∧ m2 = .di (dPut kvs k d) := by
  unfold putI at h
  split at h
  · split at h
    · cases h; exact .inl ⟨_, _, _, rfl, rfl, by assumption, rfl⟩
    · cases h
  · obtain ⟨hc, h⟩ := R.of_if h
    cases h
    simp only [Bool.and_eq_true, decide_eq_true_eq] at hc
    exact .inr ⟨_, _, rfl, rfl, hc.1, hc.2, rfl⟩
  · cases h
theorem appII_ok {m0 mi m2 : M} {d : TR.D} (h : appII m0 mi d = .ok m2) : ∃ xss k j zs, m0 = .nl xss ∧ mi = .pu (.int k) ∧ ixOf xss.length k = some j ∧ xss[j]? = some zs ∧ zs.length < big ∧ m2 = .nl (xss.set j (zs ++ [d])) := by
  unfold appII at h
  split at h
  · split at h
    · split at h
      · obtain ⟨hc, h⟩ := R.of_if h
        cases h
        exact ⟨_, _, _, _, rfl, rfl, by assumption, by assumption, hc, rfl⟩
      · cases h
    · cases h
  · cases h
theorem sws_no {t : Expr} {l : Nat} {env : PySem.Env} {o i : Expr} {p : Pos} (h : t = .Subscript o i p) : swapsWithSole [t] x l env = pure false := by
  subst h
  show swapsWith x (some (.Subscript o i p)) l env = pure false
  unfold swapsWith
  cases x <;> rfl
theorem sst_no {t : Expr} {env : PySem.Env} {o i : Expr} {p : Pos} (h : t = .Subscript o i p) : swappedStores [t] x env = pure none := by
  subst h
  unfold swappedStores
  cases x <;> rfl
theorem s_setI (ok : SOk G C X) {y : Nat} {ei : E} {xi : Expr} (hN : C.N[y]? = some nm) (hv : visB C.sc nm = true) (hd : noDbg nm = true) (he : PE X x (Rx (wd X) (muE e) (ev G e))) (hi : PE X xi (Rx (wd X) (muE ei) (ev G ei))) (hpi : plainIx xi = true) :
    PS X (.Assign [.Subscript (.Name nm p2) xi p1] x pos) (Sx (wd X) (asS (.setI y ei e)) (muS (.setI y ei e)) (ex G (.setI y ei e))) := by
  have hp : PE X (.Name nm p2) (tVar y) := pe_var (by rw [ok.N]; exact hN) (vis_of ok.toXOk hv) (noDbg_of hd).1 (noDbg_of hd).2.1
  refine PS.of (ps_asg (k_take he) (pg_sub hp hi (PSet.or set_list (set_dict (by have := ok.hu; omega))) (fun v => by cases xi <;> first | rfl | cases hpi)) (sws_no rfl) (sst_no rfl)) fun D σ H ⟨Z, env, Os, q, o, h1, h2⟩ => ?_
  simp only [ex] at h1
  simp only [muS, asS] at h2
  obtain ⟨m00, h0, h1⟩ := R.bind_ok h1
  obtain ⟨r, h3, h4⟩ := R.bind_ok h1
  obtain ⟨⟨d, e1⟩, h5, h6⟩ := R.bind_ok h4
  obtain ⟨⟨mi, ri, e2⟩, h7, h8⟩ := R.bind_ok h6
  obtain ⟨m0, h9, h10⟩ := R.bind_ok h8
  obtain ⟨m2, h11, h12⟩ := R.bind_ok h10
  cases h12
  obtain ⟨w, Ow, hw, _, rw0⟩ := q.val y m00 (Env.get_ok h0)
  refine Tx.go q (tRun_eq h3 h5) fun v H1 ⟨Z1, Os1, q1, s1, r1⟩ => ⟨w, hw, Rx.go q1 h7 fun vi H2 ⟨Z2, Os2, O2, q2, s2, r2, ro2⟩ => ?_⟩
  obtain ⟨w', Oy, hw', hO, rw1⟩ := q2.val y m0 (Env.get_ok h9)
  rw [hw] at hw'; cases hw'
  have s12 : Step (y :: (muT e ++ muE ei)) Z H env Os Z2 H2 e2 Os2 := s1.trans s2 (fun i hi => List.mem_cons_of_mem _ (ml _ hi)) (fun i hi => List.mem_cons_of_mem _ (mr _ hi))
  have r1' := r1.stay (s2.stay q1) s2.zz
  rcases putI_ok h11 with ⟨ds, k, j, rfl, rfl, hj, rfl⟩ | ⟨kvs, k, rfl, rfl, hk, hz, rfl⟩
  · have := r2.int; subst this
    obtain ⟨l, ws, rfl, rfl, hH, rl⟩ := rw1.li_inv
    obtain ⟨k1, k2, k3⟩ := slot_write (o := .lst (ws.set j v)) (m1 := .li (ds.set j d)) (a := l) q2 s12 List.mem_cons_self hw hO (by simp) (fun st => .li upd_same ((rl.set r1' j).stay st fun _ z => z))
    exact .inl ⟨l, ws, k, j, rfl, rfl, hH, by rw [rl.length]; exact hj, h2 σ _ (.of k1 k2)⟩
  · obtain ⟨k', rfl, rfl⟩ := keyFit_key hk r2
    obtain ⟨l, ks, rfl, rfl, hH, rk⟩ := rw1.di_inv
    obtain ⟨k1, k2, k3⟩ := slot_write (o := .dK (putK ks k' v)) (m1 := .di (dPut kvs (keyD k') d)) (a := l) q2 s12 List.mem_cons_self hw hO (by simp) (fun st => .dK upd_same ((rk.put k' r1').stay st fun _ z => z))
    exact .inr ⟨l, _, rfl, DPut.k hH (by rw [← big_eq, rk.length]; exact hz), h2 σ _ (.of k1 k2)⟩
/-! ### y[i].append(e) -/
theorem RN.upd : ∀ {vs : List V} {dss : List (List D)} {O : List Addr} {j : Nat} {a : Addr} {o : HO} {ws : List V} {ds : List D}, RN B Z H vs dss O → O.Nodup → O[j]? = some a → Stay Z H (L2.upd H a (.lst ws)) → RpL B Z (L2.upd H a (.lst ws)) ws ds →
    RN B Z (L2.upd H a (.lst ws)) vs (dss.set j ds) O
  | _, _, _, j, a, o, ws, ds, .nil, _, h, _, _ => by simp at h
  | _, _, _, 0, a, o, ws, ds, .cons h0 r0 t, nd, h, st, r => by
    simp at h; subst h
    exact .cons upd_same r (t.stay st (fun _ z => z) fun b u hb e => by
      rw [upd_ne (fun z => (List.nodup_cons.mp nd).1 (by rw [← z]; exact hb))]; exact e)
  | _, _, _, j + 1, a, o, ws, ds, .cons h0 r0 t, nd, h, st, r => by
    simp at h
    have hm := List.mem_of_getElem? h
    refine .cons ?_ (r0.stay st fun _ z => z) (RN.upd (o := o) t (List.nodup_cons.mp nd).2 h st r)
    rw [upd_ne (fun z => (List.nodup_cons.mp nd).1 (by rw [z]; exact hm))]; exact h0
theorem s_appI (ok : SOk G C X) {y : Nat} {ei : E} {xi : Expr} {ap cp : Pos} (hN : C.N[y]? = some nm) (hv : visB C.sc nm = true) (hd : noDbg nm = true) (he : PE X x (Rx (wd X) (muE e) (ev G e))) (hi : PE X xi (Rx (wd X) (muE ei) (ev G ei))) (hpi : plainIx xi = true) (hn : noStar x = true) (hl : (ap.endLine == cp.line) = true) :
    PS X (.Expr (.Call (.Attribute (.Subscript (.Name nm p2) xi p1) "append" ap) [x] [] cp) pos) (Sx (wd X) (asS (.appI y ei e)) (muS (.appI y ei e)) (ex G (.appI y ei e))) := by
  have hp : PE X (.Name nm p2) (tVar y) := pe_var (by rw [ok.N]; exact hN) (vis_of ok.toXOk hv) (noDbg_of hd).1 (noDbg_of hd).2.1
  refine PS.of (ps_expr (pe_bm PySem.F.plainAttrs_list PySem.F.slot_list_append PySem.F.type_list_append mt_append (pe_ix ix_list hp hi (plainIx_ok hpi)) (pa_cons (k_take he) pa_nil (starEach_no hn)) rfl (few1 hn) hl (starEach_no hn) rfl) rfl) fun D σ H ⟨Z, env, Os, q, o, h1, h2⟩ => ?_
  simp only [ex] at h1
  simp only [muS, asS] at h2
  obtain ⟨m00, h0, h1⟩ := R.bind_ok h1
  obtain ⟨⟨mi, ri, e1⟩, h3, h4⟩ := R.bind_ok h1
  obtain ⟨m0, h9, h10⟩ := R.bind_ok h4
  obtain ⟨r, h5, h6⟩ := R.bind_ok h10
  obtain ⟨⟨d, e2⟩, h7, h8⟩ := R.bind_ok h6
  obtain ⟨m2, h11, h12⟩ := R.bind_ok h8
  dsimp only at h9 h11
  split at h12
  · cases h12
  rename_i hny
  cases h12
  have hny' : y ∉ muT e := by simpa using hny
  obtain ⟨w, Ow, hw, _, rw0⟩ := q.val y m00 (Env.get_ok h0)
  have hget := Env.get_ok h9
  obtain ⟨xss, k, j, zs, rfl, rfl, hj, hz, hlen, rfl⟩ := appII_ok h11
  refine ⟨w, hw, Rx.go q h3 fun vi H1 ⟨Z1, Os1, O1, q1, s1, r1, ro1⟩ => ?_⟩
  obtain ⟨w', Oy, hw', hO, rw1⟩ := q1.val y _ hget
  rw [hw] at hw'; cases hw'
  have := r1.int; subst this
  obtain ⟨l0, ws0, O', rfl, rfl, hH0, rn⟩ := rw1.nl_inv
  obtain ⟨b, ws, h13, h14, h15, h16⟩ := rn.at hz
  refine ⟨l0, ws0, k, .ref b, rfl, rfl, .inl (.of hH0), ?_, lst_ty rfl (.inl (.of h15)), Tx.go q1 (tRun_eq h5 h7) fun v H2 ⟨Z2, Os2, q2, s2, r2⟩ => ?_⟩
  · unfold L2.atI
    rw [rn.length, ← ixOf_eq, hj]
    exact h13
  obtain ⟨t1, t2, t3⟩ := s2.slot y hny'
  have hO2 : Os2[y]? = some (l0 :: O') := t2.trans hO
  have hbO : b ∈ O' := List.mem_of_getElem? h14
  have hA2 : H2 b = some (.lst ws) := (t3 _ hO b (List.mem_cons_of_mem _ hbO)).trans h15
  obtain ⟨w2, Oy2, hw2, hO3, rw2⟩ := q2.val y (.nl xss) (t1.trans hget)
  rw [hw] at hw2; cases hw2
  rw [hO2] at hO3; cases hO3
  obtain ⟨l1, ws1, O1', e1, e3, hH1, rn2⟩ := rw2.nl_inv
  cases e1; cases e3
  have nd : (l0 :: O').Nodup := flat_mem q2.nd (List.mem_of_getElem? hO2)
  have rA2 : RpL (wd X) Z2 H2 ws zs := h16.stay (s2.stay q1) s2.zz
  have s12 : Step (y :: (muE ei ++ muT e)) Z H env Os Z2 H2 e2 Os2 := s1.trans s2 (fun i hi => List.mem_cons_of_mem _ (ml _ hi)) (fun i hi => List.mem_cons_of_mem _ (mr _ hi))
  have hlw := rA2.length
  have hne : l0 ≠ b := fun z => (List.nodup_cons.mp nd).1 (by rw [z]; exact hbO)
  obtain ⟨k1, k2, k3⟩ := slot_write (o := .lst (ws ++ [v])) (m1 := .nl (xss.set j (zs ++ [d]))) (a := b) q2 s12 List.mem_cons_self hw hO2 (List.mem_cons_of_mem _ hbO) (fun st => .nl (by rw [upd_ne hne]; exact hH1) (RN.upd (o := .lst (ws ++ [v])) rn2 (List.nodup_cons.mp nd).2 h14 st ((rA2.append (.cons r2 .nil)).stay st fun _ z => z)))
  exact ⟨b, ws, v, rfl, rfl, hA2, by rw [← big_eq, hlw]; exact hlen, h2 σ _ (.of k1 k2)⟩
end
end TR

set_option Elab.async false
set_option linter.all false
set_option maxHeartbeats 4000000
set_option maxRecDepth 10000
namespace TR
open PySem PySem.Spec PyProof.Rows L2 StX
section
variable {G : List Fn} {C : Ctx} {X : Cx} {B : Wd} {Z Z' Z0 Z1 Z2 : Zn} {H H' H0 H1 H2 : Hp} {σ σ' σ1 : L2.St} {env env' env0 env1 en : Env} {Os Os' Os0 Os1 : List (List Addr)} {mu mu1 mu2 asl asl1 asl2 vs : List Nat} {v : V} {m : M} {d : D} {e : E} {x : Expr} {pos p1 p2 p3 : Pos} {nm : Str}
/-- values that are stored in order though the text stores them at once -/
def parB (C : Ctx) (x y : Str) (px py : Pos) (a b : Expr) : Bool :=
  decide (C.sc.names.lookup x = some .local) && decide (C.sc.names.lookup y = some .local) && (py.line == px.line) && !decide (x = y) && noStar a && noStar b && !([a, b].all (foldedForSure 8)) && !([a, b].all (constantsAlone 8))
theorem par_eq (ok : SOk G C X) {x y : Str} {px py pt pt2 : Pos} {a b : Expr} {kt k2 : Nat} (h : parB C x y px py a b = true) :
    swappedStores [.Tuple [.Name x px, .Name y py] kt pt] (.Tuple [a, b] k2 pt2) X.env = pure (some [x, y]) := by
  unfold parB at h
  simp only [Bool.and_eq_true, decide_eq_true_eq, Bool.not_eq_true', decide_eq_false_iff_not] at h
  obtain ⟨⟨⟨⟨⟨⟨⟨h1, h2⟩, h3⟩, h4⟩, h5⟩, h6⟩, h7⟩, h8⟩ := h
  have hb : X.env.blockKind = .function := by unfold PySem.Env.blockKind; rw [ok.sc, ok.kind]; rfl
  have kx : X.env.kindOf x = some .local := by unfold PySem.Env.kindOf; rw [ok.sc]; exact h1
  have ky : X.env.kindOf y = some .local := by unfold PySem.Env.kindOf; rw [ok.sc]; exact h2
  have ha : (match (generalizing := false) a with | .Starred .. => true | _ => false) = false := by cases a <;> first | rfl | cases h5
  have hb2 : (match (generalizing := false) b with | .Starred .. => true | _ => false) = false := by cases b <;> first | rfl | cases h6
  have hd : ([x, y] : List Str).eraseDups = [x, y] := by
    have hxy : (y == x) = false := by
      rw [beq_eq_false_iff_ne]; exact fun z => h4 z.symm
    simp [List.eraseDups, List.eraseDupsBy, List.eraseDupsBy.loop, hxy]
  have h3' : py.line = px.line := eq_of_beq h3
  simp only [List.all_cons, List.all_nil, Bool.and_true] at h7 h8
  unfold swappedStores
  simp [hb, h7, h8, List.filterMap_cons, kx, ky, h3', hd, Expr.pos]
  intro h
  rcases h with h | h
  · cases a <;> first | (cases h5; done) | (cases h; done)
  · cases b <;> first | (cases h6; done) | (cases h; done)
/-- a value kept while another is made -/
theorem kept_later {O : List Addr} (q : Sat B Z1 σ H1 env1 Os1) (r : RM B Z1 H1 v m O) (nd : (O ++ Os1.flatten).Nodup) (nz : ∀ a ∈ O, ¬ Z1 a) (s : Step mu Z1 H1 env1 Os1 Z2 H2 env' Os') : RM B Z2 H2 v m O ∧ (∀ a ∈ O, a ∉ Os'.flatten) ∧ ∀ a ∈ O, ¬ Z2 a := by
  have off : ∀ a ∈ O, a ∉ Os1.flatten := fun a ha h => (List.nodup_append.mp nd).2.2 a ha a h rfl
  refine ⟨r.stay (s.stay q) s.zz fun a o ha e => s.keep a o e (off a ha), fun a ha h => ?_, fun a ha z => ?_⟩
  · rcases s.on a h with k | k
    · exact r.ne a ha k
    · exact off a ha k
  · rcases s.zn a z with k | k | k
    · exact nz a ha k
    · exact r.ne a ha k
    · exact off a ha k
/-- x, y = (a, b) stored in order -/
theorem s_par2 (ok : SOk G C X) {i j : Nat} {x y : Str} {px py pt pt2 : Pos} {xa xb : Expr} {a b : E} {kt k2 : Nat} (hi : C.N[i]? = some x) (hj : C.N[j]? = some y) (h : parB C x y px py xa xb = true)
    (ha : PE X xa (Rx (wd X) (muE a) (ev G a))) (hb : PE X xb (Rx (wd X) (muE b) (ev G b))) :
    PS X (.Assign [.Tuple [.Name x px, .Name y py] kt pt] (.Tuple [xa, xb] k2 pt2) pos) (Sx (wd X) (asS (.par [i, j] [a, b])) (muS (.par [i, j] [a, b])) (ex G (.par [i, j] [a, b]))) := by
  have hw := par_eq (kt := kt) (k2 := k2) (pt := pt) (pt2 := pt2) ok h
  unfold parB at h
  simp only [Bool.and_eq_true, decide_eq_true_eq, Bool.not_eq_true', decide_eq_false_iff_not] at h
  obtain ⟨⟨⟨⟨⟨⟨⟨g1, g2⟩, _⟩, g4⟩, g5⟩, g6⟩, _⟩, _⟩ := h
  have hij : i ≠ j := fun e => by subst e; rw [hi] at hj; cases hj; exact g4 rfl
  refine PS.of (ps_par ok.calm (by rw [ok.N]; exact ok.nd) (by rw [ok.N]; exact hi) (by rw [ok.N]; exact hj) hij (by rw [ok.sc]; exact g1) (by rw [ok.sc]; exact g2) (pa_cons ha (pa_cons hb pa_nil (starEach_no g6)) (starEach_no g5)) hw) fun D σ H ⟨Z, env, Os, q, o, h1, h2⟩ => ?_
  simp only [ex, keepAll] at h1
  simp only [muS, asS, muTs, List.append_nil] at h2
  obtain ⟨⟨ms, e9⟩, h3, h4⟩ := R.bind_ok h1
  obtain ⟨r1, h5, h3⟩ := R.bind_ok h3
  obtain ⟨⟨m1, e1⟩, h6, h3⟩ := R.bind_ok h3
  obtain ⟨⟨ms2, e8⟩, h7, h3⟩ := R.bind_ok h3
  obtain ⟨r2, h8, h7⟩ := R.bind_ok h7
  obtain ⟨⟨m2, e2⟩, h9, h7⟩ := R.bind_ok h7
  cases h7
  cases h3
  obtain ⟨e10, h10, h11⟩ := R.bind_ok h4
  cases h11
  simp only [setAll] at h10
  obtain ⟨il, h10⟩ := R.of_if h10
  obtain ⟨jl, h10⟩ := R.of_if h10
  cases h10
  obtain ⟨ma, ra, ea⟩ := r1
  obtain ⟨mb, rb, eb⟩ := r2
  refine Rx.go q h5 fun va H1 p1 => ?_
  obtain ⟨Z1, Os1, O1, q1, s1, k1, nd1, ho1⟩ := keep_post h5 h6 p1
  refine Rx.go q1 h8 fun vb H2 p2 => ?_
  obtain ⟨Z2, Os2, O2, q2, s2, k2', nd2, ho2⟩ := keep_post h8 h9 p2
  obtain ⟨r1', off, nz⟩ := kept_later q1 k1 nd1 (fun a ha => (ho1 a ha).1) s2
  have s12 := s1.trans s2 (mu := [i, j] ++ (muT a ++ muT b)) (fun i hi => mr _ (ml _ hi)) (fun i hi => mr _ (mr _ hi))
  have on1 : ∀ x ∈ O1, H x = none ∨ x ∈ Os.flatten := fun x hx => (ho1 x hx).2
  have on2 : ∀ x ∈ O2, H x = none ∨ x ∈ Os.flatten := fun x hx => by
    rcases (ho2 x hx).2 with k | k
    · exact .inl (s1.dom x k)
    · exact s1.on x k
  have ndA : (O1 ++ Os2.flatten).Nodup := List.nodup_append.mpr ⟨(List.nodup_append.mp nd1).1, q2.nd, fun x hx y hy e => off x hx (e ▸ hy)⟩
  have q3 := q2.put il r1' ndA nz
  have s3 := s12.put (w := some m1) q2 (show i ∈ [i, j] ++ (muT a ++ muT b) by simp) il on1
  have il' : i < Os2.length := by rw [q2.len1]; exact il
  have d12 : ∀ x ∈ O2, x ∉ O1 := fun x hx hx1 => by
    rcases (ho2 x hx).2 with k | k
    · exact k1.ne x hx1 k
    · exact (List.nodup_append.mp nd1).2.2 x hx1 x k rfl
  have ndB : (O2 ++ (Os2.set i O1).flatten).Nodup := List.nodup_append.mpr ⟨(List.nodup_append.mp nd2).1, q3.nd, fun x hx y hy e => by
    subst e
    rcases flat_set hy with ⟨k, _⟩ | ⟨l, O, k1, k2, k3⟩
    · exact d12 x hx k
    · exact (List.nodup_append.mp nd2).2.2 x hx x (mem_flat.mpr ⟨l, O, k2, k3⟩) rfl⟩
  have q4 := q3.put (i := j) jl k2' ndB fun x hx => (ho2 x hx).1
  have s4 := s3.put (w := some m2) q3 (show j ∈ [i, j] ++ (muT a ++ muT b) by simp) jl on2
  refine ⟨va, vb, rfl, h2 _ _ ⟨Z2, _, q4, s4, fun l hl => ?_⟩⟩
  simp at hl
  rw [List.getElem?_set_ne (Ne.symm hl.2), List.getElem?_set_ne (Ne.symm hl.1)]
end
end TR

set_option Elab.async false
set_option linter.all false
set_option maxHeartbeats 4000000
/-! y[i] += number -/
namespace TR
open PySem PySem.Spec PyProof.Rows L2 StX
section
variable {X : Cx}
theorem PGet.or {t t' : V → V → Hp → VK → Prop} (h : PGet X t) (h' : PGet X t') : PGet X (fun o i H Q => t o i H Q ∨ t' o i H Q) := fun pins s σ H o i ov iv Q I ro ri q =>
  q.elim (h pins s σ H o i ov iv Q I ro ri) (h' pins s σ H o i ov iv Q I ro ri)
theorem pg_L : PGet X (rIxL X.K) := by
  intro pins s σ H x y v u Q I rx ry h
  obtain ⟨p, xs, i, z, rfl, rfl, hq, he, q⟩ := h
  cases rx
  obtain ⟨t, rfl⟩ := ry
  obtain ⟨its, r, pl, hz⟩ := I.list hq
  obtain ⟨j, h1, h2, h3, h4, h5⟩ := atI_get he
  obtain ⟨w, ew, rw'⟩ := r.get h2
  have hl := r.length
  have hn := line63
  have fin : EP X pins σ Q w s := ⟨z, H, I, rw', q⟩
  by_cases h0 : 0 ≤ i
  · have hj : i.toNat = j := by
      rw [seqIndex_of h0 h5] at h1
      exact Option.some.inj h1
    exact wpAny_getItem_list pl.isList h0 (by omega) (by rw [hj]; simpa using ew) fin
  · have hj : (i + (its.toArray.size : Int)).toNat = j := by
      rw [seqIndex_neg (by omega) h4] at h1
      rw [List.size_toArray, ← hl]
      exact Option.some.inj h1
    exact wpAny_getItem_list_neg pl.isList (by omega) (by rw [List.size_toArray] <;> omega) (by omega) (by rw [hj]; simpa using ew) fin
theorem pg_D (hu : X.A.units + 100 < cLine) : PGet X (fun x y H Q => ∃ a v, x = .ref a ∧ DGet H a y (some v) ∧ Q v H) := by
  intro pins s σ H x y v u Q I rx ry ⟨a, z, ex, g, q⟩
  subst ex
  cases (show v = Value.ref a from rx)
  exact d_getItem (by omega) I g ry fun w' s3 I3 rw' => ⟨z, H, I3, rw', q⟩
end
section
variable {G : List Fn} {C : Ctx} {X : Cx} {B : Wd} {Z Z' Z0 Z1 Z2 : Zn} {H H' H0 H1 H2 : Hp} {σ σ' σ1 : L2.St} {env env' env0 env1 en : Env} {Os Os' Os0 Os1 : List (List Addr)} {mu mu1 mu2 asl asl1 asl2 vs : List Nat} {v : V} {m : M} {d : D} {e : E} {x : Expr} {pos p1 p2 p3 : Pos} {nm : Str}
theorem bin_add_int {a b : Int} {z : M} (h : binD .add (.pu (.int a)) (.pu (.int b)) = .ok z) : z = .pu (.int (a + b)) := by
  simp [binD] at h; exact h.symm
theorem var_env {j : Nat} {ri : List Nat} (h : ev G (.var j) env = .ok (m, ri, env1)) : env1 = env := by
  rw [ev] at h
  obtain ⟨m', h1, h2⟩ := R.bind_ok h
  cases m' <;> (cases h2; rfl)
theorem s_augI (ok : SOk G C X) {y j : Nat} {c : Int} {xi : Expr} (hN : C.N[y]? = some nm) (hv : visB C.sc nm = true) (hd : noDbg nm = true) (he : PE X x (Rx (wd X) (muE (.cst (.int c))) (ev G (.cst (.int c))))) (hi : PE X xi (Rx (wd X) (muE (.var j)) (ev G (.var j)))) (hpi : plainIx xi = true) :
    PS X (.AugAssign (.Subscript (.Name nm p2) xi p1) .Add x pos) (Sx (wd X) (asS (.augI y (.var j) .add (.cst (.int c)))) (muS (.augI y (.var j) .add (.cst (.int c)))) (ex G (.augI y (.var j) .add (.cst (.int c))))) := by
  have hp : PE X (.Name nm p2) (tVar y) := pe_var (by rw [ok.N]; exact hN) (vis_of ok.toXOk hv) (noDbg_of hd).1 (noDbg_of hd).2.1
  refine PS.of (ps_augS hp hi (PGet.or pg_L (pg_D (by have := ok.hu; omega))) he ip_add (PSet.or set_list (set_dict (by have := ok.hu; omega))) (fun ov iv nw => by cases xi <;> first | rfl | cases hpi)) fun D σ H ⟨Z, env, Os, q, o, h1, h2⟩ => ?_
  simp only [ex] at h1
  simp only [muS, asS] at h2
  obtain ⟨⟨mi, ri, e1⟩, h3, g1⟩ := R.bind_ok h1
  obtain ⟨m0, h4, g2⟩ := R.bind_ok g1
  obtain ⟨mx, h5, g3⟩ := R.bind_ok g2
  obtain ⟨⟨mv, rv, e2⟩, h6, g4⟩ := R.bind_ok g3
  have h6' : R.ok (M.pu (PyData.int c), ([] : List Nat), e1) = R.ok (mv, rv, e2) := by rw [← h6, ev]
  cases h6'
  obtain ⟨m1, h7, g5⟩ := R.bind_ok g4
  dsimp only at h4 h7 h5 g5
  rw [h4] at h7
  cases h7
  have hee := var_env h3
  obtain ⟨a, rfl⟩ : ∃ a, mx = .pu (.int a) := by
    cases mx with
    | pu dx =>
      cases dx with
      | int a => exact ⟨a, rfl⟩
      | _ => cases g5
    | _ => cases g5
  have g5' : (do let z ← binD .add (.pu (.int a)) (.pu (.int c)); let d ← pureR z; let m2 ← putI m0 mi d; R.ok (Out.nx (List.set e1 y (some m2)))) = R.ok o := g5
  · obtain ⟨z, h8, g6⟩ := R.bind_ok g5'
    obtain ⟨dz, h9, g7⟩ := R.bind_ok g6
    obtain ⟨m2, h10, g8⟩ := R.bind_ok g7
    cases g8
    have hz := bin_add_int h8
    subst hz
    cases h9
    subst hee
    obtain ⟨w, Ow, hw, _, rw0⟩ := q.val y m0 (Env.get_ok h4)
    refine ⟨w, hw, Rx.go q h3 fun vi H1 ⟨Z1, Os1, O1, q1, s1, r1, ro1⟩ => ?_⟩
    obtain ⟨w', Oy, hw', hO, rw1⟩ := q1.val y m0 (Env.get_ok h4)
    rw [hw] at hw'; cases hw'
    rcases putI_ok h10 with ⟨ds, k, jj, rfl, rfl, hj, rfl⟩ | ⟨kvs, k, rfl, rfl, hk, hzz, rfl⟩
    · have := r1.int; subst this
      obtain ⟨l, ws, rfl, rfl, hH, rl⟩ := rw1.li_inv
      have h5' : (do let xs ← (M.li ds).seq; let d ← atD xs k; R.ok (M.pu d)) = R.ok (M.pu (PyData.int a)) := by
        have := h5; unfold subD at this; exact this
      obtain ⟨ds', h11, h12⟩ := R.bind_ok h5'
      cases h11
      obtain ⟨d0, h13, h14⟩ := R.bind_ok h12
      cases h14
      obtain ⟨v0, h15, r0⟩ := rl.atI h13
      cases r0
      refine .inl ⟨l, ws, k, _, rfl, rfl, .inl (.of hH), h15, ?_⟩
      refine Rx.go q1 h6 fun vc H2 ⟨Z2, Os2, O2, q2, s2, r2, ro2⟩ => ?_
      have := r2.int; subst this
      obtain ⟨w', Oy2, hw', hO2, rw2⟩ := q2.val y _ (Env.get_ok h4)
      rw [hw] at hw'; cases hw'
      obtain ⟨l2, ws2, e2, rfl, hH2, rl2⟩ := rw2.li_inv
      cases e2
      have s12 : Step (y :: (muE (.var j) ++ muE (.cst (.int c)))) Z H _ Os Z2 H2 _ Os2 := s1.trans s2 (fun i hi => List.mem_cons_of_mem _ (ml _ hi)) (fun i hi => List.mem_cons_of_mem _ (mr _ hi))
      obtain ⟨k1, k2, k3⟩ := slot_write (o := .lst (ws2.set jj (.int (a + c)))) (m1 := .li (ds.set jj (.int (a + c)))) (a := l) q2 s12 List.mem_cons_self hw hO2 (by simp) (fun st => .li upd_same ((rl2.set (.int (a + c)) jj).stay st fun _ z => z))
      exact ⟨a, c, rfl, rfl, .inl ⟨l, ws2, k, jj, rfl, rfl, hH2, by rw [rl2.length]; exact hj, h2 σ _ (.of k1 k2)⟩⟩
    · obtain ⟨k', rfl, rfl⟩ := keyFit_key hk r1
      obtain ⟨l, ks, rfl, rfl, hH, rk⟩ := rw1.di_inv
      have h5' : (if keyFit kvs (keyD k') then (do let v ← R.ofOpt (dLook kvs (keyD k')); R.ok (M.pu v)) else .bad) = R.ok (M.pu (PyData.int a)) := h5
      obtain ⟨hk1, h5''⟩ := R.of_if h5'
      obtain ⟨d0, h13, h14⟩ := R.bind_ok h5''
      cases h14
      rcases rk.look k' with ⟨w1, d1, h15, h16, r0⟩ | ⟨h15, h16⟩
      · rw [h16] at h13
        cases h13
        cases r0
        refine .inr ⟨l, .int a, rfl, ?_, ?_⟩
        · rw [← h15]; exact DGet.k hH
        refine Rx.go q1 h6 fun vc H2 ⟨Z2, Os2, O2, q2, s2, r2, ro2⟩ => ?_
        have := r2.int; subst this
        obtain ⟨w', Oy2, hw', hO2, rw2⟩ := q2.val y _ (Env.get_ok h4)
        rw [hw] at hw'; cases hw'
        obtain ⟨l2, ks2, e2, rfl, hH2, rk2⟩ := rw2.di_inv
        cases e2
        have s12 : Step (y :: (muE (.var j) ++ muE (.cst (.int c)))) Z H _ Os Z2 H2 _ Os2 := s1.trans s2 (fun i hi => List.mem_cons_of_mem _ (ml _ hi)) (fun i hi => List.mem_cons_of_mem _ (mr _ hi))
        obtain ⟨k1, k2, k3⟩ := slot_write (o := .dK (putK ks2 k' (.int (a + c)))) (m1 := .di (dPut kvs (keyD k') (.int (a + c)))) (a := l) q2 s12 List.mem_cons_self hw hO2 (by simp) (fun st => .dK upd_same ((rk2.put k' (.int (a + c))).stay st fun _ z => z))
        exact ⟨a, c, rfl, rfl, .inr ⟨l, _, rfl, DPut.k hH2 (by rw [← big_eq, rk2.length]; exact hzz), h2 σ _ (.of k1 k2)⟩⟩
      · rw [h16] at h13; cases h13
end
end TR

set_option Elab.async false
set_option linter.all false
set_option maxHeartbeats 4000000
/-! x, y, z = a, b, c by way of a tuple, own lists kept -/
namespace TR
open PySem PySem.Spec PyProof.Rows L2 StX
section
variable {G : List Fn} {C : Ctx} {X : Cx} {B : Wd} {Z Z' Z0 Z1 Z2 : Zn} {H H' H0 H1 H2 : Hp} {σ σ' σ1 : L2.St} {env env' env0 env1 en : Env} {Os Os' Os0 Os1 : List (List Addr)} {mu mu1 mu2 asl asl1 asl2 vs : List Nat} {v : V} {m : M} {d : D} {e : E} {x : Expr} {pos p1 p2 p3 : Pos} {nm : Str}
theorem put_nd {i : Nat} {O1 O2 : List Addr} (nd2 : (O2 ++ Os.flatten).Nodup) (d : ∀ a ∈ O2, a ∉ O1) (nd : (Os.set i O1).flatten.Nodup) : (O2 ++ (Os.set i O1).flatten).Nodup :=
  List.nodup_append.mpr ⟨(List.nodup_append.mp nd2).1, nd, fun x hx y hy e => by
    subst e
    rcases flat_set hy with ⟨k, _⟩ | ⟨l, O, k1, k2, k3⟩
    · exact d x hx k
    · exact (List.nodup_append.mp nd2).2.2 x hx x (mem_flat.mpr ⟨l, O, k2, k3⟩) rfl⟩
theorem s_par3t (ok : SOk G C X) {i j k : Nat} {x y z : Str} {px py pz pt pt2 : Pos} {xa xb xc : Expr} {a b c : E} {kt k2 : Nat} (hi : C.N[i]? = some x) (hj : C.N[j]? = some y) (hk : C.N[k]? = some z) (li : x ∈ C.loc) (lj : y ∈ C.loc) (lk : z ∈ C.loc)
    (n1 : noStar xa = true) (n2 : noStar xb = true) (n3 : noStar xc = true) (hw : swappedStores [.Tuple [.Name x px, .Name y py, .Name z pz] kt pt] (.Tuple [xa, xb, xc] k2 pt2) X.env = pure none)
    (ha : PE X xa (Rx (wd X) (muE a) (ev G a))) (hb : PE X xb (Rx (wd X) (muE b) (ev G b))) (hc : PE X xc (Rx (wd X) (muE c) (ev G c))) :
    PS X (.Assign [.Tuple [.Name x px, .Name y py, .Name z pz] kt pt] (.Tuple [xa, xb, xc] k2 pt2) pos) (Sx (wd X) (asS (.par [i, j, k] [a, b, c])) (muS (.par [i, j, k] [a, b, c])) (ex G (.par [i, j, k] [a, b, c]))) := by
  have pn : ∀ {i : Nat} {x : Str} {p : Pos}, C.N[i]? = some x → x ∈ C.loc → PG X (.Name x p) (gName i) := fun {i x p} h l => by
    obtain ⟨h1, h2⟩ := ok.loc x l
    exact pg_name (by rw [ok.N]; exact ok.nd) (by rw [ok.N]; exact h) h1 h2
  have hpg : PG X (.Tuple [.Name x px, .Name y py, .Name z pz] kt pt) (gTup X.K 3 (gCons (gName i) (gCons (gName j) (gCons (gName k) gNil)))) := pg_tup ok.calm (pgs_cons (pn hi li) (pgs_cons (pn hj lj) (pgs_cons (pn hk lk) pgs_nil)))
  refine PS.of (ps_asg (pe_tup (pa_cons ha (pa_cons hb (pa_cons hc pa_nil (starEach_no n3)) (starEach_no n2)) (starEach_no n1))) hpg (by rfl) hw) fun D σ H ⟨Z, env, Os, q, o, h1, h2⟩ => ?_
  simp only [ex, keepAll] at h1
  simp only [muS, asS, muTs, List.append_nil] at h2
  obtain ⟨⟨ms, e9⟩, h3, h4⟩ := R.bind_ok h1
  obtain ⟨r1, h5, g1⟩ := R.bind_ok h3
  obtain ⟨⟨m1, e1⟩, h6, g2⟩ := R.bind_ok g1
  obtain ⟨⟨ms2, e8⟩, h7, g3⟩ := R.bind_ok g2
  obtain ⟨r2, h8, g4⟩ := R.bind_ok h7
  obtain ⟨⟨m2, e2⟩, h9, g5⟩ := R.bind_ok g4
  obtain ⟨⟨ms3, e7⟩, h10, g6⟩ := R.bind_ok g5
  obtain ⟨r3, h11, g7⟩ := R.bind_ok h10
  obtain ⟨⟨m3, e3⟩, h12, g8⟩ := R.bind_ok g7
  cases g8
  cases g6
  cases g3
  obtain ⟨e10, h13, h14⟩ := R.bind_ok h4
  cases h14
  simp only [setAll] at h13
  obtain ⟨il, h15⟩ := R.of_if h13
  obtain ⟨jl, h16⟩ := R.of_if h15
  obtain ⟨kl, h17⟩ := R.of_if h16
  cases h17
  obtain ⟨ma, ra, ea⟩ := r1
  obtain ⟨mb, rb, eb⟩ := r2
  obtain ⟨mc, rc, ec⟩ := r3
  refine Rx.go q h5 fun va H1 p1 => ?_
  obtain ⟨Z1, Os1, O1, q1, s1, k1, nd1, ho1⟩ := keep_post h5 h6 p1
  refine Rx.go q1 h8 fun vb H2 p2 => ?_
  obtain ⟨Z2, Os2, O2, q2, s2, k2', nd2, ho2⟩ := keep_post h8 h9 p2
  refine Rx.go q2 h11 fun vc H3 p3 => ?_
  obtain ⟨Z3, Os3, O3, q3, s3, k3', nd3, ho3⟩ := keep_post h11 h12 p3
  obtain ⟨r1', off1, nz1⟩ := kept_later q1 k1 nd1 (fun a ha => (ho1 a ha).1) s2
  have ndA : (O1 ++ Os2.flatten).Nodup := List.nodup_append.mpr ⟨(List.nodup_append.mp nd1).1, q2.nd, fun x hx y hy e => off1 x hx (e ▸ hy)⟩
  obtain ⟨r1'', off1', nz1'⟩ := kept_later q2 r1' ndA nz1 s3
  obtain ⟨r2', off2, nz2⟩ := kept_later q2 k2' nd2 (fun a ha => (ho2 a ha).1) s3
  have nA : (O1 ++ Os3.flatten).Nodup := List.nodup_append.mpr ⟨(List.nodup_append.mp nd1).1, q3.nd, fun x hx y hy e => off1' x hx (e ▸ hy)⟩
  have nB : (O2 ++ Os3.flatten).Nodup := List.nodup_append.mpr ⟨(List.nodup_append.mp nd2).1, q3.nd, fun x hx y hy e => off2 x hx (e ▸ hy)⟩
  have on1 : ∀ x ∈ O1, H x = none ∨ x ∈ Os.flatten := fun x hx => (ho1 x hx).2
  have on2 : ∀ x ∈ O2, H x = none ∨ x ∈ Os.flatten := fun x hx => by
    rcases (ho2 x hx).2 with k | k
    · exact .inl (s1.dom x k)
    · exact s1.on x k
  have s12 := s1.trans s2 (mu := muT a ++ muT b) ml mr
  have on3 : ∀ x ∈ O3, H x = none ∨ x ∈ Os.flatten := fun x hx => by
    rcases (ho3 x hx).2 with k | k
    · exact .inl (s12.dom x k)
    · exact s12.on x k
  have d21 : ∀ x ∈ O2, x ∉ O1 := fun x hx hx1 => by
    rcases (ho2 x hx).2 with k | k
    · exact k1.ne x hx1 k
    · exact (List.nodup_append.mp nd1).2.2 x hx1 x k rfl
  have d32 : ∀ x ∈ O3, x ∉ O2 := fun x hx hx1 => by
    rcases (ho3 x hx).2 with k | k
    · exact k2'.ne x hx1 k
    · exact (List.nodup_append.mp nd2).2.2 x hx1 x k rfl
  have d31 : ∀ x ∈ O3, x ∉ O1 := fun x hx hx1 => by
    rcases (ho3 x hx).2 with k | k
    · exact r1'.ne x hx1 k
    · exact off1 x hx1 k
  have s123 : Step ([i, j, k] ++ (muT a ++ (muT b ++ muT c))) Z H env Os Z3 H3 _ Os3 :=
    s12.trans s3 (fun l hl => List.mem_append_right _ (by simp at hl ⊢; rcases hl with h | h; exact .inl h; exact .inr (.inl h))) (fun l hl => List.mem_append_right _ (by simp; exact .inr (.inr hl)))
  have hm : ∀ l ∈ [i, j, k], l ∈ [i, j, k] ++ (muT a ++ (muT b ++ muT c)) := fun l hl => List.mem_append_left _ hl
  have q4 := q3.put il r1'' nA nz1'
  have s4 := s123.put (w := some m1) q3 (hm i (by simp)) il on1
  have nB2 := put_nd (i := i) nB d21 q4.nd
  have q5 := q4.put (i := j) jl r2' nB2 nz2
  have s5 := s4.put (w := some m2) q4 (hm j (by simp)) jl on2
  have nC2 := put_nd (i := i) nd3 d31 q4.nd
  have nC3 := put_nd (i := j) nC2 d32 q5.nd
  have q6 := q5.put (i := k) kl k3' nC3 fun x hx => (ho3 x hx).1
  have s6 := s5.put (w := some m3) q5 (hm k (by simp)) kl on3
  refine ⟨by show 3 ≤ sizeLine; decide, fun p hp => ⟨p, [va, vb, vc], rfl, .inl (.inl upd_same), rfl, va, [vb, vc], rfl, vb, [vc], rfl, vc, [], rfl, rfl, ?_⟩⟩
  have g : Grow H3 (L2.upd H3 p (.tup [va, vb, vc])) := Grow.upd hp
  refine h2 _ _ ⟨Z3, _, q6.grow g, s6.grow g q6, fun l hl => ?_⟩
  simp at hl
  rw [List.getElem?_set_ne (Ne.symm hl.2.2), List.getElem?_set_ne (Ne.symm hl.2.1), List.getElem?_set_ne (Ne.symm hl.1)]
end
end TR

set_option Elab.async false
set_option linter.all false
set_option maxHeartbeats 4000000
/-! while; x += number -/
namespace TR
open PySem PySem.Spec PyProof.Rows L2 StX
section
variable {G : List Fn} {C : Ctx} {X : Cx} {B : Wd} {Z Z' Z0 Z1 Z2 : Zn} {H H' H0 H1 H2 : Hp} {σ σ' σ1 : L2.St} {env env' env0 env1 en : Env} {Os Os' Os0 Os1 : List (List Addr)} {mu mu1 mu2 asl asl1 asl2 vs : List Nat} {v : V} {m : M} {d : D} {e : E} {x : Expr} {pos p1 p2 p3 : Pos} {nm : Str}
theorem s_whl (ok : SOk G C X) {n : Nat} {c : E} {body : List S} {xc : Expr} {sb : List Stmt} (hc : PT X xc (Bx (wd X) (muE c) (bRun G c))) (hb : PSs X sb (Sx (wd X) (asSs body) (muSs body) (exs G body))) :
    PS X (.While xc sb [] pos) (Sx (wd X) (asS (.whl n c body)) (muS (.whl n c body)) (ex G (.whl n c body))) := by
  refine PS.of (ps_while ok.pass hc hb) fun D σ H ⟨Z, env, Os, q, o, h1, h2⟩ => ?_
  simp only [ex] at h1
  simp only [muS, asS] at h2
  have h1' : whLoop (bRun G c) (fun en => exs G body en) n env = .ok o := h1
  refine ⟨fun k σ' H' => ∃ Z' en Os', Sat (wd X) Z' σ' H' en Os' ∧ Step (muE c ++ muSs body) Z H env Os Z' H' en Os' ∧ (∀ j, j ∉ asSs body → σ'[j]? = σ[j]?) ∧ whLoop (bRun G c) (fun en => exs G body en) k en = .ok o, ⟨n, Z, env, Os, q, Step.refl, fun _ _ => rfl, h1'⟩, ?_⟩
  rintro k σ1 H1 ⟨Z1, en, Os1, q1, s1, f1, hr⟩
  cases k with
  | zero => cases hr
  | succ k =>
    obtain ⟨⟨b, e1⟩, h3, h4⟩ := R.bind_ok hr
    refine ⟨Z1, en, Os1, q1, b, e1, h3, fun H2 ⟨Z2, Os2, q2, s2⟩ => ?_⟩
    have s12 : Step (muE c ++ muSs body) Z H env Os Z2 H2 e1 Os2 := s1.trans s2 (fun i hi => hi) (fun i hi => ml _ hi)
    cases b with
    | false =>
      dsimp only
      rw [if_neg (by simp)]
      dsimp only at h4
      rw [if_neg (by simp)] at h4
      cases h4
      exact h2 σ1 H2 ⟨Z2, Os2, q2, s12, f1⟩
    | true =>
      dsimp only
      rw [if_pos rfl]
      dsimp only at h4
      rw [if_pos rfl] at h4
      obtain ⟨o1, h5, h6⟩ := R.bind_ok h4
      refine ⟨fun σ' H' => ∃ Z' en Os', Sat (wd X) Z' σ' H' en Os' ∧ Step (muE c ++ muSs body) Z H env Os Z' H' en Os' ∧ (∀ j, j ∉ asSs body → σ'[j]? = σ[j]?) ∧ whLoop (bRun G c) (fun en => exs G body en) k en = .ok o, fun σ' H' w => ⟨k, Nat.lt_succ_self _, w⟩, Z2, e1, Os2, q2, o1, h5, ?_⟩
      cases o1 with
      | nx e4 =>
        intro σ4 H4 ⟨Z4, Os4, q4, s4, f4⟩
        exact ⟨Z4, e4, Os4, q4, s12.trans s4 (fun i hi => hi) (fun i hi => mr _ hi), fun j hj => by rw [f4 j hj, f1 j hj], h6⟩
      | br e4 =>
        cases h6
        intro σ4 H4 ⟨Z4, Os4, q4, s4, f4⟩
        exact h2 σ4 H4 ⟨Z4, Os4, q4, s12.trans s4 (fun i hi => hi) (fun i hi => mr _ hi), fun j hj => by rw [f4 j hj, f1 j hj]⟩
      | ret m e4 =>
        cases h6
        intro v H4 ⟨Z4, Os4, O, σ4, q4, s4, f4, r, nd, ho⟩
        refine h2 v H4 ⟨Z4, Os4, O, σ4, q4, s12.trans s4 (fun i hi => hi) (fun i hi => mr _ hi), fun j hj => by rw [f4 j hj, f1 j hj], r, nd, fun a ha => ⟨(ho a ha).1, ?_⟩⟩
        rcases (ho a ha).2 with k | k
        · exact .inl (s12.dom a k)
        · exact s12.on a k
theorem s_augN (ok : SOk G C X) {y : Nat} (hN : C.N[y]? = some nm) (hl : nm ∈ C.loc) (he : PE X x (Rx (wd X) (muE e) (ev G e))) :
    PS X (.AugAssign (.Name nm p1) .Add x pos) (Sx (wd X) (asS (.augN y .add e)) (muS (.augN y .add e)) (ex G (.augN y .add e))) := by
  obtain ⟨g1, g2⟩ := ok.loc nm hl
  refine PS.of (ps_aug (by rw [ok.N]; exact ok.nd) (by rw [ok.N]; exact hN) g1 he ip_add g2) fun D σ H ⟨Z, env, Os, q, o, h1, h2⟩ => ?_
  simp only [ex] at h1
  simp only [muS, asS] at h2
  obtain ⟨m0, h3, k1⟩ := R.bind_ok h1
  obtain ⟨⟨mv, rv, e1⟩, h4, k2⟩ := R.bind_ok k1
  obtain ⟨a, rfl⟩ : ∃ a, m0 = .pu (.int a) := by
    cases m0 with
    | pu dx =>
      cases dx with
      | int a => exact ⟨a, rfl⟩
      | _ => cases k2
    | _ => cases k2
  obtain ⟨b, rfl⟩ : ∃ b, mv = .pu (.int b) := by
    cases mv with
    | pu dx =>
      cases dx with
      | int a => exact ⟨a, rfl⟩
      | _ => cases k2
    | _ => cases k2
  have k3 : (do let z ← binD .add (.pu (.int a)) (.pu (.int b)); R.ok (Out.nx (List.set e1 y (some z)))) = R.ok o := k2
  obtain ⟨z, h5, k4⟩ := R.bind_ok k3
  cases k4
  have hz := bin_add_int h5
  subst hz
  obtain ⟨w, Ow, hw, hO0, rw0⟩ := q.val y _ (Env.get_ok h3)
  have := rw0.int; subst this
  refine ⟨.int a, hw, Rx.go q h4 fun vb H1 ⟨Z1, Os1, O1, q1, s1, r1, ro1⟩ => ?_⟩
  have := r1.int; subst this
  have hyl : y < e1.length := by
    rw [s1.elen]
    have := Env.get_ok h3
    exact (List.getElem?_eq_some_iff.mp this).1
  refine ⟨a, b, rfl, rfl, h2 _ _ ⟨Z1, _, q1.put (i := y) (v1 := .int (a + b)) (O1 := []) hyl (.pu (.int _)) (by simpa using q1.nd) (fun a h => nomatch h), (s1.mono fun i hi => List.mem_cons_of_mem _ hi).put (w := some (.pu (.int (a + b)))) q1 List.mem_cons_self hyl (fun a h => nomatch h), fun l hl => ?_⟩⟩
  simp at hl
  rw [List.getElem?_set_ne (Ne.symm hl)]
end
end TR

set_option Elab.async false
set_option linter.all false
set_option maxHeartbeats 8000000
set_option maxRecDepth 10000
/-! statements: the text against the small language -/
namespace TR
open PySem PySem.Spec PyProof.Rows L2 StX
def isLc : Expr → Bool
  | .ListComp .. => true
  | _ => false
def noTup : Expr → Bool
  | .Tuple .. => false
  | _ => true
/-- a name that is stored is no plain local: the values are laid into a tuple -/
def locT (C : Ctx) : Expr → Bool
  | .Name nm _ => decide (C.sc.names.lookup nm = some NameKind.local)
  | _ => false
def cellT (C : Ctx) (ts : List Expr) : Bool := ts.any fun t => !locT C t
/-- what a for walks -/
def chkI2 (G : List Fn) (C : Ctx) (it : E) (xi tg : Expr) : Bool := match it with
  | .zip a b => (match xi with
    | .Call (.Name nm _) [x, y] [] _ => nmOk C nm "zip" && isTupX tg && noStar x && noStar y && chkE G C a x && chkE G C b y
    | _ => false)
  | it => chkI G C it xi tg
mutual
def chkS (G : List Fn) (C : Ctx) : S → Stmt → Bool
  | .do_ (.star _), _ => true
  | .do_ e, .Expr x _ => noComp x && chkE G C e x
  | .asg (.v i) e, .Assign [.Name nm _] x _ => decide (C.N[i]? = some nm) && decide (nm ∈ C.loc) && (noComp x || isLc x) && chkX G C e x
  | .asg (.t ps) e, .Assign [.Tuple ts k tp] x _ => chkP C (.t ps) (.Tuple ts k tp) && noComp x && (noTup x || cellT C ts) && chkE G C e x
  | .par [i, j] [a, b], .Assign [.Tuple [.Name x px, .Name y py] _ _] (.Tuple [xa, xb] _ _) _ => decide (C.N[i]? = some x) && decide (C.N[j]? = some y) && parB C x y px py xa xb && chkE G C a xa && chkE G C b xb
  | .par [i, j, k] [a, b, c], .Assign [.Tuple [.Name x px, .Name y py, .Name z pz] _ _] (.Tuple [xa, xb, xc] _ _) _ => decide (C.N[i]? = some x) && decide (C.N[j]? = some y) && decide (C.N[k]? = some z) && decide (x ∈ C.loc) && decide (y ∈ C.loc) && decide (z ∈ C.loc) && cellT C [.Name x px, .Name y py, .Name z pz] && noStar xa && noStar xb && noStar xc && chkE G C a xa && chkE G C b xb && chkE G C c xc
  | .setI y ei e, .Assign [.Subscript (.Name nm _) xi _] x _ => varOk C y nm && plainIx xi && chkE G C ei xi && chkE G C e x
  | .augI y (.var j) .add (.cst (.int c)), .AugAssign (.Subscript (.Name nm _) xi _) .Add x _ => varOk C y nm && plainIx xi && chkE G C (.var j) xi && chkE G C (.cst (.int c)) x
  | .app y e, .Expr (.Call (.Attribute (.Name nm _) at_ ap) [x] [] cp) _ => decide (at_ = "append") && varOk C y nm && noStar x && (ap.endLine == cp.line) && chkE G C e x
  | .appI y ei e, .Expr (.Call (.Attribute (.Subscript (.Name nm _) xi _) at_ ap) [x] [] cp) _ => decide (at_ = "append") && varOk C y nm && noStar x && (ap.endLine == cp.line) && plainIx xi && chkE G C ei xi && chkE G C e x
  | .ret e, .Return (some x) _ => chkX G C e x
  | .retN, .Return none _ => true
  | .ifs c a b, .If x sa sb _ => (plainT x || chkB c x) && chkE G C c x && chkSs G C a sa && chkSs G C b sb
  | .for_ p e body, .For tg xi sb [] _ => chkP C p tg && noSet xi && chkI2 G C e xi tg && chkSs G C body sb
  | .augN y .add e, .AugAssign (.Name nm _) .Add x _ => decide (C.N[y]? = some nm) && decide (nm ∈ C.loc) && chkE G C e x
  | .whl n c body, .While xc sb [] _ => (plainT xc || chkB c xc) && chkE G C c xc && chkSs G C body sb
  | .pass, .Pass _ => true
  | .brk, .Break _ => true
  | _, _ => false
def chkSs (G : List Fn) (C : Ctx) : List S → List Stmt → Bool
  | [], [] => true
  | s :: ss, t :: ts => chkS G C s t && chkSs G C ss ts
  | _, _ => false
end
section
variable {G : List Fn} {C : Ctx} {X : Cx}
theorem lc_form {e : E} {x : Expr} (h : chkE G C e x = true) (hl : isLc x = true) : ∃ own vs elt p it cs xelt tg xi ifs scope pos, e = .lc own vs elt p it cs ∧ x = .ListComp xelt [⟨tg, xi, ifs, 0⟩] scope pos := by
  cases x <;> first | (cases hl; done) | skip
  unfold chkE at h
  split at h <;> first | (rename_i he; cases he; done) | (rename_i he; cases he; exact ⟨_, _, _, _, _, _, _, _, _, _, _, _, rfl, rfl⟩) | cases h
theorem sX (ok : XOk G C X) {e : E} {x : Expr} (h : chkX G C e x = true) : PE X x (Rx (wd X) (muE e) (ev G e)) := by
  have h0 := h
  unfold chkX at h
  split at h
  · exact (sLc2 ok h0).1
  · exact sE ok h
theorem asgV_of (ok : SOk G C X) {i : Nat} {nm : Str} {p1 pos : Pos} {e : E} {x : Expr} (hN : C.N[i]? = some nm) (hl : nm ∈ C.loc) (hc : (noComp x || isLc x) = true) (h : chkX G C e x = true) :
    PS X (.Assign [.Name nm p1] x pos) (Sx (wd X) (asS (.asg (.v i) e)) (muS (.asg (.v i) e)) (ex G (.asg (.v i) e))) := by
  refine s_asgV ?_
  have h0 := h
  unfold chkX at h
  split at h
  · rename_i vs vs1 elt p it p1' it1 cs1 xelt tg xi tg1 xi1 ifs1 scope lpos
    cases hs : swB C nm p1 scope lpos with
    | true =>
      have hloc : C.sc.names.lookup nm = some .local := by
        unfold swB at hs
        simp only [Bool.and_eq_true, decide_eq_true_eq] at hs
        exact hs.1.1
      exact (sLc2 ok.toXOk h0).2 i nm p1 pos hN hloc (by rw [sw_eq ok, hs])
    | false => exact asg_name ok hN hl (sLc2 ok.toXOk h0).1 (by rw [sw_eq ok, hs])
  cases hn : noComp x with
  | true => exact asg_name ok hN hl (sE ok.toXOk h) (sw_no hn)
  | false =>
    rw [hn] at hc
    obtain ⟨own, vs, elt, p, it, cs, xelt, tg, xi, ifs, scope, lpos, rfl, rfl⟩ := lc_form h (by simpa using hc)
    cases hs : swB C nm p1 scope lpos with
    | true =>
      have hloc : C.sc.names.lookup nm = some .local := by
        unfold swB at hs
        simp only [Bool.and_eq_true, decide_eq_true_eq] at hs
        exact hs.1.1
      exact sLc ok.toXOk h i nm p1 pos hN hloc (by rw [sw_eq ok, hs])
    | false => exact asg_name ok hN hl (sE ok.toXOk h) (by rw [sw_eq ok, hs])
theorem swT_no {x : Expr} {l : Nat} {env : PySem.Env} {ts : List Expr} {k : Nat} {p : Pos} (h : noComp x = true) : swapsWithSole [.Tuple ts k p] x l env = pure false := by
  show swapsWith x (some (.Tuple ts k p)) l env = pure false
  exact sw_no h
theorem sstT_no {x : Expr} {env : PySem.Env} {ts : List Expr} {k : Nat} {p : Pos} (h : noTup x = true) : swappedStores [.Tuple ts k p] x env = pure none := by
  unfold swappedStores
  cases x <;> first | rfl | cases h
theorem fm_lt {α β : Type} (f : α → Option β) (l : List α) (h : ∃ a ∈ l, f a = none) : (l.filterMap f).length < l.length := by
  induction l with
  | nil => obtain ⟨a, h, _⟩ := h; cases h
  | cons b l ih =>
    obtain ⟨a, ha, hf⟩ := h
    rw [List.filterMap_cons]
    rcases List.mem_cons.1 ha with rfl | ha
    · rw [hf]
      exact Nat.lt_succ_of_le (List.length_filterMap_le _ _)
    · have := ih ⟨a, ha, hf⟩
      cases f b with
      | none => exact Nat.lt_succ_of_lt this
      | some c => exact Nat.succ_lt_succ this
theorem sstT_cell (ok : SOk G C X) {x : Expr} {ts : List Expr} {k : Nat} {p : Pos} (h : (noTup x || cellT C ts) = true) : swappedStores [.Tuple ts k p] x X.env = pure none := by
  rcases (Bool.or_eq_true _ _).mp h with h | h
  · exact sstT_no h
  · cases x <;> first | (exact sstT_no rfl) | skip
    rename_i vs k2 p2
    unfold swappedStores
    simp only []
    split
    · rfl
    · split
      · rfl
      · split
        · rfl
        · rename_i hh
          exfalso
          apply hh
          rw [Bool.or_eq_true]
          left
          rw [bne_iff_ne]
          apply Nat.ne_of_lt
          apply fm_lt
          have h2 : ts.any (fun t => !locT C t) = true := h
          obtain ⟨t, ht, hn⟩ := List.any_eq_true.1 h2
          have hn : locT C t = false := by simpa using hn
          refine ⟨t, ht, ?_⟩
          cases t with
          | Name nm pos =>
            have hk : X.env.kindOf nm ≠ some NameKind.local := by
              unfold PySem.Env.kindOf; rw [ok.sc]; simpa [locT] using hn
            have h3 : (X.env.kindOf nm == some NameKind.local) = false := by
              rw [beq_eq_false_iff_ne]; exact hk
            simp only []
            rw [h3]
            rfl
          | _ => rfl
theorem sI2 (ok : XOk G C X) {p : E} {x tg : Expr} (h : chkI2 G C p x tg = true) : PI X tg x (Ix (wd X) (muE p) (iRun G p)) := by
  unfold chkI2 at h
  split at h
  · split at h
    · simp only [Bool.and_eq_true] at h
      obtain ⟨⟨⟨⟨⟨h1, h2⟩, h3⟩, h4⟩, h5⟩, h6⟩ := h
      obtain ⟨rfl, hg⟩ := nmOk_at h1
      cases tg <;> try (cases h2)
      exact w_zip ok hg (sE ok h5) (sE ok h6) h3 h4
    · cases h
  · exact sI ok h
mutual
theorem sS (ok : SOk G C X) : ∀ (s : S) (t : Stmt), chkS G C s t = true → PS X t (Sx (wd X) (asS s) (muS s) (ex G s))
  | s, t, h => by
    unfold chkS at h
    split at h
    · exact s_never
    · simp only [Bool.and_eq_true] at h
      exact s_do (sE ok.toXOk h.2) h.1
    · simp only [Bool.and_eq_true, decide_eq_true_eq] at h
      exact asgV_of ok h.1.1.1 h.1.1.2 h.1.2 h.2
    · simp only [Bool.and_eq_true] at h
      exact s_asgT ok h.1.1.1 (sE ok.toXOk h.2) (swT_no h.1.1.2) (sstT_cell ok h.1.2)
    · simp only [Bool.and_eq_true, decide_eq_true_eq] at h
      exact s_par2 ok h.1.1.1.1 h.1.1.1.2 h.1.1.2 (sE ok.toXOk h.1.2) (sE ok.toXOk h.2)
    · simp only [Bool.and_eq_true, decide_eq_true_eq] at h
      obtain ⟨⟨⟨⟨⟨⟨⟨⟨⟨⟨⟨⟨g1, g2⟩, g3⟩, g4⟩, g5⟩, g6⟩, g7⟩, g8⟩, g9⟩, g10⟩, g11⟩, g12⟩, g13⟩ := h
      exact s_par3t ok g1 g2 g3 g4 g5 g6 g8 g9 g10 (sstT_cell ok (by rw [g7, Bool.or_true])) (sE ok.toXOk g11) (sE ok.toXOk g12) (sE ok.toXOk g13)
    · simp only [Bool.and_eq_true] at h
      obtain ⟨v1, v2, v3⟩ := varOk_at h.1.1.1
      exact s_setI ok v1 v2 v3 (sE ok.toXOk h.2) (sE ok.toXOk h.1.2) h.1.1.2
    · simp only [Bool.and_eq_true] at h
      obtain ⟨v1, v2, v3⟩ := varOk_at h.1.1.1
      exact s_augI ok v1 v2 v3 (sE ok.toXOk h.2) (sE ok.toXOk h.1.2) h.1.1.2
    · simp only [Bool.and_eq_true, decide_eq_true_eq] at h
      obtain ⟨⟨⟨⟨rfl, h1⟩, h2⟩, h3⟩, h4⟩ := h
      obtain ⟨v1, v2, v3⟩ := varOk_at h1
      exact s_app ok v1 v2 v3 (sE ok.toXOk h4) h2 h3
    · simp only [Bool.and_eq_true, decide_eq_true_eq] at h
      obtain ⟨⟨⟨⟨⟨⟨rfl, h1⟩, h2⟩, h3⟩, h4⟩, h5⟩, h6⟩ := h
      obtain ⟨v1, v2, v3⟩ := varOk_at h1
      exact s_appI ok v1 v2 v3 (sE ok.toXOk h6) (sE ok.toXOk h5) h4 h2 h3
    · exact s_ret (sX ok.toXOk h)
    · exact s_retN
    · simp only [Bool.and_eq_true] at h
      exact s_ifs (sT ok.toXOk h.1.1.2 h.1.1.1) (sSs ok _ _ h.1.2) (sSs ok _ _ h.2)
    · simp only [Bool.and_eq_true] at h
      exact s_for ok h.1.1.1 (sI2 ok.toXOk h.1.2) (sSs ok _ _ h.2) h.1.1.2
    · simp only [Bool.and_eq_true, decide_eq_true_eq] at h
      exact s_augN ok h.1.1 h.1.2 (sE ok.toXOk h.2)
    · simp only [Bool.and_eq_true] at h
      exact s_whl ok (sT ok.toXOk h.1.2 h.1.1) (sSs ok _ _ h.2)
    · exact s_pass
    · exact s_brk
    · cases h
theorem sSs (ok : SOk G C X) : ∀ (ss : List S) (ts : List Stmt), chkSs G C ss ts = true → PSs X ts (Sx (wd X) (asSs ss) (muSs ss) (exs G ss))
  | [], ts, h => by
    cases ts with
    | nil => exact s_nil
    | cons t ts => simp [chkSs] at h
  | s :: ss, ts, h => by
    cases ts with
    | nil => simp [chkSs] at h
    | cons t ts =>
      simp only [chkSs, Bool.and_eq_true] at h
      exact s_cons (sS ok s t h.1) (sSs ok ss ts h.2)
end
end
end TR

set_option Elab.async false
set_option linter.all false
set_option maxHeartbeats 8000000
set_option maxRecDepth 10000
/-! defs -/
namespace TR
open PySem PySem.Spec PyProof.Rows L2 StX

def spFn (B : Wd) (n : Nat) : Fn → Sp
  | .pr f => spP B n f
  | .wr f => spW B n f
/-- a def of the module keeps its promise -/
def FnG (P : Program) (w : World) (K : PySem.W.Frag) (mg : Str → Option Value) (base : Heap) (j : Nat) (x : Str) (n : Nat) (f : Fn) : Prop :=
  ∃ (a : Addr) (fd : FuncData) (ps : List Str), mg x = some (.ref a) ∧ PySem.W.keepIn K (.ref a) = true ∧ Binds K fd ps [] ∧ ps.length = n ∧ FnOk P w K mg base CX0 j a fd ps (spFn ⟨K, P, w⟩ n f)
theorem FnG.at {P : Program} {w : World} {K : PySem.W.Frag} {mg : Str → Option Value} {base : Heap} {j : Nat} {x : Str} {n : Nat} {f : Fn} (h : FnG P w K mg base j x n f) {X : Cx} (e1 : X.prog = P) (e2 : X.w = w) (e3 : X.K = K) (e4 : X.mg = mg) (e5 : X.base = base) (hr : Room j X.A) : FnAt X x n f := by
  subst e1 e2 e3 e4 e5
  obtain ⟨a, fd, ps, h1, h2, h3, h4, h5⟩ := h
  cases f with
  | pr f => exact ⟨j, a, fd, ps, h1, h2, h3, h4, h5, hr⟩
  | wr f => exact ⟨j, a, fd, ps, h1, h2, h3, h4, h5, hr⟩
theorem FnG.mono {P : Program} {w : World} {K : PySem.W.Frag} {mg : Str → Option Value} {base : Heap} {j k : Nat} {x : Str} {n : Nat} {f : Fn} (h : FnG P w K mg base j x n f) (hk : j ≤ k) : FnG P w K mg base k x n f := by
  obtain ⟨a, fd, ps, h1, h2, h3, h4, h5⟩ := h
  exact ⟨a, fd, ps, h1, h2, h3, h4, h5.mono hk⟩
def locOf (sc : Scope) : List Str := (sc.names.filter fun y => decide (sc.names.lookup y.1 = some .local) || decide (sc.names.lookup y.1 = some .cell)).map (·.1)
def locB (C : Ctx) : Bool := C.loc.all fun x => decide (C.sc.names.lookup x = some .local) || decide (C.sc.names.lookup x = some .cell)
section
variable {P : Program} {w : World} {K : PySem.W.Frag} {mg : Str → Option Value} {base : Heap} {G : List Fn} {C : Ctx} {j : Nat}
/-- the facts of the module that a def leans on -/
structure Mk0 (P : Program) (w : World) (K : PySem.W.Frag) (mg : Str → Option Value) (base : Heap) (G : List Fn) (C : Ctx) (j : Nat) : Prop where
  bl : ∀ x ∈ bnames, mg x = none
  fns : ∀ (k : Nat) (x : Str) (n : Nat) (f : Fn), C.fn[k]? = some (x, n) → G[k]? = some f → FnG P w K mg base j x n f
  con : ∀ (k : Nat) (x : Str) (d : D), C.con[k]? = some (x, d) → ∃ v u, mg x = some u ∧ RelV v u ∧ ∀ Z H, Rp ⟨K, P, w⟩ Z H v d
theorem sok (M0 : Mk0 P w K mg base G C j) (hl : locB C = true) (hk : C.sc.kind = .function) (hN : C.N.Nodup) {qual : Str} {f : Addr} {cdv : Value} {A : Around} {outer : List PySem.Env} {s : Shared} {H : Hp} {E : XK}
    (hr : Room j (A.deeper (envOfC qual C.sc s.heap.objs.size f cdv))) : SOk G C (cxOf CX0 P w K mg base C.N qual C.sc f cdv A outer s H E).nox where
  N := rfl
  nd := hN
  sc := rfl
  calm := rfl
  hu := by
    show (A.deeper (envOfC qual C.sc s.heap.objs.size f cdv)).units + 100 < cLine
    have := hr.un
    omega
  hd := hr.hd
  bl := M0.bl
  fns := fun k x n g h1 h2 => (M0.fns k x n g h1 h2).at rfl rfl rfl rfl rfl hr
  loc := fun x hx => by
    have := List.all_eq_true.mp hl x hx
    simp only [Bool.or_eq_true, decide_eq_true_eq] at this
    exact ⟨this, .inl rfl⟩
  con := M0.con
  xe := rfl
  kind := hk
theorem start_len {N : List Str} {vs : List V} (h : vs.length ≤ N.length) : (L2.start N vs).length = N.length := by
  unfold L2.start
  rw [List.length_append, List.length_map, List.length_replicate]
  omega
theorem start_get {N : List Str} {vs : List V} {i : Nat} : (L2.start N vs)[i]? = if i < vs.length then (vs[i]?).map some else if i < N.length then some none else none := by
  unfold L2.start
  rw [List.getElem?_append]
  simp only [List.length_map, List.getElem?_map, List.getElem?_replicate]
  by_cases h : i < vs.length
  · rw [if_pos h, if_pos h]
  · rw [if_neg h, if_neg h]
    by_cases h2 : i < N.length
    · rw [if_pos (by omega), if_pos h2]
    · rw [if_neg (by omega), if_neg h2]
theorem rep_flat (n : Nat) : (List.replicate n ([] : List Addr)).flatten = [] := by simp
theorem sat_start {B : Wd} {Z : Zn} {H : Hp} {N : List Str} {vs : List V} {ds : List D} (r : RpL B Z H vs ds) (hn : ds.length ≤ N.length) (zh : ∀ a, Z a → H a ≠ none) :
    Sat B Z (L2.start N vs) H (ds.map (fun d => some (.pu d)) ++ List.replicate (N.length - ds.length) none) (List.replicate N.length []) := by
  have hl := r.length
  refine ⟨by simp; omega, by rw [start_len (by omega)]; simp; omega, fun i m e => ?_, fun i e => ?_, by simp, fun a h => by simp at h, zh⟩
  · rw [List.getElem?_append] at e
    simp only [List.length_map, List.getElem?_map, List.getElem?_replicate] at e
    by_cases h : i < ds.length
    · rw [if_pos h, List.getElem?_eq_getElem h] at e
      cases e
      obtain ⟨v, h1, h2⟩ := r.get (List.getElem?_eq_getElem h)
      refine ⟨v, [], ?_, ?_, .pu h2⟩
      · rw [start_get, if_pos (by omega), h1]; rfl
      · rw [List.getElem?_replicate, if_pos (by omega)]
    · rw [if_neg h] at e
      split at e <;> cases e
  · rw [List.getElem?_append] at e
    simp only [List.length_map, List.getElem?_map, List.getElem?_replicate] at e
    rw [List.getElem?_replicate]
    by_cases h : i < ds.length
    · rw [if_pos (by omega)]
    · rw [if_neg h] at e
      split at e
      · rw [if_pos (by omega)]
      · cases e
theorem nodup_app_sub {α : Type} {a b c : List α} (h : (a ++ b).Nodup) (hc : c.Nodup) (hs : ∀ x ∈ c, x ∈ b) : (a ++ c).Nodup := by
  obtain ⟨h1, h2, h3⟩ := List.nodup_append.mp h
  exact List.nodup_append.mpr ⟨h1, hc, fun x hx y hy => h3 x hx y (hs y hy)⟩
theorem fn_pr0 {x qual : Str} {st : Stmt} {fa : Addr} {fd : FuncData} {ps : List Str} {body : List S} (F : Fun K x qual st fa fd) (hsc : C.sc = defScope st) (S0 : FnScope C.N ps (defScope st)) (M0 : Mk0 P w K mg base G C j) (hl : locB C = true)
    (chk : chkSs G C body (defBody st) = true) : FnOk P w K mg base CX0 (j + 1) fa fd ps (spP ⟨K, P, w⟩ ps.length (runP G C.N.length body)) := by
  refine F.ok S0 (fun vs H Q E h => h.1) fun cdv A outer s H vs Q E hr hsp => ?_
  obtain ⟨hlen, Z, ds, m, zh, rl, hf, hq⟩ := hsp
  have ok := sok (qual := qual) (f := fa) (cdv := cdv) (outer := outer) (s := s) (H := H) (E := E) M0 hl (by rw [hsc]; exact S0.kind) S0.nd (by rw [hsc]; exact hr)
  refine ⟨_, hsc ▸ sSs ok body _ chk, ?_⟩
  have hn : ds.length ≤ C.N.length := by
    rw [← rl.length, hlen]
    have := congrArg List.length S0.pre
    rw [List.length_take] at this
    omega
  obtain ⟨o, h1, h2⟩ := R.bind_ok hf
  refine ⟨Z, _, _, sat_start rl hn zh, o, h1, ?_⟩
  have new : ∀ {asl mu env0 m e v H'}, RPost ⟨K, P, w⟩ asl mu (L2.start C.N vs) Z H env0 (List.replicate C.N.length []) m e v H' → NewC ⟨K, P, w⟩ Z H m v H' := by
    intro asl mu env0 m e v H' ⟨Z', Os', O, σ', q, s, f, r, nd, ho⟩
    refine ⟨fun a o e => s.keep a o e (by simp), Z', O, s.zz, fun a z => ⟨?_, q.zh a z⟩, r, (List.nodup_append.mp nd).1, fun a ha => ⟨?_, (ho a ha).1⟩⟩
    · rcases s.zn a z with k | k | k
      · exact .inl k
      · exact .inr k
      · simp at k
    · rcases (ho a ha).2 with k | k
      · exact k
      · simp at k
  cases o with
  | ret m' e =>
    cases h2
    exact fun v H' p => hq v H' (new p)
  | nx e =>
    cases h2
    intro σ' H' ⟨Z', Os', q, s, f⟩
    exact hq .non H' (new ⟨Z', Os', [], σ', q, s, f, .pu .non, by simpa using q.nd, fun a h => nomatch h⟩)
  | br e => cases h2
/-- A DEF OF DATA -/
theorem fn_pr {x qual : Str} {st : Stmt} {fa : Addr} {fd : FuncData} {ps : List Str} {body : List S} (F : Fun K x qual st fa fd) (hsc : C.sc = defScope st) (S0 : FnScope C.N ps (defScope st)) (M0 : Mk0 P w K mg base G C j) (hl : locB C = true) (hmg : mg x = some (.ref fa)) (hb : Binds K fd ps [])
    (chk : chkSs G C body (defBody st) = true) : FnG P w K mg base (j + 1) x ps.length (.pr (runP G C.N.length body)) := ⟨fa, fd, ps, hmg, F.kp, hb, rfl, fn_pr0 F hsc S0 M0 hl chk⟩
theorem fn_bad {x qual : Str} {st : Stmt} {fa : Addr} {fd : FuncData} {ps : List Str} (F : Fun K x qual st fa fd) (hmg : mg x = some (.ref fa)) (hb : Binds K fd ps []) : FnG P w K mg base j x ps.length (.pr fun _ => .bad) :=
  ⟨fa, fd, ps, hmg, F.kp, hb, rfl, ⟨fun vs H Q E h => h.1, fun A outer s H args us vs Q E hr he hb hv h => by
    obtain ⟨_, Z, ds, m, _, _, e, _⟩ := h
    cases e⟩⟩
theorem sat_start1 {B : Wd} {Z : Zn} {H : Hp} {N : List Str} {x : V} {m0 : M} {O : List Addr} {vs : List V} {ds : List D} (r : RpL B Z H vs ds) (r0 : RM B Z H x m0 O) (nd : O.Nodup) (nz : ∀ a ∈ O, ¬ Z a) (hn : ds.length + 1 ≤ N.length) (zh : ∀ a, Z a → H a ≠ none) :
    Sat B Z (L2.start N (x :: vs)) H (some m0 :: ds.map (fun d => some (.pu d)) ++ List.replicate (N.length - ds.length - 1) none) (O :: List.replicate (N.length - 1) []) := by
  have hl := r.length
  refine ⟨by simp; omega, by rw [start_len (by simp; omega)]; simp; omega, fun i m e => ?_, fun i e => ?_, by simpa using nd, fun a h => nz a (by simpa using h), zh⟩
  · cases i with
    | zero =>
      simp at e; subst e
      exact ⟨x, O, by rw [start_get]; simp, rfl, r0⟩
    | succ i =>
      simp only [List.cons_append, List.getElem?_cons_succ] at e
      rw [List.getElem?_append] at e
      simp only [List.length_map, List.getElem?_map, List.getElem?_replicate] at e
      by_cases h : i < ds.length
      · rw [if_pos h, List.getElem?_eq_getElem h] at e
        cases e
        obtain ⟨v, h1, h2⟩ := r.get (List.getElem?_eq_getElem h)
        refine ⟨v, [], ?_, ?_, .pu h2⟩
        · rw [start_get, if_pos (by simp; omega)]; simp [h1]
        · rw [List.getElem?_cons_succ, List.getElem?_replicate, if_pos (by omega)]
      · rw [if_neg h] at e
        split at e <;> cases e
  · cases i with
    | zero => simp at e
    | succ i =>
      simp only [List.cons_append, List.getElem?_cons_succ] at e
      rw [List.getElem?_append] at e
      simp only [List.length_map, List.getElem?_map, List.getElem?_replicate] at e
      rw [List.getElem?_cons_succ, List.getElem?_replicate]
      by_cases h : i < ds.length
      · rw [if_pos (by omega)]
      · rw [if_neg h] at e
        split at e
        · rw [if_pos (by omega)]
        · cases e
/-- A DEF THAT WRITES ITS FIRST PARAMETER -/
theorem fn_wr {x qual : Str} {st : Stmt} {fa : Addr} {fd : FuncData} {ps : List Str} {body : List S} (F : Fun K x qual st fa fd) (hsc : C.sc = defScope st) (S0 : FnScope C.N ps (defScope st)) (M0 : Mk0 P w K mg base G C j) (hl : locB C = true) (hmg : mg x = some (.ref fa)) (hb : Binds K fd ps [])
    (chk : chkSs G C body (defBody st) = true) (h0 : (asSs body).contains 0 = false) : FnG P w K mg base (j + 1) x ps.length (.wr (runW G 0 C.N.length body)) := by
  refine ⟨fa, fd, ps, hmg, F.kp, hb, rfl, F.ok S0 (fun vs H Q E h => h.1) fun cdv A outer s H vs Q E hr hsp => ?_⟩
  obtain ⟨hlen, Z, m0, y, ds, m, m1, O, us, zh, rfl, rl, r0, nd, nz, hf, hq⟩ := hsp
  have ok := sok (qual := qual) (f := fa) (cdv := cdv) (outer := outer) (s := s) (H := H) (E := E) M0 hl (by rw [hsc]; exact S0.kind) S0.nd (by rw [hsc]; exact hr)
  refine ⟨_, hsc ▸ sSs ok body _ chk, ?_⟩
  have hn : ds.length + 1 ≤ C.N.length := by
    rw [← rl.length]
    have := congrArg List.length S0.pre
    rw [List.length_take] at this
    simp at hlen
    omega
  obtain ⟨o, h1, h2⟩ := R.bind_ok hf
  simp only [List.take_zero, List.map_nil, List.nil_append, List.drop_zero] at h1
  refine ⟨Z, _, _, sat_start1 (N := C.N) rl r0 nd nz hn zh, o, h1, ?_⟩
  have hfl : (O :: List.replicate (C.N.length - 1) ([] : List Addr)).flatten = O := by simp
  have new : ∀ {mu env0 m' e v H'}, RPost ⟨K, P, w⟩ (asSs body) mu (L2.start C.N (y :: us)) Z H env0 (O :: List.replicate (C.N.length - 1) []) m' e v H' → e.get 0 = .ok m1 → NewW ⟨K, P, w⟩ Z H O y m' m1 v H' := by
    intro mu env0 m' e v H' ⟨Z', Os', O', σ', q, s, f, r, nd', ho⟩ hg
    obtain ⟨v0, O1, k1, k2, k3⟩ := q.val 0 m1 (Env.get_ok hg)
    have hv0 : v0 = y := by
      rw [f 0 (by simpa using h0), start_get] at k1
      simp at k1
      exact k1.symm
    subst hv0
    have hO1 : ∀ a ∈ O1, a ∈ Os'.flatten := fun a ha => mem_flat.mpr ⟨0, O1, k2, ha⟩
    refine ⟨fun a o e hn => s.keep a o e (by rw [hfl]; exact hn), s.dom, Z', O', O1, s.zz, fun a z => ⟨?_, q.zh a z⟩, r, k3, nodup_app_sub nd' (flat_mem q.nd (List.mem_of_getElem? k2)) hO1, fun a ha => ?_⟩
    · have := s.zn a z
      rw [hfl] at this
      exact this
    · rcases List.mem_append.mp ha with ha | ha
      · have := ho a ha
        rw [hfl] at this
        exact ⟨this.2, this.1⟩
      · have := s.on a (hO1 a ha)
        rw [hfl] at this
        exact ⟨this, q.nz a (hO1 a ha)⟩
  cases o with
  | ret m' e =>
    obtain ⟨m2, h3, h4⟩ := R.bind_ok h2
    cases h4
    exact fun v H' p => hq v H' (new p h3)
  | nx e =>
    obtain ⟨m2, h3, h4⟩ := R.bind_ok h2
    cases h4
    intro σ' H' ⟨Z', Os', q, s, f⟩
    exact hq .non H' (new ⟨Z', Os', [], σ', q, s, f, .pu .non, by simpa using q.nd, fun a h => nomatch h⟩ h3)
  | br e => cases h2
/-- the law's own promise, from its def's -/
def spLaw (B : Wd) (f : FP) : Sp := spP B 1 f
theorem law_sp {B : Wd} {f : FP} {H : Hp} {a : Addr} {ns : List Int} (hS : SqL B.K H a (ns.map V.int)) (hf : f [.list (ns.map .int)] = .ok (.pu (.bool true))) : spP B 1 f [.ref a] H (fun v _ => v = .bl true) fun _ _ _ => False := by
  have ri : ∀ {Z : Zn} {ns : List Int}, RpL B Z H (ns.map V.int) (ns.map .int) := by
    intro Z ns
    induction ns with
    | nil => exact .nil
    | cons n ns ih => exact .cons (.int _) ih
  have fin : ∀ {Z : Zn} {v H'}, NewC B Z H (.pu (.bool true)) v H' → v = .bl true := fun {Z v H'} ⟨_, Z', O, _, _, r, _⟩ => r.boo
  rcases hS with h | h
  · refine ⟨rfl, fun b => b = a, [.list (ns.map .int)], _, fun b e => ?_, .cons (.lst rfl h ri) .nil, hf, fun v H' n => fin n⟩
    subst e
    rcases h with h | ⟨o, h⟩ <;> (rw [h]; simp)
  · exact ⟨rfl, fun _ => False, [.list (ns.map .int)], _, fun b e => e.elim, .cons (.lsK h ri) .nil, hf, fun v H' n => fin n⟩
/-- the callees, one by one -/
def FnsOk (P : Program) (w : World) (K : PySem.W.Frag) (mg : Str → Option Value) (base : Heap) (j : Nat) : List (Str × Nat) → List Fn → Prop
  | x :: xs, f :: fs => FnG P w K mg base j x.1 x.2 f ∧ FnsOk P w K mg base j xs fs
  | _, _ => True
theorem fns_of : ∀ {xs : List (Str × Nat)} {fs : List Fn}, FnsOk P w K mg base j xs fs → ∀ (k : Nat) (x : Str) (n : Nat) (f : Fn), xs[k]? = some (x, n) → fs[k]? = some f → FnG P w K mg base j x n f
  | [], _, _, k, x, n, f, h, _ => by simp at h
  | _ :: _, [], _, k, x, n, f, _, h => by simp at h
  | y :: xs, g :: fs, h0, 0, x, n, f, h1, h2 => by
    simp at h1 h2
    subst h1 h2
    exact h0.1
  | y :: xs, g :: fs, h0, k + 1, x, n, f, h1, h2 => fns_of h0.2 k x n f (by simpa using h1) (by simpa using h2)
def ConOk (B : Wd) (mg : Str → Option Value) : List (Str × D) → Prop
  | x :: xs => (∃ v u, mg x.1 = some u ∧ RelV v u ∧ ∀ Z H, Rp B Z H v x.2) ∧ ConOk B mg xs
  | [] => True
theorem con_of {B : Wd} {mg : Str → Option Value} : ∀ {xs : List (Str × D)}, ConOk B mg xs → ∀ (k : Nat) (x : Str) (d : D), xs[k]? = some (x, d) → ∃ v u, mg x = some u ∧ RelV v u ∧ ∀ Z H, Rp B Z H v d
  | [], _, k, x, d, h => by simp at h
  | y :: xs, h0, 0, x, d, h => by
    simp at h
    subst h
    exact h0.1
  | y :: xs, h0, k + 1, x, d, h => con_of h0.2 k x d (by simpa using h)
end
end TR

set_option Elab.async false
set_option linter.all false
set_option maxRecDepth 100000
namespace LB
open PySem PySem.Spec TR
def b_L_taken : List S := [(.ifs (.cmp .gt (.sub (.var 0) (.cst (.int 3))) (.cst (.int 0))) [(.asg (.v 2) (.bin .mod (.bi .int [(.sub (.var 0) (.cst (.int 3)))]) (.var 1))), (.setI 0 (.cst (.int 3)) (.bin .fdiv (.sub (.var 0) (.cst (.int 3))) (.var 1))), (.ret (.var 2))] []), (.setI 0 (.cst (.int 1)) (.bin .add (.sub (.var 0) (.cst (.int 1))) (.cst (.int 1)))), (.ifs (.cmp .gt (.sub (.var 0) (.cst (.int 1))) (.bi .len [(.sub (.var 0) (.cst (.int 0)))])) [(.setI 0 (.cst (.int 2)) (.bin .mod (.bi .int [(.bin .add (.bin .mul (.sub (.var 0) (.cst (.int 2))) (.cst (.int 48271))) (.cst (.int 11)))]) (.cst (.int 2147483647)))), (.ret (.bin .mod (.bi .int [(.bin .fdiv (.sub (.var 0) (.cst (.int 2))) (.cst (.int 7)))]) (.var 1)))] []), (.asg (.v 3) (.sub (.sub (.var 0) (.cst (.int 0))) (.bin .sub (.sub (.var 0) (.cst (.int 1))) (.cst (.int 1))))), (.setI 0 (.cst (.int 2)) (.bin .mod (.bi .int [(.bin .add (.bin .add (.bin .mul (.sub (.var 0) (.cst (.int 2))) (.cst (.int 48271))) (.var 3)) (.cst (.int 11)))]) (.cst (.int 2147483647)))), (.ifs (.cmp .ge (.var 3) (.bin .pow (.cst (.int 10)) (.cst (.int 18)))) [(.setI 0 (.cst (.int 3)) (.bin .fdiv (.var 3) (.var 1)))] []), (.ret (.bin .mod (.bi .int [(.var 3)]) (.var 1)))]
def g_L_taken : List Fn := []
def d_L_taken : FW := runW g_L_taken 0 4 b_L_taken
def b_L_yard : List S := [(.ret (.tup [(.bin .add (.cst (.int 1)) (.callW 0 0 [(.var 1)])), (.bin .add (.cst (.int 2)) (.callW 0 0 [(.bin .sub (.var 2) (.cst (.int 1)))]))]))]
def g_L_yard : List Fn := [.wr d_L_taken]
def d_L_yard : FW := runW g_L_yard 0 3 b_L_yard
def b_L_state : List S := [(.par [2, 3] [(.lc true [4] (.lst []) (.v 4) (.rng [(.sub (.var 1) (.cst (.int 1)))]) []), (.rgl false [(.sub (.var 1) (.cst (.int 0)))])]), (.for_ (.v 5) (.rng [(.sub (.var 1) (.cst (.int 0)))]) [(.appI 2 (.callW 0 0 [(.sub (.var 1) (.cst (.int 1)))]) (.popI 3 (.callW 0 0 [(.bi .len [(.var 3)])])))]), (.ret (.bi .tuple [(.lc false [6] (.bi .tuple [(.var 6)]) (.v 6) (.var 2) [])]))]
def g_L_state : List Fn := [.wr d_L_taken]
def d_L_state : FW := runW g_L_state 0 7 b_L_state
def b_L_alike : List S := [(.ifs (.bi .istl [(.var 1)]) [(.ifs (.or (.not (.bi .istl [(.var 0)])) (.cmp .ne (.bi .islist [(.var 0)]) (.bi .islist [(.var 1)]))) [(.ret (.cst (.bool false)))] []), (.ifs (.cmp .ne (.bi .len [(.var 0)]) (.bi .len [(.var 1)])) [(.ret (.cst (.bool false)))] []), (.ret (.cmp .eq (.lc false [2] (.var 2) (.v 2) (.rng [(.bi .len [(.var 1)])]) [(.not (.call 0 [(.sub (.var 0) (.var 2)), (.sub (.var 1) (.var 2))]))]) (.lst [])))] []), (.ifs (.or (.isc false (.var 1) .none) (.bi .isstr [(.var 1)])) [(.ret (.and (.cmp .eq (.var 0) (.var 1)) (.cmp .eq (.bi .isstr [(.var 0)]) (.bi .isstr [(.var 1)]))))] []), (.ret (.and (.bi .isint [(.var 0)]) (.and (.cmp .eq (.bi .isbool [(.var 0)]) (.bi .isbool [(.var 1)])) (.cmp .eq (.var 0) (.var 1)))))]
def d_L_alike : Nat → FP
  | 0 => fun _ => .bad
  | n + 1 => runP [.pr (d_L_alike n)] 3 b_L_alike
def g_L_alike (n : Nat) : List Fn := [.pr (d_L_alike n)]
def b_f_is_integer : List S := [(.ret (.and (.bi .isint [(.var 0)]) (.not (.bi .isbool [(.var 0)]))))]
def g_f_is_integer : List Fn := []
def d_f_is_integer : FP := runP g_f_is_integer 1 b_f_is_integer
def b_f_is_in : List S := [(.ret (.and (.call 0 [(.var 0)]) (.chn .le .le (.var 1) (.var 0) (.var 2))))]
def g_f_is_in : List Fn := [.pr d_f_is_integer]
def d_f_is_in : FP := runP g_f_is_in 3 b_f_is_in
def b_f_is_list : List S := [(.ret (.and (.bi .istup [(.var 0)]) (.chn .le .le (.var 1) (.bi .len [(.var 0)]) (.var 2))))]
def g_f_is_list : List Fn := []
def d_f_is_list : FP := runP g_f_is_list 3 b_f_is_list
def b_f_need_yard : List S := [(.ifs (.or (.not (.call 1 [(.var 0), (.cst (.int 2)), (.cst (.int 2))])) (.or (.not (.call 0 [(.sub (.var 0) (.cst (.int 0))), (.cst (.int 1)), (.glb 1 (.int 7))])) (.not (.call 0 [(.sub (.var 0) (.cst (.int 1))), (.cst (.int 2)), (.glb 0 (.int 8))])))) [(.do_ (.star (.cst .none)))] [])]
def g_f_need_yard : List Fn := [.pr d_f_is_in, .pr d_f_is_list]
def d_f_need_yard : FP := runP g_f_need_yard 1 b_f_need_yard
def b_f_need_trains : List S := [(.asg (.t [(.v 2), (.v 3)]) (.var 0)), (.ifs (.not (.call 0 [(.var 1), (.var 3), (.var 3)])) [(.do_ (.star (.cst .none)))] []), (.asg (.v 4) (.dct [])), (.for_ (.t [(.v 5), (.v 6)]) (.enm (.var 1)) [(.ifs (.not (.call 0 [(.var 6), (.cst (.int 0)), (.var 2)])) [(.do_ (.star (.cst .none)))] []), (.for_ (.v 7) (.var 6) [(.ifs (.or (.not (.call 1 [(.var 7), (.cst (.int 0)), (.bin .sub (.var 2) (.cst (.int 1)))])) (.cmp .inn (.var 7) (.var 4))) [(.do_ (.star (.cst .none)))] []), (.setI 4 (.var 7) (.cst (.bool true)))])]), (.ifs (.cmp .lt (.bi .len [(.var 4)]) (.var 2)) [(.do_ (.star (.cst .none)))] [])]
def g_f_need_trains : List Fn := [.pr d_f_is_list, .pr d_f_is_in]
def d_f_need_trains : FP := runP g_f_need_trains 8 b_f_need_trains
def b_f_need_state : List S := [(.do_ (.call 0 [(.var 0)])), (.do_ (.call 1 [(.var 0), (.var 1)]))]
def g_f_need_state : List Fn := [.pr d_f_need_yard, .pr d_f_need_trains]
def d_f_need_state : FP := runP g_f_need_state 2 b_f_need_state
def b_f_need_car : List S := [(.ifs (.not (.call 0 [(.var 1), (.cst (.int 0)), (.bin .sub (.sub (.var 0) (.cst (.int 0))) (.cst (.int 1)))])) [(.do_ (.star (.cst .none)))] [])]
def g_f_need_car : List Fn := [.pr d_f_is_in]
def d_f_need_car : FP := runP g_f_need_car 2 b_f_need_car
def b_f_station_in : List S := [(.ret (.sub (.lc false [2, 3] (.var 2) (.t [(.v 2), (.v 3)]) (.enm (.var 0)) [(.cmp .inn (.var 1) (.var 3))]) (.cst (.int 0))))]
def g_f_station_in : List Fn := []
def d_f_station_in : FP := runP g_f_station_in 4 b_f_station_in
def b_f_station_of : List S := [(.do_ (.call 0 [(.var 0), (.var 1)])), (.do_ (.call 1 [(.var 0), (.var 2)])), (.ret (.call 2 [(.var 1), (.var 2)]))]
def g_f_station_of : List Fn := [.pr d_f_need_state, .pr d_f_need_car, .pr d_f_station_in]
def d_f_station_of : FP := runP g_f_station_of 3 b_f_station_of
def b_L_at : List S := [(.ret (.sub (.lc false [2] (.var 2) (.v 2) (.rng [(.bi .len [(.var 0)])]) [(.cmp .inn (.var 1) (.sub (.var 0) (.var 2)))]) (.cst (.int 0))))]
def g_L_at : List Fn := []
def d_L_at : FP := runP g_L_at 3 b_L_at
def b_f_train_of : List S := [(.do_ (.call 0 [(.var 0), (.var 1)])), (.do_ (.call 1 [(.var 0), (.var 2)])), (.ret (.sub (.var 1) (.call 2 [(.var 1), (.var 2)])))]
def g_f_train_of : List Fn := [.pr d_f_need_state, .pr d_f_need_car, .pr d_f_station_in]
def d_f_train_of : FP := runP g_f_train_of 3 b_f_train_of
def b_f_trains_in : List S := [(.ret (.lc false [1, 2] (.tup [(.var 1), (.var 2)]) (.t [(.v 1), (.v 2)]) (.enm (.var 0)) [(.cmp .ne (.var 2) (.tup []))]))]
def g_f_trains_in : List Fn := []
def d_f_trains_in : FP := runP g_f_trains_in 3 b_f_trains_in
def b_f_trains : List S := [(.do_ (.call 0 [(.var 0), (.var 1)])), (.ret (.bi .tuple [(.call 1 [(.var 1)])]))]
def g_f_trains : List Fn := [.pr d_f_need_state, .pr d_f_trains_in]
def d_f_trains : FP := runP g_f_trains 2 b_f_trains
def b_f_count_trains : List S := [(.do_ (.call 0 [(.var 0), (.var 1)])), (.ret (.bi .len [(.call 1 [(.var 1)])]))]
def g_f_count_trains : List Fn := [.pr d_f_need_state, .pr d_f_trains_in]
def d_f_count_trains : FP := runP g_f_count_trains 2 b_f_count_trains
def b_f_is_full : List S := [(.do_ (.call 0 [(.var 0), (.var 1)])), (.ret (.bi .all [(.lc false [2] (.cmp .ne (.var 2) (.tup [])) (.v 2) (.var 1) [])]))]
def g_f_is_full : List Fn := [.pr d_f_need_state]
def d_f_is_full : FP := runP g_f_is_full 3 b_f_is_full
def b_f_first_state : List S := [(.do_ (.call 0 [(.var 0)])), (.ret (.bin .add (.tup [(.rgl true [(.sub (.var 0) (.cst (.int 0)))])]) (.bin .mul (.tup [(.tup [])]) (.bin .sub (.sub (.var 0) (.cst (.int 1))) (.cst (.int 1))))))]
def g_f_first_state : List Fn := [.pr d_f_need_yard]
def d_f_first_state : FP := runP g_f_first_state 1 b_f_first_state
def b_f_longest_train : List S := [(.do_ (.call 0 [(.var 0), (.var 1)])), (.asg (.t [(.v 2), (.v 3)]) (.bi .min [(.lc false [3, 4] (.tup [(.neg (.bi .len [(.var 4)])), (.var 3)]) (.t [(.v 3), (.v 4)]) (.call 1 [(.var 1)]) [])])), (.ret (.tup [(.neg (.var 2)), (.var 3)]))]
def g_f_longest_train : List Fn := [.pr d_f_need_state, .pr d_f_trains_in]
def d_f_longest_train : FP := runP g_f_longest_train 5 b_f_longest_train
def b_L_row : List S := [(.ret (.bi .tuple [(.lc false [3] (.callW 0 0 [(.sub (.var 1) (.cst (.int 0)))]) (.v 3) (.rng [(.callW 0 0 [(.bin .add (.var 2) (.cst (.int 1)))])]) [])]))]
def g_L_row : List Fn := [.wr d_L_taken]
def d_L_row : FW := runW g_L_row 0 4 b_L_row
def b_f_need_station : List S := [(.ifs (.not (.call 0 [(.var 1), (.cst (.int 0)), (.bin .sub (.sub (.var 0) (.cst (.int 1))) (.cst (.int 1)))])) [(.do_ (.star (.cst .none)))] [])]
def g_f_need_station : List Fn := [.pr d_f_is_in]
def d_f_need_station : FP := runP g_f_need_station 2 b_f_need_station
def b_f_move_in : List S := [(.asg (.v 2) (.bin .mod (.bin .add (.var 1) (.cst (.int 1))) (.bi .len [(.var 0)]))), (.asg (.v 3) (.bi .list [(.var 0)])), (.setI 3 (.var 2) (.bin .add (.sub (.var 0) (.var 2)) (.sub (.var 0) (.var 1)))), (.setI 3 (.var 1) (.tup [])), (.ret (.bi .tuple [(.var 3)]))]
def g_f_move_in : List Fn := []
def d_f_move_in : FP := runP g_f_move_in 4 b_f_move_in
def b_f_move : List S := [(.do_ (.call 0 [(.var 0), (.var 1)])), (.do_ (.call 1 [(.var 0), (.var 2)])), (.ret (.call 2 [(.var 1), (.var 2)]))]
def g_f_move : List Fn := [.pr d_f_need_state, .pr d_f_need_station, .pr d_f_move_in]
def d_f_move : FP := runP g_f_move 3 b_f_move
def b_L_move : List S := [(.par [2, 3] [(.bi .list [(.var 0)]), (.bin .mod (.bi .int [(.bin .add (.var 1) (.cst (.int 1)))]) (.bi .len [(.var 0)]))]), (.setI 2 (.var 3) (.bin .add (.sub (.var 0) (.var 3)) (.sub (.var 0) (.var 1)))), (.setI 2 (.var 1) (.tup [])), (.ret (.bi .tuple [(.var 2)]))]
def g_L_move : List Fn := []
def d_L_move : FP := runP g_L_move 4 b_L_move
def b_f_call_in : List S := [(.ret (.call 0 [(.var 0), (.call 1 [(.var 0), (.var 1)])]))]
def g_f_call_in : List Fn := [.pr d_f_move_in, .pr d_f_station_in]
def d_f_call_in : FP := runP g_f_call_in 2 b_f_call_in
def b_f_call : List S := [(.do_ (.call 0 [(.var 0), (.var 1)])), (.do_ (.call 1 [(.var 0), (.var 2)])), (.ret (.call 2 [(.var 1), (.var 2)]))]
def g_f_call : List Fn := [.pr d_f_need_state, .pr d_f_need_car, .pr d_f_call_in]
def d_f_call : FP := runP g_f_call 3 b_f_call
def b_L_call : List S := [(.ret (.call 0 [(.var 0), (.call 1 [(.var 0), (.var 1)])]))]
def g_L_call : List Fn := [.pr d_L_move, .pr d_L_at]
def d_L_call : FP := runP g_L_call 2 b_L_call
def b_f_need_calls : List S := [(.ifs (.not (.call 0 [(.var 1), (.cst (.int 0)), (.glb 0 (.int 60))])) [(.do_ (.star (.cst .none)))] []), (.for_ (.t [(.v 2), (.v 3)]) (.enm (.var 1)) [(.ifs (.not (.call 1 [(.var 3), (.cst (.int 0)), (.bin .sub (.sub (.var 0) (.cst (.int 0))) (.cst (.int 1)))])) [(.do_ (.star (.cst .none)))] [])])]
def g_f_need_calls : List Fn := [.pr d_f_is_list, .pr d_f_is_in]
def d_f_need_calls : FP := runP g_f_need_calls 4 b_f_need_calls
def b_f_story_in : List S := [(.asg (.v 2) (.lst [(.var 0)])), (.for_ (.v 3) (.var 1) [(.app 2 (.call 0 [(.sub (.var 2) (.neg (.cst (.int 1)))), (.var 3)]))]), (.ret (.var 2))]
def g_f_story_in : List Fn := [.pr d_f_call_in]
def d_f_story_in : FP := runP g_f_story_in 4 b_f_story_in
def b_f_story : List S := [(.do_ (.call 0 [(.var 0), (.var 1)])), (.do_ (.call 1 [(.var 0), (.var 2)])), (.ret (.call 2 [(.var 1), (.var 2)]))]
def g_f_story : List Fn := [.pr d_f_need_state, .pr d_f_need_calls, .pr d_f_story_in]
def d_f_story : FP := runP g_f_story 3 b_f_story
def b_f_after : List S := [(.do_ (.call 0 [(.var 0), (.var 1)])), (.do_ (.call 1 [(.var 0), (.var 2)])), (.ret (.sub (.call 2 [(.var 1), (.var 2)]) (.neg (.cst (.int 1)))))]
def g_f_after : List Fn := [.pr d_f_need_state, .pr d_f_need_calls, .pr d_f_story_in]
def d_f_after : FP := runP g_f_after 3 b_f_after
def b_f_trains_left : List S := [(.do_ (.call 0 [(.var 0), (.var 1)])), (.do_ (.call 1 [(.var 0), (.var 2)])), (.ret (.bi .tuple [(.lc false [3] (.bi .len [(.call 3 [(.var 3)])]) (.v 3) (.call 2 [(.var 1), (.var 2)]) [])]))]
def g_f_trains_left : List Fn := [.pr d_f_need_state, .pr d_f_need_calls, .pr d_f_story_in, .pr d_f_trains_in]
def d_f_trains_left : FP := runP g_f_trains_left 4 b_f_trains_left
def b_L_taken_stations : List S := [(.ret (.lc false [1] (.var 1) (.v 1) (.rng [(.bi .len [(.var 0)])]) [(.cmp .ne (.sub (.var 0) (.var 1)) (.tup []))]))]
def g_L_taken_stations : List Fn := []
def d_L_taken_stations : FP := runP g_L_taken_stations 2 b_L_taken_stations
def b_f_after_moves : List S := [(.do_ (.call 0 [(.var 0), (.var 1)])), (.ifs (.or (.not (.call 2 [(.var 2), (.cst (.int 0)), (.glb 0 (.int 60))])) (.not (.bi .all [(.lc false [3] (.call 1 [(.var 3), (.cst (.int 0)), (.bin .sub (.sub (.var 0) (.cst (.int 1))) (.cst (.int 1)))]) (.v 3) (.var 2) [])]))) [(.do_ (.star (.cst .none)))] []), (.for_ (.v 4) (.var 2) [(.asg (.v 1) (.call 3 [(.var 1), (.var 4)]))]), (.ret (.var 1))]
def g_f_after_moves : List Fn := [.pr d_f_need_state, .pr d_f_is_in, .pr d_f_is_list, .pr d_f_move_in]
def d_f_after_moves : FP := runP g_f_after_moves 5 b_f_after_moves
end LB

set_option Elab.async false
set_option linter.all false
set_option maxRecDepth 100000
namespace LB
open PySem PySem.Spec TR
def b_f_exchanges : List S := [(.do_ (.call 0 [(.var 0), (.var 1)])), (.do_ (.call 1 [(.var 0), (.var 2)])), (.par [3, 4] [(.sub (.call 2 [(.var 1), (.var 2)]) (.neg (.cst (.int 1)))), (.lst [])]), (.for_ (.v 5) (.rng [(.bin .sub (.bi .len [(.var 2)]) (.cst (.int 1)))]) [(.asg (.v 6) (.bin .add (.bin .add (.slc (.var 2) none (some (.var 5))) (.tup [(.sub (.var 2) (.bin .add (.var 5) (.cst (.int 1)))), (.sub (.var 2) (.var 5))])) (.slc (.var 2) (some (.bin .add (.var 5) (.cst (.int 2)))) none))), (.ifs (.cmp .eq (.sub (.call 2 [(.var 1), (.var 6)]) (.neg (.cst (.int 1)))) (.var 3)) [(.app 4 (.var 5))] [])]), (.ret (.bi .tuple [(.var 4)]))]
def g_f_exchanges : List Fn := [.pr d_f_need_state, .pr d_f_need_calls, .pr d_f_story_in]
def d_f_exchanges : FP := runP g_f_exchanges 7 b_f_exchanges
def b_f_without : List S := [(.ret (.bin .add (.slc (.var 0) none (some (.var 1))) (.slc (.var 0) (some (.bin .add (.var 1) (.cst (.int 1)))) none)))]
def g_f_without : List Fn := []
def d_f_without : FP := runP g_f_without 2 b_f_without
def b_f_needless : List S := [(.do_ (.call 0 [(.var 0), (.var 1)])), (.do_ (.call 1 [(.var 0), (.var 2)])), (.asg (.v 3) (.sub (.call 2 [(.var 1), (.var 2)]) (.neg (.cst (.int 1))))), (.ret (.bi .tuple [(.lc false [4] (.var 4) (.v 4) (.rng [(.bi .len [(.var 2)])]) [(.cmp .eq (.sub (.call 2 [(.var 1), (.call 3 [(.var 2), (.var 4)])]) (.neg (.cst (.int 1)))) (.var 3))])]))]
def g_f_needless : List Fn := [.pr d_f_need_state, .pr d_f_need_calls, .pr d_f_story_in, .pr d_f_without]
def d_f_needless : FP := runP g_f_needless 5 b_f_needless
end LB

set_option Elab.async false
set_option linter.all false
set_option maxRecDepth 100000
namespace LB
open PySem PySem.Spec TR
def b_f_steps_of : List S := [(.do_ (.call 0 [(.var 0), (.var 1)])), (.do_ (.call 1 [(.var 0), (.var 2)])), (.asg (.v 3) (.bin .mul (.lst [(.cst (.int 0))]) (.sub (.var 0) (.cst (.int 0))))), (.for_ (.t [(.v 4), (.v 5)]) (.zip (.call 2 [(.var 1), (.var 2)]) (.var 2)) [(.for_ (.v 6) (.sub (.var 4) (.call 3 [(.var 4), (.var 5)])) [(.augI 3 (.var 6) .add (.cst (.int 1)))])]), (.ret (.bi .tuple [(.var 3)]))]
def g_f_steps_of : List Fn := [.pr d_f_need_state, .pr d_f_need_calls, .pr d_f_story_in, .pr d_f_station_in]
def d_f_steps_of : FP := runP g_f_steps_of 7 b_f_steps_of
def b_f_couplings : List S := [(.do_ (.call 0 [(.var 0), (.var 1)])), (.do_ (.call 1 [(.var 0), (.var 2)])), (.par [3, 4] [(.lst []), (.call 2 [(.var 1), (.var 2)])]), (.for_ (.t [(.v 5), (.v 6)]) (.enm (.var 2)) [(.asg (.v 7) (.call 3 [(.sub (.var 4) (.var 5)), (.var 6)])), (.asg (.v 8) (.sub (.sub (.var 4) (.var 5)) (.bin .mod (.bin .add (.var 7) (.cst (.int 1))) (.sub (.var 0) (.cst (.int 1)))))), (.ifs (.cmp .ne (.var 8) (.tup [])) [(.app 3 (.tup [(.var 5), (.sub (.var 8) (.neg (.cst (.int 1)))), (.sub (.sub (.sub (.var 4) (.var 5)) (.var 7)) (.cst (.int 0)))]))] [])]), (.ret (.bi .tuple [(.var 3)]))]
def g_f_couplings : List Fn := [.pr d_f_need_state, .pr d_f_need_calls, .pr d_f_story_in, .pr d_f_station_in]
def d_f_couplings : FP := runP g_f_couplings 9 b_f_couplings
def b_f_first_coupling : List S := [(.asg (.v 3) (.call 0 [(.var 0), (.var 1), (.var 2)])), (.ret (.ite (.cmp .ne (.var 3) (.tup [])) (.sub (.sub (.var 3) (.cst (.int 0))) (.cst (.int 0))) (.cst .none)))]
def g_f_first_coupling : List Fn := [.pr d_f_couplings]
def d_f_first_coupling : FP := runP g_f_first_coupling 4 b_f_first_coupling
end LB

set_option Elab.async false
set_option linter.all false
set_option maxRecDepth 100000
namespace LB
open PySem PySem.Spec TR
def b_f_is_set : List S := [(.ifs (.or (.not (.call 1 [(.var 1), (.cst (.int 0)), (.sub (.var 0) (.cst (.int 1)))])) (.not (.bi .all [(.lc false [2] (.call 0 [(.var 2), (.cst (.int 0)), (.bin .sub (.sub (.var 0) (.cst (.int 1))) (.cst (.int 1)))]) (.v 2) (.var 1) [])]))) [(.ret (.cst (.bool false)))] []), (.ret (.cmp .eq (.bi .list [(.var 1)]) (.bi .set [(.var 1), (.cst .none)])))]
def g_f_is_set : List Fn := [.pr d_f_is_in, .pr d_f_is_list]
def d_f_is_set : FP := runP g_f_is_set 3 b_f_is_set
def b_f_need_closed : List S := [(.ifs (.or (.not (.call 0 [(.var 0), (.var 1)])) (.cmp .eq (.var 1) (.tup []))) [(.do_ (.star (.cst .none)))] [])]
def g_f_need_closed : List Fn := [.pr d_f_is_set]
def d_f_need_closed : FP := runP g_f_need_closed 2 b_f_need_closed
def b_f_closed_move : List S := [(.ifs (.cmp .inn (.bin .mod (.bin .add (.var 2) (.cst (.int 1))) (.bi .len [(.var 0)])) (.var 1)) [(.ret (.var 0))] []), (.ret (.call 0 [(.var 0), (.var 2)]))]
def g_f_closed_move : List Fn := [.pr d_f_move_in]
def d_f_closed_move : FP := runP g_f_closed_move 3 b_f_closed_move
def b_f_closed_after : List S := [(.do_ (.call 0 [(.var 0), (.var 1)])), (.do_ (.call 1 [(.var 0), (.var 2)])), (.do_ (.call 2 [(.var 0), (.var 3)])), (.for_ (.v 4) (.var 3) [(.asg (.v 1) (.call 3 [(.var 1), (.var 2), (.call 4 [(.var 1), (.var 4)])]))]), (.ret (.var 1))]
def g_f_closed_after : List Fn := [.pr d_f_need_state, .pr d_f_need_closed, .pr d_f_need_calls, .pr d_f_closed_move, .pr d_f_station_in]
def d_f_closed_after : FP := runP g_f_closed_after 5 b_f_closed_after
def b_f_closed_call : List S := [(.do_ (.call 0 [(.var 0), (.var 1)])), (.do_ (.call 1 [(.var 0), (.var 2)])), (.do_ (.call 2 [(.var 0), (.var 3)])), (.ret (.call 3 [(.var 1), (.var 2), (.call 4 [(.var 1), (.var 3)])]))]
def g_f_closed_call : List Fn := [.pr d_f_need_state, .pr d_f_need_closed, .pr d_f_need_car, .pr d_f_closed_move, .pr d_f_station_in]
def d_f_closed_call : FP := runP g_f_closed_call 4 b_f_closed_call
def b_f_room_in : List S := [(.asg (.v 3) (.cst (.int 0))), (.whl 1000000 (.cmp .nin (.bin .mod (.bin .add (.bin .add (.var 2) (.var 3)) (.cst (.int 1))) (.bi .len [(.var 0)])) (.var 1)) [(.augN 3 .add (.cst (.int 1)))]), (.ret (.var 3))]
def g_f_room_in : List Fn := []
def d_f_room_in : FP := runP g_f_room_in 4 b_f_room_in
def b_f_rooms : List S := [(.do_ (.call 0 [(.var 0), (.var 1)])), (.do_ (.call 1 [(.var 0), (.var 2)])), (.asg (.v 3) (.lst [])), (.for_ (.t [(.v 4), (.v 5)]) (.call 2 [(.var 1)]) [(.app 3 (.tup [(.sub (.var 5) (.cst (.int 0))), (.call 3 [(.var 1), (.var 2), (.var 4)])]))]), (.ret (.bi .tuple [(.bi .sorted [(.var 3)])]))]
def g_f_rooms : List Fn := [.pr d_f_need_state, .pr d_f_need_closed, .pr d_f_trains_in, .pr d_f_room_in]
def d_f_rooms : FP := runP g_f_rooms 6 b_f_rooms
def b_f_car_rooms : List S := [(.do_ (.call 0 [(.var 0), (.var 1)])), (.do_ (.call 1 [(.var 0), (.var 2)])), (.ret (.bi .tuple [(.lc false [3] (.call 2 [(.var 1), (.var 2), (.call 3 [(.var 1), (.var 3)])]) (.v 3) (.rng [(.sub (.var 0) (.cst (.int 0)))]) [])]))]
def g_f_car_rooms : List Fn := [.pr d_f_need_state, .pr d_f_need_closed, .pr d_f_room_in, .pr d_f_station_in]
def d_f_car_rooms : FP := runP g_f_car_rooms 4 b_f_car_rooms
def b_f_is_shut : List S := [(.do_ (.call 0 [(.var 0), (.var 1)])), (.do_ (.call 1 [(.var 0), (.var 2)])), (.ret (.bi .all [(.lc false [3, 4] (.cmp .inn (.bin .mod (.bin .add (.var 3) (.cst (.int 1))) (.sub (.var 0) (.cst (.int 1)))) (.var 2)) (.t [(.v 3), (.v 4)]) (.call 2 [(.var 1)]) [])]))]
def g_f_is_shut : List Fn := [.pr d_f_need_state, .pr d_f_need_closed, .pr d_f_trains_in]
def d_f_is_shut : FP := runP g_f_is_shut 5 b_f_is_shut
end LB

set_option Elab.async false
set_option linter.all false
set_option maxRecDepth 100000
namespace LB
open PySem PySem.Spec TR
def b_L_word : List S := [(.asg (.v 1) (.lst [])), (.for_ (.v 2) (.rev (.var 0)) [(.asg (.v 1) (.bin .add (.var 1) (.bi .list [(.var 2)])))]), (.asg (.v 3) (.mt .index (.var 1) [(.cst (.int 0))])), (.ret (.bi .tuple [(.bin .add (.slc (.var 1) (some (.var 3)) none) (.slc (.var 1) none (some (.var 3))))]))]
def g_L_word : List Fn := []
def d_L_word : FP := runP g_L_word 4 b_L_word
def b_f_word_in : List S := [(.asg (.v 1) (.lc2 [2, 3] [3] (.var 3) (.v 2) (.rvd (.var 0)) (.v 3) (.var 2) [])), (.asg (.v 4) (.mt .index (.var 1) [(.cst (.int 0))])), (.ret (.bi .tuple [(.bin .add (.slc (.var 1) (some (.var 4)) none) (.slc (.var 1) none (some (.var 4))))]))]
def g_f_word_in : List Fn := []
def d_f_word_in : FP := runP g_f_word_in 5 b_f_word_in
def b_f_ring_word : List S := [(.do_ (.call 0 [(.var 0), (.var 1)])), (.ret (.call 1 [(.var 1)]))]
def g_f_ring_word : List Fn := [.pr d_f_need_state, .pr d_f_word_in]
def d_f_ring_word : FP := runP g_f_ring_word 2 b_f_ring_word
def b_f_same_ring : List S := [(.do_ (.call 0 [(.var 0), (.var 1)])), (.do_ (.call 1 [(.var 0), (.var 2)])), (.ret (.cmp .eq (.call 2 [(.var 1)]) (.call 2 [(.var 2)])))]
def g_f_same_ring : List Fn := [.pr d_f_need_state, .pr d_f_need_trains, .pr d_f_word_in]
def d_f_same_ring : FP := runP g_f_same_ring 3 b_f_same_ring
def b_L_done : List S := [(.for_ (.v 2) (.var 1) [(.asg (.v 0) (.call 0 [(.var 0), (.var 2)]))]), (.ret (.var 0))]
def g_L_done : List Fn := [.pr d_L_call]
def d_L_done : FP := runP g_L_done 3 b_L_done
def b_f_arcs_in : List S := [(.asg (.v 1) (.lc false [2] (.var 2) (.v 2) (.rvd (.call 0 [(.var 0)])) [])), (.asg (.v 3) (.mt .index (.lc false [4, 5] (.cmp .inn (.cst (.int 0)) (.var 5)) (.t [(.v 4), (.v 5)]) (.var 1) []) [(.cst (.bool true))])), (.ret (.bin .add (.slc (.var 1) (some (.var 3)) none) (.slc (.var 1) none (some (.var 3)))))]
def g_f_arcs_in : List Fn := [.pr d_f_trains_in]
def d_f_arcs_in : FP := runP g_f_arcs_in 6 b_f_arcs_in
def b_f_arcs : List S := [(.do_ (.call 0 [(.var 0), (.var 1)])), (.ret (.bi .tuple [(.lc false [2, 3] (.var 3) (.t [(.v 2), (.v 3)]) (.call 1 [(.var 1)]) [])]))]
def g_f_arcs : List Fn := [.pr d_f_need_state, .pr d_f_arcs_in]
def d_f_arcs : FP := runP g_f_arcs 4 b_f_arcs
def b_f_heads : List S := [(.do_ (.call 0 [(.var 0), (.var 1)])), (.ret (.bi .tuple [(.bi .sorted [(.lc false [2, 3] (.sub (.var 3) (.cst (.int 0))) (.t [(.v 2), (.v 3)]) (.call 1 [(.var 1)]) [])])]))]
def g_f_heads : List Fn := [.pr d_f_need_state, .pr d_f_trains_in]
def d_f_heads : FP := runP g_f_heads 4 b_f_heads
def b_f_cuts : List S := [(.do_ (.call 0 [(.var 0), (.var 1)])), (.ret (.bi .tuple [(.bi .sorted [(.lc false [2, 3] (.sub (.var 3) (.neg (.cst (.int 1)))) (.t [(.v 2), (.v 3)]) (.call 1 [(.var 1)]) [])])]))]
def g_f_cuts : List Fn := [.pr d_f_need_state, .pr d_f_trains_in]
def d_f_cuts : FP := runP g_f_cuts 4 b_f_cuts
end LB

set_option Elab.async false
set_option linter.all false
set_option maxRecDepth 100000
namespace LB
open PySem PySem.Spec TR
def b_f_at_once_in : List S := [(.asg (.v 2) (.bi .len [(.var 0)])), (.asg (.v 3) (.lst [])), (.for_ (.v 4) (.rng [(.var 2)]) [(.asg (.v 5) (.bin .mod (.bin .sub (.var 4) (.cst (.int 1))) (.var 2))), (.asg (.v 6) (.ite (.cmp .inn (.var 4) (.var 1)) (.tup []) (.sub (.var 0) (.var 4)))), (.app 3 (.bin .add (.var 6) (.ite (.cmp .inn (.var 5) (.var 1)) (.sub (.var 0) (.var 5)) (.tup []))))]), (.ret (.bi .tuple [(.var 3)]))]
def g_f_at_once_in : List Fn := []
def d_f_at_once_in : FP := runP g_f_at_once_in 7 b_f_at_once_in
def b_f_at_once : List S := [(.do_ (.call 0 [(.var 0), (.var 1)])), (.ifs (.not (.call 1 [(.var 0), (.var 2)])) [(.do_ (.star (.cst .none)))] []), (.ret (.call 2 [(.var 1), (.var 2)]))]
def g_f_at_once : List Fn := [.pr d_f_need_state, .pr d_f_is_set, .pr d_f_at_once_in]
def d_f_at_once : FP := runP g_f_at_once 3 b_f_at_once
def b_L_at_once : List S := [(.asg (.v 2) (.lst [])), (.for_ (.v 3) (.rng [(.bi .len [(.var 0)])]) [(.asg (.v 4) (.ite (.cmp .inn (.var 3) (.var 1)) (.tup []) (.sub (.var 0) (.var 3)))), (.app 2 (.bin .add (.var 4) (.ite (.cmp .inn (.bin .mod (.bi .int [(.bin .sub (.var 3) (.cst (.int 1)))]) (.bi .len [(.var 0)])) (.var 1)) (.sub (.var 0) (.bin .sub (.var 3) (.cst (.int 1)))) (.tup []))))]), (.ret (.bi .tuple [(.var 2)]))]
def g_L_at_once : List Fn := []
def d_L_at_once : FP := runP g_L_at_once 5 b_L_at_once
def b_f_need_groups : List S := [(.ifs (.not (.call 0 [(.var 1), (.cst (.int 0)), (.glb 0 (.int 40))])) [(.do_ (.star (.cst .none)))] []), (.for_ (.t [(.v 2), (.v 3)]) (.enm (.var 1)) [(.ifs (.not (.call 1 [(.var 0), (.var 3)])) [(.do_ (.star (.cst .none)))] [])])]
def g_f_need_groups : List Fn := [.pr d_f_is_list, .pr d_f_is_set]
def d_f_need_groups : FP := runP g_f_need_groups 4 b_f_need_groups
def b_f_after_groups : List S := [(.do_ (.call 0 [(.var 0), (.var 1)])), (.do_ (.call 1 [(.var 0), (.var 2)])), (.for_ (.v 3) (.var 2) [(.asg (.v 1) (.call 2 [(.var 1), (.var 3)]))]), (.ret (.var 1))]
def g_f_after_groups : List Fn := [.pr d_f_need_state, .pr d_f_need_groups, .pr d_f_at_once_in]
def d_f_after_groups : FP := runP g_f_after_groups 4 b_f_after_groups
def b_f_all_at_once : List S := [(.do_ (.call 0 [(.var 0), (.var 1)])), (.ifs (.not (.call 1 [(.var 2), (.cst (.int 0)), (.cst (.int 1000000))])) [(.do_ (.star (.cst .none)))] []), (.asg (.v 3) (.bin .mod (.var 2) (.sub (.var 0) (.cst (.int 1))))), (.ret (.bin .add (.slc (.var 1) (some (.bin .sub (.bi .len [(.var 1)]) (.var 3))) none) (.slc (.var 1) none (some (.bin .sub (.bi .len [(.var 1)]) (.var 3))))))]
def g_f_all_at_once : List Fn := [.pr d_f_need_state, .pr d_f_is_in]
def d_f_all_at_once : FP := runP g_f_all_at_once 4 b_f_all_at_once
def b_f_alternating : List S := [(.do_ (.call 0 [(.var 0), (.var 1)])), (.ifs (.not (.call 1 [(.var 2), (.cst (.int 0)), (.cst (.int 1000))])) [(.do_ (.star (.cst .none)))] []), (.for_ (.v 3) (.rng [(.var 2)]) [(.asg (.v 1) (.call 2 [(.var 1), (.lc false [4] (.var 4) (.v 4) (.rng [(.sub (.var 0) (.cst (.int 1)))]) [(.cmp .eq (.bin .mod (.var 4) (.cst (.int 2))) (.bin .mod (.var 3) (.cst (.int 2))))])]))]), (.ret (.var 1))]
def g_f_alternating : List Fn := [.pr d_f_need_state, .pr d_f_is_in, .pr d_f_at_once_in]
def d_f_alternating : FP := runP g_f_alternating 5 b_f_alternating
end LB

set_option Elab.async false
set_option linter.all false
set_option maxRecDepth 100000
namespace K29
open PySem PySem.Spec PyProof.Rows L2 TR LB

def topS (i : Nat) : Stmt := PySem.Challenge.pw_trainring_k29_whole_moves_at_once.main.body.getD i (.Pass ⟨0, 0, 0, 0⟩)
abbrev s_L_taken : Stmt := topS 30
def c_L_taken : TR.Ctx := { N := ["_law_row", "_law_many", "_law_found", "_law_cell"], sc := defScope s_L_taken, fn := [], con := [], loc := locOf (defScope s_L_taken) }
theorem k_L_taken : chkSs g_L_taken c_L_taken b_L_taken (defBody s_L_taken) = true := by kernel_rfl
theorem l_L_taken : locB c_L_taken = true := by kernel_rfl
theorem h_L_taken : FnScope c_L_taken.N ["_law_row", "_law_many"] (defScope s_L_taken) := ⟨rfl, rfl, rfl, by decide +kernel, rfl, by decide +kernel, by decide +kernel⟩
theorem w_L_taken : (asSs b_L_taken).contains 0 = false := by kernel_rfl
abbrev s_L_yard : Stmt := topS 32
def c_L_yard : TR.Ctx := { N := ["_law_row", "_law_cars", "_law_stations"], sc := defScope s_L_yard, fn := [("_law_taken", 2)], con := [], loc := locOf (defScope s_L_yard) }
theorem k_L_yard : chkSs g_L_yard c_L_yard b_L_yard (defBody s_L_yard) = true := by kernel_rfl
theorem l_L_yard : locB c_L_yard = true := by kernel_rfl
theorem h_L_yard : FnScope c_L_yard.N ["_law_row", "_law_cars", "_law_stations"] (defScope s_L_yard) := ⟨rfl, rfl, rfl, by decide +kernel, rfl, by decide +kernel, by decide +kernel⟩
theorem w_L_yard : (asSs b_L_yard).contains 0 = false := by kernel_rfl
abbrev s_L_state : Stmt := topS 33
def c_L_state : TR.Ctx := { N := ["_law_row", "_law_yard_here", "_law_places", "_law_left", "_law_station", "_law_turn", "_law_train"], sc := defScope s_L_state, fn := [("_law_taken", 2)], con := [], loc := locOf (defScope s_L_state) }
theorem k_L_state : chkSs g_L_state c_L_state b_L_state (defBody s_L_state) = true := by kernel_rfl
theorem l_L_state : locB c_L_state = true := by kernel_rfl
theorem h_L_state : FnScope c_L_state.N ["_law_row", "_law_yard_here"] (defScope s_L_state) := ⟨rfl, rfl, rfl, by decide +kernel, rfl, by decide +kernel, by decide +kernel⟩
theorem w_L_state : (asSs b_L_state).contains 0 = false := by kernel_rfl
abbrev s_L_alike : Stmt := topS 31

def c_L_alike : TR.Ctx := { N := ["_law_found", "_law_due", "_law_k"], sc := defScope s_L_alike, fn := [("_law_alike", 2)], con := [], loc := locOf (defScope s_L_alike) }
theorem k_L_alike (n : Nat) : chkSs (g_L_alike n) c_L_alike b_L_alike (defBody s_L_alike) = true := by kernel_rfl
theorem l_L_alike : locB c_L_alike = true := by kernel_rfl
theorem h_L_alike : FnScope c_L_alike.N ["_law_found", "_law_due"] (defScope s_L_alike) := ⟨rfl, rfl, rfl, by decide +kernel, rfl, by decide +kernel, by decide +kernel⟩
abbrev s_f_is_integer : Stmt := topS 1
def c_f_is_integer : TR.Ctx := { N := ["value"], sc := defScope s_f_is_integer, fn := [], con := [], loc := locOf (defScope s_f_is_integer) }
theorem k_f_is_integer : chkSs g_f_is_integer c_f_is_integer b_f_is_integer (defBody s_f_is_integer) = true := by kernel_rfl
theorem l_f_is_integer : locB c_f_is_integer = true := by kernel_rfl
theorem h_f_is_integer : FnScope c_f_is_integer.N ["value"] (defScope s_f_is_integer) := ⟨rfl, rfl, rfl, by decide +kernel, rfl, by decide +kernel, by decide +kernel⟩
abbrev s_f_is_in : Stmt := topS 2
def c_f_is_in : TR.Ctx := { N := ["value", "least", "most"], sc := defScope s_f_is_in, fn := [("is_integer", 1)], con := [], loc := locOf (defScope s_f_is_in) }
theorem k_f_is_in : chkSs g_f_is_in c_f_is_in b_f_is_in (defBody s_f_is_in) = true := by kernel_rfl
theorem l_f_is_in : locB c_f_is_in = true := by kernel_rfl
theorem h_f_is_in : FnScope c_f_is_in.N ["value", "least", "most"] (defScope s_f_is_in) := ⟨rfl, rfl, rfl, by decide +kernel, rfl, by decide +kernel, by decide +kernel⟩
abbrev s_f_is_list : Stmt := topS 3
def c_f_is_list : TR.Ctx := { N := ["value", "least", "most"], sc := defScope s_f_is_list, fn := [], con := [], loc := locOf (defScope s_f_is_list) }
theorem k_f_is_list : chkSs g_f_is_list c_f_is_list b_f_is_list (defBody s_f_is_list) = true := by kernel_rfl
theorem l_f_is_list : locB c_f_is_list = true := by kernel_rfl
theorem h_f_is_list : FnScope c_f_is_list.N ["value", "least", "most"] (defScope s_f_is_list) := ⟨rfl, rfl, rfl, by decide +kernel, rfl, by decide +kernel, by decide +kernel⟩
abbrev s_f_need_yard : Stmt := topS 14
def c_f_need_yard : TR.Ctx := { N := ["yard"], sc := defScope s_f_need_yard, fn := [("is_in", 3), ("is_list", 3)], con := [("MOST_STATIONS", (.int 8)), ("MOST_CARS", (.int 7))], loc := locOf (defScope s_f_need_yard) }
theorem k_f_need_yard : chkSs g_f_need_yard c_f_need_yard b_f_need_yard (defBody s_f_need_yard) = true := by kernel_rfl
theorem l_f_need_yard : locB c_f_need_yard = true := by kernel_rfl
theorem h_f_need_yard : FnScope c_f_need_yard.N ["yard"] (defScope s_f_need_yard) := ⟨rfl, rfl, rfl, by decide +kernel, rfl, by decide +kernel, by decide +kernel⟩
abbrev s_f_need_trains : Stmt := topS 15
def c_f_need_trains : TR.Ctx := { N := ["yard", "state", "cars", "stations", "met", "index", "train", "car"], sc := defScope s_f_need_trains, fn := [("is_list", 3), ("is_in", 3)], con := [], loc := locOf (defScope s_f_need_trains) }
theorem k_f_need_trains : chkSs g_f_need_trains c_f_need_trains b_f_need_trains (defBody s_f_need_trains) = true := by kernel_rfl
theorem l_f_need_trains : locB c_f_need_trains = true := by kernel_rfl
theorem h_f_need_trains : FnScope c_f_need_trains.N ["yard", "state"] (defScope s_f_need_trains) := ⟨rfl, rfl, rfl, by decide +kernel, rfl, by decide +kernel, by decide +kernel⟩
abbrev s_f_need_state : Stmt := topS 16
def c_f_need_state : TR.Ctx := { N := ["yard", "state"], sc := defScope s_f_need_state, fn := [("need_yard", 1), ("need_trains", 2)], con := [], loc := locOf (defScope s_f_need_state) }
theorem k_f_need_state : chkSs g_f_need_state c_f_need_state b_f_need_state (defBody s_f_need_state) = true := by kernel_rfl
theorem l_f_need_state : locB c_f_need_state = true := by kernel_rfl
theorem h_f_need_state : FnScope c_f_need_state.N ["yard", "state"] (defScope s_f_need_state) := ⟨rfl, rfl, rfl, by decide +kernel, rfl, by decide +kernel, by decide +kernel⟩
abbrev s_f_is_set : Stmt := topS 22
def c_f_is_set : TR.Ctx := { N := ["yard", "value", "station"], sc := defScope s_f_is_set, fn := [("is_in", 3), ("is_list", 3)], con := [], loc := locOf (defScope s_f_is_set) }
theorem k_f_is_set : chkSs g_f_is_set c_f_is_set b_f_is_set (defBody s_f_is_set) = true := by kernel_rfl
theorem l_f_is_set : locB c_f_is_set = true := by kernel_rfl
theorem h_f_is_set : FnScope c_f_is_set.N ["yard", "value"] (defScope s_f_is_set) := ⟨rfl, rfl, rfl, by decide +kernel, rfl, by decide +kernel, by decide +kernel⟩
abbrev s_f_at_once_in : Stmt := topS 23
def c_f_at_once_in : TR.Ctx := { N := ["state", "stations", "size", "found", "station", "before", "stays"], sc := defScope s_f_at_once_in, fn := [], con := [], loc := locOf (defScope s_f_at_once_in) }
theorem k_f_at_once_in : chkSs g_f_at_once_in c_f_at_once_in b_f_at_once_in (defBody s_f_at_once_in) = true := by kernel_rfl
theorem l_f_at_once_in : locB c_f_at_once_in = true := by kernel_rfl
theorem h_f_at_once_in : FnScope c_f_at_once_in.N ["state", "stations"] (defScope s_f_at_once_in) := ⟨rfl, rfl, rfl, by decide +kernel, rfl, by decide +kernel, by decide +kernel⟩
abbrev s_f_at_once : Stmt := topS 24
def c_f_at_once : TR.Ctx := { N := ["yard", "state", "stations"], sc := defScope s_f_at_once, fn := [("need_state", 2), ("is_set", 2), ("at_once_in", 2)], con := [], loc := locOf (defScope s_f_at_once) }
theorem k_f_at_once : chkSs g_f_at_once c_f_at_once b_f_at_once (defBody s_f_at_once) = true := by kernel_rfl
theorem l_f_at_once : locB c_f_at_once = true := by kernel_rfl
theorem h_f_at_once : FnScope c_f_at_once.N ["yard", "state", "stations"] (defScope s_f_at_once) := ⟨rfl, rfl, rfl, by decide +kernel, rfl, by decide +kernel, by decide +kernel⟩
abbrev s_L_at_once : Stmt := topS 35
def c_L_at_once : TR.Ctx := { N := ["_law_state_here", "_law_stations", "_law_found", "_law_station", "_law_stays"], sc := defScope s_L_at_once, fn := [], con := [], loc := locOf (defScope s_L_at_once) }
theorem k_L_at_once : chkSs g_L_at_once c_L_at_once b_L_at_once (defBody s_L_at_once) = true := by kernel_rfl
theorem l_L_at_once : locB c_L_at_once = true := by kernel_rfl
theorem h_L_at_once : FnScope c_L_at_once.N ["_law_state_here", "_law_stations"] (defScope s_L_at_once) := ⟨rfl, rfl, rfl, by decide +kernel, rfl, by decide +kernel, by decide +kernel⟩
abbrev s_f_word_in : Stmt := topS 18
def c_f_word_in : TR.Ctx := { N := ["state", "read", "train", "car", "at"], sc := defScope s_f_word_in, fn := [], con := [], loc := locOf (defScope s_f_word_in) }
theorem k_f_word_in : chkSs g_f_word_in c_f_word_in b_f_word_in (defBody s_f_word_in) = true := by kernel_rfl
theorem l_f_word_in : locB c_f_word_in = true := by kernel_rfl
theorem h_f_word_in : FnScope c_f_word_in.N ["state"] (defScope s_f_word_in) := ⟨rfl, rfl, rfl, by decide +kernel, rfl, by decide +kernel, by decide +kernel⟩
abbrev s_f_ring_word : Stmt := topS 19
def c_f_ring_word : TR.Ctx := { N := ["yard", "state"], sc := defScope s_f_ring_word, fn := [("need_state", 2), ("word_in", 1)], con := [], loc := locOf (defScope s_f_ring_word) }
theorem k_f_ring_word : chkSs g_f_ring_word c_f_ring_word b_f_ring_word (defBody s_f_ring_word) = true := by kernel_rfl
theorem l_f_ring_word : locB c_f_ring_word = true := by kernel_rfl
theorem h_f_ring_word : FnScope c_f_ring_word.N ["yard", "state"] (defScope s_f_ring_word) := ⟨rfl, rfl, rfl, by decide +kernel, rfl, by decide +kernel, by decide +kernel⟩
abbrev s_f_need_groups : Stmt := topS 25
def c_f_need_groups : TR.Ctx := { N := ["yard", "groups", "index", "stations"], sc := defScope s_f_need_groups, fn := [("is_list", 3), ("is_set", 2)], con := [("MOST_GROUPS", (.int 40))], loc := locOf (defScope s_f_need_groups) }
theorem k_f_need_groups : chkSs g_f_need_groups c_f_need_groups b_f_need_groups (defBody s_f_need_groups) = true := by kernel_rfl
theorem l_f_need_groups : locB c_f_need_groups = true := by kernel_rfl
theorem h_f_need_groups : FnScope c_f_need_groups.N ["yard", "groups"] (defScope s_f_need_groups) := ⟨rfl, rfl, rfl, by decide +kernel, rfl, by decide +kernel, by decide +kernel⟩
abbrev s_f_after_groups : Stmt := topS 26
def c_f_after_groups : TR.Ctx := { N := ["yard", "state", "groups", "stations"], sc := defScope s_f_after_groups, fn := [("need_state", 2), ("need_groups", 2), ("at_once_in", 2)], con := [], loc := locOf (defScope s_f_after_groups) }
theorem k_f_after_groups : chkSs g_f_after_groups c_f_after_groups b_f_after_groups (defBody s_f_after_groups) = true := by kernel_rfl
theorem l_f_after_groups : locB c_f_after_groups = true := by kernel_rfl
theorem h_f_after_groups : FnScope c_f_after_groups.N ["yard", "state", "groups"] (defScope s_f_after_groups) := ⟨rfl, rfl, rfl, by decide +kernel, rfl, by decide +kernel, by decide +kernel⟩
abbrev s_L_move : Stmt := topS 34
def c_L_move : TR.Ctx := { N := ["_law_state_here", "_law_station", "_law_places", "_law_goal"], sc := defScope s_L_move, fn := [], con := [], loc := locOf (defScope s_L_move) }
theorem k_L_move : chkSs g_L_move c_L_move b_L_move (defBody s_L_move) = true := by kernel_rfl
theorem l_L_move : locB c_L_move = true := by kernel_rfl
theorem h_L_move : FnScope c_L_move.N ["_law_state_here", "_law_station"] (defScope s_L_move) := ⟨rfl, rfl, rfl, by decide +kernel, rfl, by decide +kernel, by decide +kernel⟩
abbrev s_f_all_at_once : Stmt := topS 27
def c_f_all_at_once : TR.Ctx := { N := ["yard", "state", "many", "turn"], sc := defScope s_f_all_at_once, fn := [("need_state", 2), ("is_in", 3)], con := [], loc := locOf (defScope s_f_all_at_once) }
theorem k_f_all_at_once : chkSs g_f_all_at_once c_f_all_at_once b_f_all_at_once (defBody s_f_all_at_once) = true := by kernel_rfl
theorem l_f_all_at_once : locB c_f_all_at_once = true := by kernel_rfl
theorem h_f_all_at_once : FnScope c_f_all_at_once.N ["yard", "state", "many"] (defScope s_f_all_at_once) := ⟨rfl, rfl, rfl, by decide +kernel, rfl, by decide +kernel, by decide +kernel⟩
abbrev s_f_alternating : Stmt := topS 28
def c_f_alternating : TR.Ctx := { N := ["yard", "state", "many", "turn", "station"], sc := defScope s_f_alternating, fn := [("need_state", 2), ("is_in", 3), ("at_once_in", 2)], con := [], loc := locOf (defScope s_f_alternating) }
theorem k_f_alternating : chkSs g_f_alternating c_f_alternating b_f_alternating (defBody s_f_alternating) = true := by kernel_rfl
theorem l_f_alternating : locB c_f_alternating = true := by kernel_rfl
theorem h_f_alternating : FnScope c_f_alternating.N ["yard", "state", "many"] (defScope s_f_alternating) := ⟨rfl, rfl, rfl, by decide +kernel, rfl, by decide +kernel, by decide +kernel⟩
abbrev s_law : Stmt := topS 36
def b_law : List S := [(.asg (.v 1) (.lst [(.var 0), (.cst (.int 0)), (.cst (.int 8029)), (.cst (.int 0))])), (.asg (.v 2) (.callW 0 1 [(.cst (.int 7)), (.cst (.int 8))])), (.par [3, 4, 5] [(.callW 1 1 [(.var 2)]), (.cst .none), (.lst [])]), (.asg (.v 6) (.bi .tuple [(.lc false [7] (.var 7) (.v 7) (.rng [(.sub (.var 2) (.cst (.int 1)))]) [(.cmp .eq (.callW 2 1 [(.cst (.int 2))]) (.cst (.int 0)))])])), (.ifs (.not (.call 3 [(.call 4 [(.var 2), (.var 3), (.var 6)]), (.call 5 [(.var 3), (.var 6)])])) [(.ret (.cst (.bool false)))] []), (.asg (.v 4) (.var 3)), (.for_ (.v 8) (.rng [(.callW 2 1 [(.cst (.int 7))])]) [(.app 5 (.bi .tuple [(.lc false [7] (.var 7) (.v 7) (.rng [(.sub (.var 2) (.cst (.int 1)))]) [(.cmp .eq (.callW 2 1 [(.cst (.int 3))]) (.cst (.int 0)))])])), (.asg (.v 4) (.call 5 [(.var 4), (.sub (.var 5) (.neg (.cst (.int 1))))]))]), (.ifs (.or (.not (.call 3 [(.call 7 [(.var 2), (.var 3), (.bi .tuple [(.var 5)])]), (.var 4)])) (.cmp .ne (.call 6 [(.var 2), (.var 4)]) (.call 6 [(.var 2), (.var 3)]))) [(.ret (.cst (.bool false)))] []), (.ifs (.cmp .ne (.lc false [7] (.var 7) (.v 7) (.rng [(.sub (.var 2) (.cst (.int 1)))]) [(.cmp .ne (.call 4 [(.var 2), (.var 3), (.tup [(.var 7)])]) (.call 8 [(.var 3), (.var 7)]))]) (.lst [])) [(.ret (.cst (.bool false)))] []), (.asg (.v 9) (.callW 2 1 [(.cst (.int 1000))])), (.asg (.v 8) (.bin .mod (.bi .int [(.var 9)]) (.sub (.var 2) (.cst (.int 1))))), (.ifs (.not (.call 3 [(.call 9 [(.var 2), (.var 3), (.var 9)]), (.bin .add (.slc (.var 3) (some (.bin .sub (.bi .len [(.var 3)]) (.var 8))) none) (.slc (.var 3) none (some (.bin .sub (.bi .len [(.var 3)]) (.var 8)))))])) [(.ret (.cst (.bool false)))] []), (.ifs (.cmp .ne (.call 7 [(.var 2), (.var 3), (.bin .mul (.tup [(.rgl true [(.sub (.var 2) (.cst (.int 1)))])]) (.bin .mod (.bi .int [(.var 9)]) (.cst (.int 9))))]) (.call 9 [(.var 2), (.var 3), (.bin .mod (.bi .int [(.var 9)]) (.cst (.int 9)))])) [(.ret (.cst (.bool false)))] []), (.par [4, 10] [(.var 3), (.callW 2 1 [(.cst (.int 9))])]), (.for_ (.v 11) (.rng [(.var 10)]) [(.asg (.v 4) (.call 5 [(.var 4), (.lc false [7] (.var 7) (.v 7) (.rng [(.sub (.var 2) (.cst (.int 1)))]) [(.cmp .eq (.bin .mod (.bi .int [(.var 7)]) (.cst (.int 2))) (.bin .mod (.bi .int [(.var 11)]) (.cst (.int 2))))])]))]), (.ret (.call 3 [(.call 10 [(.var 2), (.var 3), (.var 10)]), (.var 4)]))]
def g_law : List Fn := [.wr d_L_yard, .wr d_L_state, .wr d_L_taken, .pr (d_L_alike 40), .pr d_f_at_once, .pr d_L_at_once, .pr d_f_ring_word, .pr d_f_after_groups, .pr d_L_move, .pr d_f_all_at_once, .pr d_f_alternating]
def d_law : FP := runP g_law 12 b_law
def c_law : TR.Ctx := { N := ["_law_script", "_law_row", "_law_yard_here", "_law_state_here", "_law_here", "_law_groups", "_law_stations", "_law_station", "_law_turn", "_law_many", "_law_steps", "_law_step"], sc := defScope s_law, fn := [("_law_yard", 3), ("_law_state", 2), ("_law_taken", 2), ("_law_alike", 2), ("at_once", 3), ("_law_at_once", 2), ("ring_word", 2), ("after_groups", 3), ("_law_move", 2), ("all_at_once", 3), ("alternating", 3)], con := [], loc := locOf (defScope s_law) }
theorem k_law : chkSs g_law c_law b_law (defBody s_law) = true := by kernel_rfl
theorem l_law : locB c_law = true := by kernel_rfl
theorem h_law : FnScope c_law.N ["_law_script"] (defScope s_law) := ⟨rfl, rfl, rfl, by decide +kernel, rfl, by decide +kernel, by decide +kernel⟩
theorem all_mk {l : PySem.W.OpenLaw} {w : World} {K : PySem.W.Frag} {h : Heap} {mg : Str → Option Value} {fa f0 f1 f2 f3 f4 f5 f6 f7 f8 f9 f10 f11 f12 f13 f14 f15 f16 f17 f18 f19 f20 f21 : Addr} (X : K.In h) (G : h.Ns mainGlobals mg) (hfa : mg "law" = some (.ref fa))
    {od0 an0 od1 an1 od2 an2 od3 an3 od4 an4 od5 an5 od6 an6 od7 an7 od8 an8 od9 an9 od10 an10 od11 an11 od12 an12 od13 an13 od14 an14 od15 an15 od16 an16 od17 an17 od18 an18 od19 an19 od20 an20 od21 an21 : Option Addr} {sl0 sl1 sl2 sl3 sl4 sl5 sl6 sl7 sl8 sl9 sl10 sl11 sl12 sl13 sl14 sl15 sl16 sl17 sl18 sl19 sl20 sl21 : Array (Option Value)} {oc0 kV0 dc0 pm0 cd0 ct0 oc1 kV1 dc1 pm1 cd1 ct1 oc2 kV2 dc2 pm2 cd2 ct2 oc3 kV3 dc3 pm3 cd3 ct3 oc4 kV4 dc4 pm4 cd4 ct4 oc5 kV5 dc5 pm5 cd5 ct5 oc6 kV6 dc6 pm6 cd6 ct6 oc7 kV7 dc7 pm7 cd7 ct7 oc8 kV8 dc8 pm8 cd8 ct8 oc9 kV9 dc9 pm9 cd9 ct9 oc10 kV10 dc10 pm10 cd10 ct10 oc11 kV11 dc11 pm11 cd11 ct11 oc12 kV12 dc12 pm12 cd12 ct12 oc13 kV13 dc13 pm13 cd13 ct13 oc14 kV14 dc14 pm14 cd14 ct14 oc15 kV15 dc15 pm15 cd15 ct15 oc16 kV16 dc16 pm16 cd16 ct16 oc17 kV17 dc17 pm17 cd17 ct17 oc18 kV18 dc18 pm18 cd18 ct18 oc19 kV19 dc19 pm19 cd19 ct19 oc20 kV20 dc20 pm20 cd20 ct20 oc21 kV21 dc21 pm21 cd21 ct21 : Value} {t0 t1 t2 : Tok}
    (a0 : PySem.W.nsIn K mainGlobals "_law_taken" = some (some (.ref f0))) (l0 : K.lookup f0 = some ⟨oc0, od0, .func (PySem.W.fnOf "_law_taken" "_law_taken" (defArgs s_L_taken) (defBody s_L_taken) (defScope s_L_taken) .none kV0 dc0 pm0 an0 cd0 ct0), sl0⟩) (c0 : PySem.W.codeIn K cd0 "_law_taken" = true) (k0 : PySem.W.keepIn K (.ref f0) = true)
    (a1 : PySem.W.nsIn K mainGlobals "_law_yard" = some (some (.ref f1))) (l1 : K.lookup f1 = some ⟨oc1, od1, .func (PySem.W.fnOf "_law_yard" "_law_yard" (defArgs s_L_yard) (defBody s_L_yard) (defScope s_L_yard) .none kV1 dc1 pm1 an1 cd1 ct1), sl1⟩) (c1 : PySem.W.codeIn K cd1 "_law_yard" = true) (k1 : PySem.W.keepIn K (.ref f1) = true)
    (a2 : PySem.W.nsIn K mainGlobals "_law_state" = some (some (.ref f2))) (l2 : K.lookup f2 = some ⟨oc2, od2, .func (PySem.W.fnOf "_law_state" "_law_state" (defArgs s_L_state) (defBody s_L_state) (defScope s_L_state) .none kV2 dc2 pm2 an2 cd2 ct2), sl2⟩) (c2 : PySem.W.codeIn K cd2 "_law_state" = true) (k2 : PySem.W.keepIn K (.ref f2) = true)
    (a3 : PySem.W.nsIn K mainGlobals "_law_alike" = some (some (.ref f3))) (l3 : K.lookup f3 = some ⟨oc3, od3, .func (PySem.W.fnOf "_law_alike" "_law_alike" (defArgs s_L_alike) (defBody s_L_alike) (defScope s_L_alike) .none kV3 dc3 pm3 an3 cd3 ct3), sl3⟩) (c3 : PySem.W.codeIn K cd3 "_law_alike" = true) (k3 : PySem.W.keepIn K (.ref f3) = true)
    (a4 : PySem.W.nsIn K mainGlobals "is_integer" = some (some (.ref f4))) (l4 : K.lookup f4 = some ⟨oc4, od4, .func (PySem.W.fnOf "is_integer" "is_integer" (defArgs s_f_is_integer) (defBody s_f_is_integer) (defScope s_f_is_integer) .none kV4 dc4 pm4 an4 cd4 ct4), sl4⟩) (c4 : PySem.W.codeIn K cd4 "is_integer" = true) (k4 : PySem.W.keepIn K (.ref f4) = true)
    (a5 : PySem.W.nsIn K mainGlobals "is_in" = some (some (.ref f5))) (l5 : K.lookup f5 = some ⟨oc5, od5, .func (PySem.W.fnOf "is_in" "is_in" (defArgs s_f_is_in) (defBody s_f_is_in) (defScope s_f_is_in) .none kV5 dc5 pm5 an5 cd5 ct5), sl5⟩) (c5 : PySem.W.codeIn K cd5 "is_in" = true) (k5 : PySem.W.keepIn K (.ref f5) = true)
    (a6 : PySem.W.nsIn K mainGlobals "is_list" = some (some (.ref f6))) (l6 : K.lookup f6 = some ⟨oc6, od6, .func (PySem.W.fnOf "is_list" "is_list" (defArgs s_f_is_list) (defBody s_f_is_list) (defScope s_f_is_list) .none kV6 dc6 pm6 an6 cd6 ct6), sl6⟩) (c6 : PySem.W.codeIn K cd6 "is_list" = true) (k6 : PySem.W.keepIn K (.ref f6) = true)
    (a7 : PySem.W.nsIn K mainGlobals "need_yard" = some (some (.ref f7))) (l7 : K.lookup f7 = some ⟨oc7, od7, .func (PySem.W.fnOf "need_yard" "need_yard" (defArgs s_f_need_yard) (defBody s_f_need_yard) (defScope s_f_need_yard) .none kV7 dc7 pm7 an7 cd7 ct7), sl7⟩) (c7 : PySem.W.codeIn K cd7 "need_yard" = true) (k7 : PySem.W.keepIn K (.ref f7) = true)
    (a8 : PySem.W.nsIn K mainGlobals "need_trains" = some (some (.ref f8))) (l8 : K.lookup f8 = some ⟨oc8, od8, .func (PySem.W.fnOf "need_trains" "need_trains" (defArgs s_f_need_trains) (defBody s_f_need_trains) (defScope s_f_need_trains) .none kV8 dc8 pm8 an8 cd8 ct8), sl8⟩) (c8 : PySem.W.codeIn K cd8 "need_trains" = true) (k8 : PySem.W.keepIn K (.ref f8) = true)
    (a9 : PySem.W.nsIn K mainGlobals "need_state" = some (some (.ref f9))) (l9 : K.lookup f9 = some ⟨oc9, od9, .func (PySem.W.fnOf "need_state" "need_state" (defArgs s_f_need_state) (defBody s_f_need_state) (defScope s_f_need_state) .none kV9 dc9 pm9 an9 cd9 ct9), sl9⟩) (c9 : PySem.W.codeIn K cd9 "need_state" = true) (k9 : PySem.W.keepIn K (.ref f9) = true)
    (a10 : PySem.W.nsIn K mainGlobals "is_set" = some (some (.ref f10))) (l10 : K.lookup f10 = some ⟨oc10, od10, .func (PySem.W.fnOf "is_set" "is_set" (defArgs s_f_is_set) (defBody s_f_is_set) (defScope s_f_is_set) .none kV10 dc10 pm10 an10 cd10 ct10), sl10⟩) (c10 : PySem.W.codeIn K cd10 "is_set" = true) (k10 : PySem.W.keepIn K (.ref f10) = true)
    (a11 : PySem.W.nsIn K mainGlobals "at_once_in" = some (some (.ref f11))) (l11 : K.lookup f11 = some ⟨oc11, od11, .func (PySem.W.fnOf "at_once_in" "at_once_in" (defArgs s_f_at_once_in) (defBody s_f_at_once_in) (defScope s_f_at_once_in) .none kV11 dc11 pm11 an11 cd11 ct11), sl11⟩) (c11 : PySem.W.codeIn K cd11 "at_once_in" = true) (k11 : PySem.W.keepIn K (.ref f11) = true)
    (a12 : PySem.W.nsIn K mainGlobals "at_once" = some (some (.ref f12))) (l12 : K.lookup f12 = some ⟨oc12, od12, .func (PySem.W.fnOf "at_once" "at_once" (defArgs s_f_at_once) (defBody s_f_at_once) (defScope s_f_at_once) .none kV12 dc12 pm12 an12 cd12 ct12), sl12⟩) (c12 : PySem.W.codeIn K cd12 "at_once" = true) (k12 : PySem.W.keepIn K (.ref f12) = true)
    (a13 : PySem.W.nsIn K mainGlobals "_law_at_once" = some (some (.ref f13))) (l13 : K.lookup f13 = some ⟨oc13, od13, .func (PySem.W.fnOf "_law_at_once" "_law_at_once" (defArgs s_L_at_once) (defBody s_L_at_once) (defScope s_L_at_once) .none kV13 dc13 pm13 an13 cd13 ct13), sl13⟩) (c13 : PySem.W.codeIn K cd13 "_law_at_once" = true) (k13 : PySem.W.keepIn K (.ref f13) = true)
    (a14 : PySem.W.nsIn K mainGlobals "word_in" = some (some (.ref f14))) (l14 : K.lookup f14 = some ⟨oc14, od14, .func (PySem.W.fnOf "word_in" "word_in" (defArgs s_f_word_in) (defBody s_f_word_in) (defScope s_f_word_in) .none kV14 dc14 pm14 an14 cd14 ct14), sl14⟩) (c14 : PySem.W.codeIn K cd14 "word_in" = true) (k14 : PySem.W.keepIn K (.ref f14) = true)
    (a15 : PySem.W.nsIn K mainGlobals "ring_word" = some (some (.ref f15))) (l15 : K.lookup f15 = some ⟨oc15, od15, .func (PySem.W.fnOf "ring_word" "ring_word" (defArgs s_f_ring_word) (defBody s_f_ring_word) (defScope s_f_ring_word) .none kV15 dc15 pm15 an15 cd15 ct15), sl15⟩) (c15 : PySem.W.codeIn K cd15 "ring_word" = true) (k15 : PySem.W.keepIn K (.ref f15) = true)
    (a16 : PySem.W.nsIn K mainGlobals "need_groups" = some (some (.ref f16))) (l16 : K.lookup f16 = some ⟨oc16, od16, .func (PySem.W.fnOf "need_groups" "need_groups" (defArgs s_f_need_groups) (defBody s_f_need_groups) (defScope s_f_need_groups) .none kV16 dc16 pm16 an16 cd16 ct16), sl16⟩) (c16 : PySem.W.codeIn K cd16 "need_groups" = true) (k16 : PySem.W.keepIn K (.ref f16) = true)
    (a17 : PySem.W.nsIn K mainGlobals "after_groups" = some (some (.ref f17))) (l17 : K.lookup f17 = some ⟨oc17, od17, .func (PySem.W.fnOf "after_groups" "after_groups" (defArgs s_f_after_groups) (defBody s_f_after_groups) (defScope s_f_after_groups) .none kV17 dc17 pm17 an17 cd17 ct17), sl17⟩) (c17 : PySem.W.codeIn K cd17 "after_groups" = true) (k17 : PySem.W.keepIn K (.ref f17) = true)
    (a18 : PySem.W.nsIn K mainGlobals "_law_move" = some (some (.ref f18))) (l18 : K.lookup f18 = some ⟨oc18, od18, .func (PySem.W.fnOf "_law_move" "_law_move" (defArgs s_L_move) (defBody s_L_move) (defScope s_L_move) .none kV18 dc18 pm18 an18 cd18 ct18), sl18⟩) (c18 : PySem.W.codeIn K cd18 "_law_move" = true) (k18 : PySem.W.keepIn K (.ref f18) = true)
    (a19 : PySem.W.nsIn K mainGlobals "all_at_once" = some (some (.ref f19))) (l19 : K.lookup f19 = some ⟨oc19, od19, .func (PySem.W.fnOf "all_at_once" "all_at_once" (defArgs s_f_all_at_once) (defBody s_f_all_at_once) (defScope s_f_all_at_once) .none kV19 dc19 pm19 an19 cd19 ct19), sl19⟩) (c19 : PySem.W.codeIn K cd19 "all_at_once" = true) (k19 : PySem.W.keepIn K (.ref f19) = true)
    (a20 : PySem.W.nsIn K mainGlobals "alternating" = some (some (.ref f20))) (l20 : K.lookup f20 = some ⟨oc20, od20, .func (PySem.W.fnOf "alternating" "alternating" (defArgs s_f_alternating) (defBody s_f_alternating) (defScope s_f_alternating) .none kV20 dc20 pm20 an20 cd20 ct20), sl20⟩) (c20 : PySem.W.codeIn K cd20 "alternating" = true) (k20 : PySem.W.keepIn K (.ref f20) = true)
    (a21 : PySem.W.nsIn K mainGlobals "law" = some (some (.ref f21))) (l21 : K.lookup f21 = some ⟨oc21, od21, .func (PySem.W.fnOf "law" "law" (defArgs s_law) (defBody s_law) (defScope s_law) .none kV21 dc21 pm21 an21 cd21 ct21), sl21⟩) (c21 : PySem.W.codeIn K cd21 "law" = true) (k21 : PySem.W.keepIn K (.ref f21) = true)
    (z0 : PySem.W.nsIn K mainGlobals "len" = some none)
    (z1 : PySem.W.nsIn K mainGlobals "abs" = some none)
    (z2 : PySem.W.nsIn K mainGlobals "max" = some none)
    (z3 : PySem.W.nsIn K mainGlobals "min" = some none)
    (z4 : PySem.W.nsIn K mainGlobals "sum" = some none)
    (z5 : PySem.W.nsIn K mainGlobals "any" = some none)
    (z6 : PySem.W.nsIn K mainGlobals "all" = some none)
    (z7 : PySem.W.nsIn K mainGlobals "sorted" = some none)
    (z8 : PySem.W.nsIn K mainGlobals "list" = some none)
    (z9 : PySem.W.nsIn K mainGlobals "tuple" = some none)
    (z10 : PySem.W.nsIn K mainGlobals "set" = some none)
    (z11 : PySem.W.nsIn K mainGlobals "int" = some none)
    (z12 : PySem.W.nsIn K mainGlobals "bool" = some none)
    (z13 : PySem.W.nsIn K mainGlobals "str" = some none)
    (z14 : PySem.W.nsIn K mainGlobals "isinstance" = some none)
    (z15 : PySem.W.nsIn K mainGlobals "range" = some none)
    (z16 : PySem.W.nsIn K mainGlobals "enumerate" = some none)
    (z17 : PySem.W.nsIn K mainGlobals "zip" = some none)
    (z18 : PySem.W.nsIn K mainGlobals "reversed" = some none)
    (m0 : PySem.W.nsIn K mainGlobals "MOST_STATIONS" = some (some (.int 8 t0)))
    (m1 : PySem.W.nsIn K mainGlobals "MOST_CARS" = some (some (.int 7 t1)))
    (m2 : PySem.W.nsIn K mainGlobals "MOST_GROUPS" = some (some (.int 40 t2))) :
    ∃ fd : FuncData, (∀ (s : Shared) (v : Value), BindsTo s fd ⟨[v], []⟩ [("_law_script", v)]) ∧ ∀ base : Heap, K.In base → base.Ns mainGlobals mg → FnOk l.prog w K mg base CX0 43 fa fd ["_law_script"] (spP ⟨K, l.prog, w⟩ 1 d_law) := by
  have e := hfa.symm.trans (PySem.W.mg_of X G a21)
  cases e
  have hbl : ∀ x ∈ bnames, mg x = none := by
    intro x hx
    simp only [bnames, List.mem_cons, List.not_mem_nil, or_false] at hx
    rcases hx with rfl | rfl | rfl | rfl | rfl | rfl | rfl | rfl | rfl | rfl | rfl | rfl | rfl | rfl | rfl | rfl | rfl | rfl | rfl
    · exact PySem.W.mg_none_of X G z0
    · exact PySem.W.mg_none_of X G z1
    · exact PySem.W.mg_none_of X G z2
    · exact PySem.W.mg_none_of X G z3
    · exact PySem.W.mg_none_of X G z4
    · exact PySem.W.mg_none_of X G z5
    · exact PySem.W.mg_none_of X G z6
    · exact PySem.W.mg_none_of X G z7
    · exact PySem.W.mg_none_of X G z8
    · exact PySem.W.mg_none_of X G z9
    · exact PySem.W.mg_none_of X G z10
    · exact PySem.W.mg_none_of X G z11
    · exact PySem.W.mg_none_of X G z12
    · exact PySem.W.mg_none_of X G z13
    · exact PySem.W.mg_none_of X G z14
    · exact PySem.W.mg_none_of X G z15
    · exact PySem.W.mg_none_of X G z16
    · exact PySem.W.mg_none_of X G z17
    · exact PySem.W.mg_none_of X G z18
  have F0 := fun_mk (st := s_L_taken) l0 c0 k0
  have F1 := fun_mk (st := s_L_yard) l1 c1 k1
  have F2 := fun_mk (st := s_L_state) l2 c2 k2
  have F3 := fun_mk (st := s_L_alike) l3 c3 k3
  have F4 := fun_mk (st := s_f_is_integer) l4 c4 k4
  have F5 := fun_mk (st := s_f_is_in) l5 c5 k5
  have F6 := fun_mk (st := s_f_is_list) l6 c6 k6
  have F7 := fun_mk (st := s_f_need_yard) l7 c7 k7
  have F8 := fun_mk (st := s_f_need_trains) l8 c8 k8
  have F9 := fun_mk (st := s_f_need_state) l9 c9 k9
  have F10 := fun_mk (st := s_f_is_set) l10 c10 k10
  have F11 := fun_mk (st := s_f_at_once_in) l11 c11 k11
  have F12 := fun_mk (st := s_f_at_once) l12 c12 k12
  have F13 := fun_mk (st := s_L_at_once) l13 c13 k13
  have F14 := fun_mk (st := s_f_word_in) l14 c14 k14
  have F15 := fun_mk (st := s_f_ring_word) l15 c15 k15
  have F16 := fun_mk (st := s_f_need_groups) l16 c16 k16
  have F17 := fun_mk (st := s_f_after_groups) l17 c17 k17
  have F18 := fun_mk (st := s_L_move) l18 c18 k18
  have F19 := fun_mk (st := s_f_all_at_once) l19 c19 k19
  have F20 := fun_mk (st := s_f_alternating) l20 c20 k20
  have F21 := fun_mk (st := s_law) l21 c21 k21
  refine ⟨(PySem.W.fnOf "law" "law" (defArgs s_law) (defBody s_law) (defScope s_law) .none kV21 dc21 pm21 an21 cd21 ct21), fun s v => .of_eq rfl, fun base _ _ => ?_⟩
  have B0 := F0.binds (ps := ["_law_row", "_law_many"]) fun _ _ _ _ _ _ us hl => match us, hl with | [_, _], _ => rfl
  have N0 : FnG l.prog w K mg base 1 "_law_taken" 2 (.wr d_L_taken) := fn_wr (C := c_L_taken) (G := g_L_taken) (j := 0) F0 rfl h_L_taken ⟨hbl, fns_of (xs := c_L_taken.fn) (fs := g_L_taken) trivial, con_of (xs := c_L_taken.con) trivial⟩ l_L_taken (PySem.W.mg_of X G a0) B0 k_L_taken w_L_taken
  have B1 := F1.binds (ps := ["_law_row", "_law_cars", "_law_stations"]) fun _ _ _ _ _ _ us hl => match us, hl with | [_, _, _], _ => rfl
  have N1 : FnG l.prog w K mg base 2 "_law_yard" 3 (.wr d_L_yard) := fn_wr (C := c_L_yard) (G := g_L_yard) (j := 1) F1 rfl h_L_yard ⟨hbl, fns_of (xs := c_L_yard.fn) (fs := g_L_yard) ⟨N0.mono (by decide), trivial⟩, con_of (xs := c_L_yard.con) trivial⟩ l_L_yard (PySem.W.mg_of X G a1) B1 k_L_yard w_L_yard
  have B2 := F2.binds (ps := ["_law_row", "_law_yard_here"]) fun _ _ _ _ _ _ us hl => match us, hl with | [_, _], _ => rfl
  have N2 : FnG l.prog w K mg base 2 "_law_state" 2 (.wr d_L_state) := fn_wr (C := c_L_state) (G := g_L_state) (j := 1) F2 rfl h_L_state ⟨hbl, fns_of (xs := c_L_state.fn) (fs := g_L_state) ⟨N0.mono (by decide), trivial⟩, con_of (xs := c_L_state.con) trivial⟩ l_L_state (PySem.W.mg_of X G a2) B2 k_L_state w_L_state
  have B3 := F3.binds (ps := ["_law_found", "_law_due"]) fun _ _ _ _ _ _ us hl => match us, hl with | [_, _], _ => rfl
  have N3 : ∀ n : Nat, FnG l.prog w K mg base (1 + n) "_law_alike" 2 (.pr (d_L_alike n)) := by
    intro n
    induction n with
    | zero => exact fn_bad F3 (PySem.W.mg_of X G a3) B3
    | succ n ih => exact fn_pr (C := c_L_alike) (G := g_L_alike n) F3 rfl h_L_alike ⟨hbl, fns_of (xs := c_L_alike.fn) (fs := g_L_alike n) ⟨ih, trivial⟩, con_of (xs := c_L_alike.con) trivial⟩ l_L_alike (PySem.W.mg_of X G a3) B3 (k_L_alike n)
  have B4 := F4.binds (ps := ["value"]) fun _ _ _ _ _ _ us hl => match us, hl with | [_], _ => rfl
  have N4 : FnG l.prog w K mg base 1 "is_integer" 1 (.pr d_f_is_integer) := fn_pr (C := c_f_is_integer) (G := g_f_is_integer) (j := 0) F4 rfl h_f_is_integer ⟨hbl, fns_of (xs := c_f_is_integer.fn) (fs := g_f_is_integer) trivial, con_of (xs := c_f_is_integer.con) trivial⟩ l_f_is_integer (PySem.W.mg_of X G a4) B4 k_f_is_integer
  have B5 := F5.binds (ps := ["value", "least", "most"]) fun _ _ _ _ _ _ us hl => match us, hl with | [_, _, _], _ => rfl
  have N5 : FnG l.prog w K mg base 2 "is_in" 3 (.pr d_f_is_in) := fn_pr (C := c_f_is_in) (G := g_f_is_in) (j := 1) F5 rfl h_f_is_in ⟨hbl, fns_of (xs := c_f_is_in.fn) (fs := g_f_is_in) ⟨N4.mono (by decide), trivial⟩, con_of (xs := c_f_is_in.con) trivial⟩ l_f_is_in (PySem.W.mg_of X G a5) B5 k_f_is_in
  have B6 := F6.binds (ps := ["value", "least", "most"]) fun _ _ _ _ _ _ us hl => match us, hl with | [_, _, _], _ => rfl
  have N6 : FnG l.prog w K mg base 1 "is_list" 3 (.pr d_f_is_list) := fn_pr (C := c_f_is_list) (G := g_f_is_list) (j := 0) F6 rfl h_f_is_list ⟨hbl, fns_of (xs := c_f_is_list.fn) (fs := g_f_is_list) trivial, con_of (xs := c_f_is_list.con) trivial⟩ l_f_is_list (PySem.W.mg_of X G a6) B6 k_f_is_list
  have B7 := F7.binds (ps := ["yard"]) fun _ _ _ _ _ _ us hl => match us, hl with | [_], _ => rfl
  have N7 : FnG l.prog w K mg base 3 "need_yard" 1 (.pr d_f_need_yard) := fn_pr (C := c_f_need_yard) (G := g_f_need_yard) (j := 2) F7 rfl h_f_need_yard ⟨hbl, fns_of (xs := c_f_need_yard.fn) (fs := g_f_need_yard) ⟨N5.mono (by decide), N6.mono (by decide), trivial⟩, con_of (xs := c_f_need_yard.con) ⟨⟨.int 8, .int 8 _, PySem.W.mg_of X G m0, ⟨_, rfl⟩, fun _ _ => .int _⟩, ⟨.int 7, .int 7 _, PySem.W.mg_of X G m1, ⟨_, rfl⟩, fun _ _ => .int _⟩, trivial⟩⟩ l_f_need_yard (PySem.W.mg_of X G a7) B7 k_f_need_yard
  have B8 := F8.binds (ps := ["yard", "state"]) fun _ _ _ _ _ _ us hl => match us, hl with | [_, _], _ => rfl
  have N8 : FnG l.prog w K mg base 3 "need_trains" 2 (.pr d_f_need_trains) := fn_pr (C := c_f_need_trains) (G := g_f_need_trains) (j := 2) F8 rfl h_f_need_trains ⟨hbl, fns_of (xs := c_f_need_trains.fn) (fs := g_f_need_trains) ⟨N6.mono (by decide), N5.mono (by decide), trivial⟩, con_of (xs := c_f_need_trains.con) trivial⟩ l_f_need_trains (PySem.W.mg_of X G a8) B8 k_f_need_trains
  have B9 := F9.binds (ps := ["yard", "state"]) fun _ _ _ _ _ _ us hl => match us, hl with | [_, _], _ => rfl
  have N9 : FnG l.prog w K mg base 4 "need_state" 2 (.pr d_f_need_state) := fn_pr (C := c_f_need_state) (G := g_f_need_state) (j := 3) F9 rfl h_f_need_state ⟨hbl, fns_of (xs := c_f_need_state.fn) (fs := g_f_need_state) ⟨N7.mono (by decide), N8.mono (by decide), trivial⟩, con_of (xs := c_f_need_state.con) trivial⟩ l_f_need_state (PySem.W.mg_of X G a9) B9 k_f_need_state
  have B10 := F10.binds (ps := ["yard", "value"]) fun _ _ _ _ _ _ us hl => match us, hl with | [_, _], _ => rfl
  have N10 : FnG l.prog w K mg base 3 "is_set" 2 (.pr d_f_is_set) := fn_pr (C := c_f_is_set) (G := g_f_is_set) (j := 2) F10 rfl h_f_is_set ⟨hbl, fns_of (xs := c_f_is_set.fn) (fs := g_f_is_set) ⟨N5.mono (by decide), N6.mono (by decide), trivial⟩, con_of (xs := c_f_is_set.con) trivial⟩ l_f_is_set (PySem.W.mg_of X G a10) B10 k_f_is_set
  have B11 := F11.binds (ps := ["state", "stations"]) fun _ _ _ _ _ _ us hl => match us, hl with | [_, _], _ => rfl
  have N11 : FnG l.prog w K mg base 1 "at_once_in" 2 (.pr d_f_at_once_in) := fn_pr (C := c_f_at_once_in) (G := g_f_at_once_in) (j := 0) F11 rfl h_f_at_once_in ⟨hbl, fns_of (xs := c_f_at_once_in.fn) (fs := g_f_at_once_in) trivial, con_of (xs := c_f_at_once_in.con) trivial⟩ l_f_at_once_in (PySem.W.mg_of X G a11) B11 k_f_at_once_in
  have B12 := F12.binds (ps := ["yard", "state", "stations"]) fun _ _ _ _ _ _ us hl => match us, hl with | [_, _, _], _ => rfl
  have N12 : FnG l.prog w K mg base 5 "at_once" 3 (.pr d_f_at_once) := fn_pr (C := c_f_at_once) (G := g_f_at_once) (j := 4) F12 rfl h_f_at_once ⟨hbl, fns_of (xs := c_f_at_once.fn) (fs := g_f_at_once) ⟨N9.mono (by decide), N10.mono (by decide), N11.mono (by decide), trivial⟩, con_of (xs := c_f_at_once.con) trivial⟩ l_f_at_once (PySem.W.mg_of X G a12) B12 k_f_at_once
  have B13 := F13.binds (ps := ["_law_state_here", "_law_stations"]) fun _ _ _ _ _ _ us hl => match us, hl with | [_, _], _ => rfl
  have N13 : FnG l.prog w K mg base 1 "_law_at_once" 2 (.pr d_L_at_once) := fn_pr (C := c_L_at_once) (G := g_L_at_once) (j := 0) F13 rfl h_L_at_once ⟨hbl, fns_of (xs := c_L_at_once.fn) (fs := g_L_at_once) trivial, con_of (xs := c_L_at_once.con) trivial⟩ l_L_at_once (PySem.W.mg_of X G a13) B13 k_L_at_once
  have B14 := F14.binds (ps := ["state"]) fun _ _ _ _ _ _ us hl => match us, hl with | [_], _ => rfl
  have N14 : FnG l.prog w K mg base 1 "word_in" 1 (.pr d_f_word_in) := fn_pr (C := c_f_word_in) (G := g_f_word_in) (j := 0) F14 rfl h_f_word_in ⟨hbl, fns_of (xs := c_f_word_in.fn) (fs := g_f_word_in) trivial, con_of (xs := c_f_word_in.con) trivial⟩ l_f_word_in (PySem.W.mg_of X G a14) B14 k_f_word_in
  have B15 := F15.binds (ps := ["yard", "state"]) fun _ _ _ _ _ _ us hl => match us, hl with | [_, _], _ => rfl
  have N15 : FnG l.prog w K mg base 5 "ring_word" 2 (.pr d_f_ring_word) := fn_pr (C := c_f_ring_word) (G := g_f_ring_word) (j := 4) F15 rfl h_f_ring_word ⟨hbl, fns_of (xs := c_f_ring_word.fn) (fs := g_f_ring_word) ⟨N9.mono (by decide), N14.mono (by decide), trivial⟩, con_of (xs := c_f_ring_word.con) trivial⟩ l_f_ring_word (PySem.W.mg_of X G a15) B15 k_f_ring_word
  have B16 := F16.binds (ps := ["yard", "groups"]) fun _ _ _ _ _ _ us hl => match us, hl with | [_, _], _ => rfl
  have N16 : FnG l.prog w K mg base 4 "need_groups" 2 (.pr d_f_need_groups) := fn_pr (C := c_f_need_groups) (G := g_f_need_groups) (j := 3) F16 rfl h_f_need_groups ⟨hbl, fns_of (xs := c_f_need_groups.fn) (fs := g_f_need_groups) ⟨N6.mono (by decide), N10.mono (by decide), trivial⟩, con_of (xs := c_f_need_groups.con) ⟨⟨.int 40, .int 40 _, PySem.W.mg_of X G m2, ⟨_, rfl⟩, fun _ _ => .int _⟩, trivial⟩⟩ l_f_need_groups (PySem.W.mg_of X G a16) B16 k_f_need_groups
  have B17 := F17.binds (ps := ["yard", "state", "groups"]) fun _ _ _ _ _ _ us hl => match us, hl with | [_, _, _], _ => rfl
  have N17 : FnG l.prog w K mg base 5 "after_groups" 3 (.pr d_f_after_groups) := fn_pr (C := c_f_after_groups) (G := g_f_after_groups) (j := 4) F17 rfl h_f_after_groups ⟨hbl, fns_of (xs := c_f_after_groups.fn) (fs := g_f_after_groups) ⟨N9.mono (by decide), N16.mono (by decide), N11.mono (by decide), trivial⟩, con_of (xs := c_f_after_groups.con) trivial⟩ l_f_after_groups (PySem.W.mg_of X G a17) B17 k_f_after_groups
  have B18 := F18.binds (ps := ["_law_state_here", "_law_station"]) fun _ _ _ _ _ _ us hl => match us, hl with | [_, _], _ => rfl
  have N18 : FnG l.prog w K mg base 1 "_law_move" 2 (.pr d_L_move) := fn_pr (C := c_L_move) (G := g_L_move) (j := 0) F18 rfl h_L_move ⟨hbl, fns_of (xs := c_L_move.fn) (fs := g_L_move) trivial, con_of (xs := c_L_move.con) trivial⟩ l_L_move (PySem.W.mg_of X G a18) B18 k_L_move
  have B19 := F19.binds (ps := ["yard", "state", "many"]) fun _ _ _ _ _ _ us hl => match us, hl with | [_, _, _], _ => rfl
  have N19 : FnG l.prog w K mg base 5 "all_at_once" 3 (.pr d_f_all_at_once) := fn_pr (C := c_f_all_at_once) (G := g_f_all_at_once) (j := 4) F19 rfl h_f_all_at_once ⟨hbl, fns_of (xs := c_f_all_at_once.fn) (fs := g_f_all_at_once) ⟨N9.mono (by decide), N5.mono (by decide), trivial⟩, con_of (xs := c_f_all_at_once.con) trivial⟩ l_f_all_at_once (PySem.W.mg_of X G a19) B19 k_f_all_at_once
  have B20 := F20.binds (ps := ["yard", "state", "many"]) fun _ _ _ _ _ _ us hl => match us, hl with | [_, _, _], _ => rfl
  have N20 : FnG l.prog w K mg base 5 "alternating" 3 (.pr d_f_alternating) := fn_pr (C := c_f_alternating) (G := g_f_alternating) (j := 4) F20 rfl h_f_alternating ⟨hbl, fns_of (xs := c_f_alternating.fn) (fs := g_f_alternating) ⟨N9.mono (by decide), N5.mono (by decide), N11.mono (by decide), trivial⟩, con_of (xs := c_f_alternating.con) trivial⟩ l_f_alternating (PySem.W.mg_of X G a20) B20 k_f_alternating
  have B21 := F21.binds (ps := ["_law_script"]) fun _ _ _ _ _ _ us hl => match us, hl with | [_], _ => rfl
  exact fn_pr0 (C := c_law) (G := g_law) (j := 42) F21 rfl h_law ⟨hbl, fns_of (xs := c_law.fn) (fs := g_law) ⟨N1.mono (by decide), N2.mono (by decide), N0.mono (by decide), (N3 40).mono (by decide), N12.mono (by decide), N13.mono (by decide), N15.mono (by decide), N17.mono (by decide), N18.mono (by decide), N19.mono (by decide), N20.mono (by decide), trivial⟩, con_of (xs := c_law.con) trivial⟩ l_law k_law
end K29

set_option linter.all false
/-! the evaluator's equations for simp: a loop's body has a name -/
namespace TR
open PySem
def forB (G : List Fn) (p : P) (body : List S) (x : D) (en : TR.Env) : R Out := do
  let e2 ← bindP p x en
  exs G body e2
theorem ex_for (G : List Fn) (p : P) (it : E) (body : List S) (env : TR.Env) : ex G (.for_ p it body) env = (do
    let (m, rs, e1) ← ev G it env
    let xs ← itR m
    if apart rs (muSs body ++ p.slots) then foLoop (forB G p body) xs e1 else .bad) := by
  rw [ex]; rfl
def lcB (G : List Fn) (vs : List Nat) (elt : E) (p : P) (cs : List E) (x : D) (en : TR.Env) : R (Option D × TR.Env) := do
  let e2 ← bindP p x (wipeE en vs)
  let (b, e3) ← evCs G cs e2
  if b then do
    let r ← ev G elt e3
    let (d, e4) ← takeR elt r
    .ok (some d, e4)
  else .ok (none, e3)
def nlB (G : List Fn) (vs : List Nat) (elt : E) (p : P) (x : D) (en : TR.Env) : R (List D × TR.Env) := do
  let e2 ← bindP p x (wipeE en vs)
  let r ← ev G elt e2
  ownR r
theorem ev_lc (G : List Fn) (vs : List Nat) (elt : E) (p : P) (it : E) (cs : List E) (env : TR.Env) : ev G (.lc false vs elt p it cs) env = (do
    let (m, rs, e1) ← ev G it env
    if den e1 vs && subs p.slots vs then
      match nlAt m it with
        | some (i, xs) =>
          if (muT elt ++ muEs cs).isEmpty && !vs.contains i then do
            let (ys, _) ← lcLoop (lcB G vs elt p cs) xs (e1.set i (some (.pu (.list xs))))
            if noLs ys && decide (ys.length ≤ big) then .ok (.li ys, [], e1) else .bad
          else .bad
        | none => do
          let xs ← itR m
          if apart rs (muT elt ++ muEs cs ++ vs) then do
            let (ys, e2) ← lcLoop (lcB G vs elt p cs) xs e1
            if ys.length ≤ big then .ok (.li ys, [], backE e2 e1 vs) else .bad
          else .bad
    else .bad) := by
  rw [ev]; rfl
theorem ev_nl (G : List Fn) (vs : List Nat) (elt : E) (p : P) (it : E) (cs : List E) (env : TR.Env) : ev G (.lc true vs elt p it cs) env = (do
    let (m, rs, e1) ← ev G it env
    if den e1 vs && subs p.slots vs then do
        let xs ← itR m
        if apart rs (muE elt ++ vs) then do
          let (ys, e2) ← nlLoop (nlB G vs elt p) xs e1
          if cs.isEmpty && decide (ys.length ≤ big) then .ok (.nl ys, [], backE e2 e1 vs) else .bad
        else .bad
    else .bad) := by
  rw [ev]; rfl
end TR

set_option linter.all false
/-! plain lemmas: walks, enumerate, ranges, min and max -/
namespace TR
open PySem
theorem lcLoop_g {α : Type} {f : D → TR.Env → R (Option D × TR.Env)} (h : α → D) (g : α → Option D) (I : TR.Env → Prop) (l : List α)
    (H : ∀ a ∈ l, ∀ en, I en → ∃ e2, f (h a) en = .ok (g a, e2) ∧ I e2) : ∀ env, I env → ∃ e2, lcLoop f (l.map h) env = .ok (l.filterMap g, e2) ∧ I e2 := by
  induction l with
  | nil => intro env h0; exact ⟨env, by simp [lcLoop], h0⟩
  | cons x xs ih =>
    intro env h0
    obtain ⟨e2, h1, h2⟩ := H x (by simp) env h0
    obtain ⟨e3, h3, h4⟩ := ih (fun y hy => H y (by simp [hy])) e2 h2
    refine ⟨e3, ?_, h4⟩
    cases hg : g x <;> simp [lcLoop, h1, h3, hg]
theorem foLoop_g {α : Type} {f : D → TR.Env → R Out} (h : α → D) (I : List α → TR.Env → Prop) (l : List α)
    (H : ∀ l1 a l2, l = l1 ++ a :: l2 → ∀ en, I l1 en → ∃ e2, f (h a) en = .ok (.nx e2) ∧ I (l1 ++ [a]) e2) : ∀ env, I [] env → ∃ e2, foLoop f (l.map h) env = .ok (.nx e2) ∧ I l e2 := by
  suffices hh : ∀ (l2 l1 : List α), l = l1 ++ l2 → ∀ env, I l1 env → ∃ e2, foLoop f (l2.map h) env = .ok (.nx e2) ∧ I l e2 from fun env h0 => hh l [] rfl env h0
  intro l2
  induction l2 with
  | nil => intro l1 e env h0; refine ⟨env, by simp [foLoop], ?_⟩; rw [e]; simpa using h0
  | cons a l2 ih =>
    intro l1 e env h0
    obtain ⟨e2, h1, h2⟩ := H l1 a l2 e env h0
    obtain ⟨e3, h3, h4⟩ := ih (l1 ++ [a]) (by simp [e]) e2 h2
    exact ⟨e3, by simp [foLoop, h1, h3], h4⟩
theorem enmD_zip {α : Type} (h : α → D) (l : List α) : ∀ n, enmD (l.map h) n = (l.zipIdx n).map fun p => .tuple [.int (p.2 : Nat), h p.1] := by
  induction l with
  | nil => intro n; simp [enmD]
  | cons a l ih => intro n; simp [enmD, ih, List.zipIdx_cons]
theorem ev_lc_ok {G : List Fn} {vs : List Nat} {elt : E} {p : P} {it : E} {cs : List E} {env e1 e2 : TR.Env} {m : M} {rs : List Nat} {xs ys : List D} (h : ev G it env = .ok (m, rs, e1))
    (hd : (den e1 vs && subs p.slots vs) = true) (hn : nlAt m it = none) (hs : itR m = .ok xs) (ha : apart rs (muT elt ++ muEs cs ++ vs) = true)
    (h2 : lcLoop (lcB G vs elt p cs) xs e1 = .ok (ys, e2)) (hb : ys.length ≤ big) : ev G (.lc false vs elt p it cs) env = .ok (.li ys, [], backE e2 e1 vs) := by
  rw [ev_lc, h]
  simp only [bind, R.bind]
  rw [if_pos hd, hn]
  simp only
  rw [hs]
  simp only
  rw [if_pos ha, h2]
  simp only
  rw [if_pos hb]
theorem ev_rgl_ok {G : List Fn} {t : Bool} {as : List E} {env : TR.Env} {ms : List M} {rs : List Nat} {e1 : TR.Env} {a b : Int} (h : evs G as env = .ok (ms, rs, e1)) (h2 : rgOf ms = .ok (a, b)) (h3 : rgB a b = true) :
    ev G (.rgl t as) env = .ok ((if t then .pu (.tuple (rngD a b)) else .li (rngD a b)), [], e1) := by
  rw [ev, h]
  simp only [bind, R.bind]
  rw [h2]
  simp only
  rw [if_pos h3]
theorem ev_rng_ok {G : List Fn} {as : List E} {env : TR.Env} {ms : List M} {rs : List Nat} {e1 : TR.Env} {a b : Int} (h : evs G as env = .ok (ms, rs, e1)) (h2 : rgOf ms = .ok (a, b)) (h3 : rgC a b = true) :
    ev G (.rng as) env = .ok (.li (rngD a b), [], e1) := by
  rw [ev, h]
  simp only [bind, R.bind]
  rw [h2]
  simp only
  rw [if_pos h3]
theorem one_big : 1 ≤ big := by unfold big; omega
theorem two_big : 2 ≤ big := by unfold big; omega
theorem ev_tup1 {G : List Fn} {a : E} {d : D} {env e1 : TR.Env} (h : evTs G [a] env = .ok ([d], e1)) : ev G (.tup [a]) env = .ok (.pu (.tuple [d]), [], e1) := by
  rw [ev, h]
  simp only [bind, R.bind]
  rw [if_pos (show [d].length ≤ big from one_big)]
theorem ev_bin_ok {G : List Fn} {o : BOp} {a b : E} {ma mb m : M} {rb : List Nat} {env e1 e2 : TR.Env} (h : ev G a env = .ok (ma, [], e1)) (h2 : ev G b e1 = .ok (mb, rb, e2)) (h3 : binD o ma mb = .ok m) : ev G (.bin o a b) env = .ok (m, [], e2) := by
  rw [ev, h]
  simp only [bind, R.bind]
  rw [h2]
  simp only [apart, List.all_nil, if_true]
  rw [h3]
theorem ex_ret_ok {G : List Fn} {e : E} {m : M} {env e1 : TR.Env} (h : ev G e env = .ok (m, [], e1)) (hm : retR e (m, [], e1) = .ok (m, e1)) : exs G [.ret e] env = .ok (.ret m e1) := by
  rw [exs, ex, h]
  simp only [bind, R.bind]
  rw [hm]
theorem exs_do {G : List Fn} {e : E} {r : List S} {m : M} {rs : List Nat} {env e1 : TR.Env} (h : ev G e env = .ok (m, rs, e1)) : exs G (.do_ e :: r) env = exs G r e1 := by
  rw [exs, ex, h]
  simp only [bind, R.bind]
theorem exs_nx {G : List Fn} {s : S} {r : List S} {env e1 : TR.Env} (h : ex G s env = .ok (.nx e1)) : exs G (s :: r) env = exs G r e1 := by
  rw [exs, h]
  simp only [bind, R.bind]
theorem exs_ret {G : List Fn} {s : S} {r : List S} {m : M} {env e1 : TR.Env} (h : ex G s env = .ok (.ret m e1)) : exs G (s :: r) env = .ok (.ret m e1) := by
  rw [exs, h]
  simp only [bind, R.bind]
theorem ev_cmp_ok {G : List Fn} {o : COp} {a b : E} {ma mb : M} {c : Bool} {ra rb : List Nat} {env e1 e2 : TR.Env} (h : ev G a env = .ok (ma, ra, e1)) (h2 : ev G b e1 = .ok (mb, rb, e2)) (ha : apart ra (muE b) = true) (h3 : cmpD o ma mb = .ok c) : ev G (.cmp o a b) env = .ok (.pu (.bool c), [], e2) := by
  rw [ev, h]
  simp only [bind, R.bind]
  rw [h2]
  simp only
  rw [if_pos ha, h3]
theorem runP_ret {G : List Fn} {n : Nat} {b : List S} {ds : List D} {m : M} {e : TR.Env} (h : exs G b (ds.map (fun d => some (.pu d)) ++ List.replicate (n - ds.length) none) = .ok (.ret m e)) : runP G n b ds = .ok m := by
  unfold runP
  rw [h]
  rfl
theorem ex_asg_t {G : List Fn} {ps : List P} {e : E} {env e2 e3 : TR.Env} {r : M × List Nat × TR.Env} {d : D} (h : ev G e env = .ok r) (h2 : takeR e r = .ok (d, e2)) (h3 : bindP (.t ps) d e2 = .ok e3) : ex G (.asg (.t ps) e) env = .ok (.nx e3) := by
  rw [ex, h]
  simp only [bind, R.bind]
  rw [h2]
  simp only
  rw [h3]
theorem ex_asg_v {G : List Fn} {i : Nat} {e : E} {env e2 : TR.Env} {r : M × List Nat × TR.Env} {m : M} (h : ev G e env = .ok r) (h2 : keepR e r = .ok (m, e2)) (h3 : i < e2.length) : ex G (.asg (.v i) e) env = .ok (.nx (e2.set i (some m))) := by
  rw [ex, h]
  simp only [bind, R.bind]
  rw [h2]
  simp only
  rw [if_pos h3]
theorem ex_par2 {G : List Fn} {i j : Nat} {a b : E} {env e1 e2 : TR.Env} {m1 m2 : M} (h1 : ev G a env = .ok (m1, [], e1)) (hk1 : keepR a (m1, [], e1) = .ok (m1, e1)) (h2 : ev G b e1 = .ok (m2, [], e2)) (hk2 : keepR b (m2, [], e2) = .ok (m2, e2))
    (hi : i < e2.length) (hj : j < e2.length) : ex G (.par [i, j] [a, b]) env = .ok (.nx ((e2.set i (some m1)).set j (some m2))) := by
  rw [ex, keepAll, h1]
  simp only [bind, R.bind]
  rw [hk1]
  simp only
  rw [keepAll, h2]
  simp only [bind, R.bind]
  rw [hk2]
  simp only [keepAll, bind, R.bind, setAll]
  rw [if_pos hi, if_pos (by rw [List.length_set]; exact hj)]
theorem evTs_nil {G : List Fn} {env : TR.Env} : evTs G [] env = .ok ([], env) := by rw [evTs]
def isSt1 : E → Bool
  | .star _ => true
  | _ => false
theorem evTs_c1 {G : List Fn} {a : E} {as : List E} {env e1 e2 : TR.Env} {m : M} {rs : List Nat} {d : D} {ds : List D} {e0 : TR.Env} (h : ev G a env = .ok (m, rs, e0)) (ht : takeR a (m, rs, e0) = .ok (d, e1)) (h2 : evTs G as e1 = .ok (ds, e2)) (hs : isSt1 a = false := by rfl) :
    evTs G (a :: as) env = .ok (d :: ds, e2) := by
  rw [evTs]
  · rw [h]
    simp only [bind, R.bind]
    rw [ht]
    simp only
    rw [h2]
  · intro b e
    rw [e] at hs
    cases hs
theorem evTs_pu {G : List Fn} {a : E} {as : List E} {env e1 e2 : TR.Env} {rs : List Nat} {d : D} {ds : List D} (h : ev G a env = .ok (.pu d, rs, e1)) (h2 : evTs G as e1 = .ok (ds, e2)) (hs : isSt1 a = false := by rfl) :
    evTs G (a :: as) env = .ok (d :: ds, e2) := evTs_c1 h rfl h2 hs
theorem ev_call_ok {G : List Fn} {k : Nat} {as : List E} {env e1 : TR.Env} {ds : List D} {f : FP} {m : M} (hf : G[k]? = some (.pr f)) (h : evTs G as env = .ok (ds, e1)) (hr : f ds = .ok m) : ev G (.call k as) env = .ok (m, [], e1) := by
  rw [ev, h]
  simp only [bind, R.bind, fpOf]
  rw [hf]
  simp only
  rw [hr]
theorem ev_callW_ok {G : List Fn} {k y : Nat} {as : List E} {env e1 : TR.Env} {ds : List D} {f : FW} {m m0 m1 mx : M} (hy : env.get y = .ok mx) (hf : G[k]? = some (.wr f)) (h : evTs G as env = .ok (ds, e1)) (h0 : e1.get y = .ok m0) (ho : m0.own = true) (hr : f m0 ds = .ok (m, m1)) (ho1 : m1.own = true) :
    ev G (.callW k y as) env = .ok (m, [], e1.set y (some m1)) := by
  rw [ev, hy]
  simp only [bind, R.bind]
  rw [h]
  simp only
  rw [h0]
  simp only
  rw [if_pos ho]
  simp only [fwOf]
  rw [hf]
  simp only
  rw [hr]
  simp only
  rw [if_pos ho1]
theorem ev_var_ok {G : List Fn} {i : Nat} {env : TR.Env} {d : D} (h : env.get i = .ok (.pu d)) : ev G (.var i) env = .ok (.pu d, [], env) := by
  rw [ev, h]
  rfl
theorem ev_sub_ok {G : List Fn} {a b : E} {env e1 e2 : TR.Env} {ma mb m : M} {ra rb : List Nat} (h : ev G a env = .ok (ma, ra, e1)) (h2 : ev G b e1 = .ok (mb, rb, e2)) (ha : apart ra (muE b) = true) (h3 : subD ma mb = .ok m) (hn : ma.isNl = false) : ev G (.sub a b) env = .ok (m, [], e2) := by
  rw [ev, h]
  simp only [bind, R.bind]
  rw [h2]
  simp only
  rw [if_pos ha, h3]
  simp only
  rw [hn]
  rfl
theorem ev_bi1_ok {G : List Fn} {b : Bi} {a : E} {env e1 : TR.Env} {ma m : M} {ra : List Nat} (h : ev G a env = .ok (ma, ra, e1)) (h3 : bi1 b ma = .ok m) : ev G (.bi b [a]) env = .ok (m, [], e1) := by
  rw [ev, evs, h]
  simp only [bind, R.bind]
  rw [evs]
  simp only [muEs, apart, List.contains_nil, Bool.not_false]
  rw [if_pos (by simp)]
  simp only [biD]
  rw [h3]
theorem ev_mt1_ok {G : List Fn} {k : Mt} {o a : E} {env e1 e2 : TR.Env} {mo ma m : M} {ro ra : List Nat} (h : ev G o env = .ok (mo, ro, e1)) (h2 : ev G a e1 = .ok (ma, ra, e2)) (ha : apart ro (muEs [a]) = true) (h3 : mtD k mo [ma] = .ok m) : ev G (.mt k o [a]) env = .ok (m, [], e2) := by
  rw [ev, h]
  simp only [bind, R.bind]
  rw [evs, h2]
  simp only [bind, R.bind]
  rw [evs]
  simp only [muEs]
  rw [if_pos (by simp [apart])]
  simp only
  simp only [muEs] at ha
  rw [if_pos ha, h3]
theorem ev_tup_ok {G : List Fn} {as : List E} {env e1 : TR.Env} {ds : List D} (h : evTs G as env = .ok (ds, e1)) (hb : ds.length ≤ big) : ev G (.tup as) env = .ok (.pu (.tuple ds), [], e1) := by
  rw [ev, h]
  simp only [bind, R.bind]
  rw [if_pos hb]
theorem ev_lst_ok {G : List Fn} {as : List E} {env e1 : TR.Env} {ds : List D} (h : evTs G as env = .ok (ds, e1)) (hb : ds.length ≤ big) : ev G (.lst as) env = .ok (.li ds, [], e1) := by
  rw [ev, h]
  simp only [bind, R.bind]
  rw [if_pos hb]
theorem ex_for_ok {G : List Fn} {p : P} {it : E} {body : List S} {env e1 e2 : TR.Env} {m : M} {rs : List Nat} {xs : List D} (h : ev G it env = .ok (m, rs, e1)) (hs : itR m = .ok xs) (ha : apart rs (muSs body ++ p.slots) = true) (h2 : foLoop (forB G p body) xs e1 = .ok (.nx e2)) : ex G (.for_ p it body) env = .ok (.nx e2) := by
  rw [ex_for, h]
  simp only [bind, R.bind]
  rw [hs]
  simp only
  rw [if_pos ha, h2]
theorem rngD_nat (n : Nat) : rngD 0 n = (List.range n).map fun (i : Nat) => .int (i : Int) := by
  simp [rngD]
theorem zipIdx_range {α : Type} (l : List α) (d : α) : l.zipIdx = (List.range l.length).map fun i => (l.getD i d, i) := by
  apply List.ext_getElem
  · simp
  · intro i h1 h2
    simp at h1
    simp [h1]
/-- the least pair -/
def lt2 (p q : Int × Int) : Bool := decide (p.1 < q.1) || (decide (p.1 = q.1) && decide (p.2 < q.2))
def min2 (p q : Int × Int) : Int × Int := if lt2 q p then q else p
theorem min2_uniq : ∀ (ps : List (Int × Int)) (p q : Int × Int), (q = p ∨ q ∈ ps) → (∀ z, z = p ∨ z ∈ ps → z = q ∨ lt2 q z = true) → ps.foldl min2 p = q := by
  intro ps
  induction ps with
  | nil => intro p q h _; simp at h; simp [h]
  | cons y ps ih =>
    intro p q h H
    rw [List.foldl_cons]
    have irr : ∀ z, lt2 z z = false := by intro z; simp [lt2]
    have asy : ∀ z w, lt2 z w = true → lt2 w z = false := by
      intro z w; simp [lt2]; omega
    refine ih _ _ ?_ ?_
    · rcases h with h | h
      · subst h
        left
        rcases H y (by simp) with h | h
        · subst h; simp [min2]
        · simp [min2, asy _ _ h]
      · rcases List.mem_cons.1 h with h | h
        · subst h
          left
          rcases H p (by simp) with h | h
          · subst h; simp [min2]
          · simp [min2, h]
        · exact .inr h
    · intro z hz
      apply H
      rcases hz with hz | hz
      · subst hz
        unfold min2; split
        · simp
        · simp
      · simp [hz]
def pD (p : Int × Int) : D := .tuple [.int p.1, .int p.2]
theorem lt_pD (p q : Int × Int) : W.dataLt (pD p) (pD q) = lt2 p q := by
  simp [pD, lt2, W.dataLt, W.keyToks, W.keyToksAll, PyProof.Rows.lexLt, PyProof.Rows.itemOrd, PyProof.Rows.itemLt]
  rw [Bool.eq_iff_iff]; simp; omega
theorem minD_pD : ∀ (ps : List (Int × Int)) (p : Int × Int), W.minD (pD p) (ps.map pD) = pD (ps.foldl min2 p) := by
  intro ps
  induction ps with
  | nil => intro p; rfl
  | cons q ps ih =>
    intro p
    have := ih (min2 p q)
    simp only [W.minD, List.map_cons, List.foldl_cons, lt_pD] at this ⊢
    rw [← this]
    congr 1
    unfold min2; split <;> rfl
end TR
namespace TR
open PySem
theorem ex_setI_ok {G : List Fn} {y : Nat} {i e : E} {env e1 e2 : TR.Env} {mx mi m m2 : M} {d : D} {rs ri : List Nat} (hy : env.get y = .ok mx) (h : ev G e env = .ok (.pu d, rs, e1)) (h2 : ev G i e1 = .ok (mi, ri, e2)) (h3 : e2.get y = .ok m) (h4 : putI m mi d = .ok m2) :
    ex G (.setI y i e) env = .ok (.nx (e2.set y (some m2))) := by
  rw [ex, hy]
  simp only [bind, R.bind]
  rw [h]
  simp only [takeR]
  rw [h2]
  simp only
  rw [h3]
  simp only
  rw [h4]
theorem ex_app_ok {G : List Fn} {y : Nat} {e : E} {env e1 : TR.Env} {xs zs : List D} {d : D} {rs : List Nat} (hy : env.get y = .ok (.li zs)) (h : ev G e env = .ok (.pu d, rs, e1)) (h3 : e1.get y = .ok (.li xs)) (h4 : xs.length < big) :
    ex G (.app y e) env = .ok (.nx (e1.set y (some (.li (xs ++ [d]))))) := by
  rw [ex, hy]
  simp only [bind, R.bind, M.isLi]
  rw [if_pos trivial, h]
  simp only [takeR]
  rw [h3]
  simp only [appM]
  rw [if_pos h4]
theorem ev_cst_ok {G : List Fn} {d : D} {env : TR.Env} : ev G (.cst d) env = .ok (.pu d, [], env) := by rw [ev]
theorem ev_ownvar {G : List Fn} {i : Nat} {env : TR.Env} {xs : List D} (h : env.get i = .ok (.li xs)) : ev G (.var i) env = .ok (.li xs, [i], env) := by
  rw [ev, h]
  rfl
theorem ev_bin_ok' {G : List Fn} {o : BOp} {a b : E} {ma mb m : M} {ra rb : List Nat} {env e1 e2 : TR.Env} (h : ev G a env = .ok (ma, ra, e1)) (h2 : ev G b e1 = .ok (mb, rb, e2)) (ha : apart ra (muE b) = true) (h3 : binD o ma mb = .ok m) : ev G (.bin o a b) env = .ok (m, [], e2) := by
  rw [ev, h]
  simp only [bind, R.bind]
  rw [h2]
  simp only
  rw [if_pos ha, h3]
theorem ev_neg_ok {G : List Fn} {a : E} {i : Int} {ra : List Nat} {env e1 : TR.Env} (h : ev G a env = .ok (.pu (.int i), ra, e1)) : ev G (.neg a) env = .ok (.pu (.int (-i)), [], e1) := by
  rw [ev, h]
  rfl
theorem ev_not_ok {G : List Fn} {a : E} {b : Bool} {ra : List Nat} {env e1 : TR.Env} (h : ev G a env = .ok (.pu (.bool b), ra, e1)) : ev G (.not a) env = .ok (.pu (.bool (!b)), [], e1) := by
  rw [ev, h]
  rfl
theorem ev_or_ff {G : List Fn} {a b : E} {c : Bool} {ra rb : List Nat} {env e1 e2 : TR.Env} (h : ev G a env = .ok (.pu (.bool false), ra, e1)) (h2 : ev G b e1 = .ok (.pu (.bool c), rb, e2)) : ev G (.or a b) env = .ok (.pu (.bool c), [], e2) := by
  rw [ev, h]
  simp only [bind, R.bind, boolR]
  rw [if_neg (by decide), h2]
theorem ex_if_ff {G : List Fn} {c : E} {a b : List S} {rc : List Nat} {env e1 : TR.Env} {r : R Out} (h : ev G c env = .ok (.pu (.bool false), rc, e1)) (h2 : exs G b e1 = r) : ex G (.ifs c a b) env = r := by
  rw [ex, h]
  simp only [bind, R.bind, boolR]
  rw [if_neg (by decide), h2]
theorem ex_if_tt {G : List Fn} {c : E} {a b : List S} {rc : List Nat} {env e1 : TR.Env} {r : R Out} (h : ev G c env = .ok (.pu (.bool true), rc, e1)) (h2 : exs G a e1 = r) : ex G (.ifs c a b) env = r := by
  rw [ex, h]
  simp only [bind, R.bind, boolR]
  rw [if_pos trivial, h2]
theorem exs_nil {G : List Fn} {env : TR.Env} : exs G [] env = .ok (.nx env) := by rw [exs]
theorem runP_nx {G : List Fn} {n : Nat} {b : List S} {ds : List D} {e : TR.Env} (h : exs G b (ds.map (fun d => some (.pu d)) ++ List.replicate (n - ds.length) none) = .ok (.nx e)) : runP G n b ds = .ok (.pu .none) := by
  unfold runP
  rw [h]
  rfl
end TR
namespace TR
open PySem
theorem lcB_nc {G : List Fn} {vs : List Nat} {elt : E} {p : P} {x : D} {en e2 e3 : TR.Env} {d : D} {rs : List Nat} (hb : bindP p x (wipeE en vs) = .ok e2) (h : ev G elt e2 = .ok (.pu d, rs, e3)) : lcB G vs elt p [] x en = .ok (some d, e3) := by
  rw [lcB, hb]
  simp only [bind, R.bind]
  rw [evCs]
  simp only
  rw [if_pos trivial, h]
  simp only [takeR]
theorem lcB_y {G : List Fn} {vs : List Nat} {elt : E} {p : P} {cs : List E} {x : D} {en e2 e3 e4 : TR.Env} {d : D} {rs : List Nat} (hb : bindP p x (wipeE en vs) = .ok e2) (hc : evCs G cs e2 = .ok (true, e3)) (h : ev G elt e3 = .ok (.pu d, rs, e4)) : lcB G vs elt p cs x en = .ok (some d, e4) := by
  rw [lcB, hb]
  simp only [bind, R.bind]
  rw [hc]
  simp only
  rw [if_pos trivial, h]
  simp only [takeR]
theorem lcB_n {G : List Fn} {vs : List Nat} {elt : E} {p : P} {cs : List E} {x : D} {en e2 e3 : TR.Env} (hb : bindP p x (wipeE en vs) = .ok e2) (hc : evCs G cs e2 = .ok (false, e3)) : lcB G vs elt p cs x en = .ok (none, e3) := by
  rw [lcB, hb]
  simp only [bind, R.bind]
  rw [hc]
  simp only
  rw [if_neg (by decide)]
theorem evCs1 {G : List Fn} {a : E} {b : Bool} {rs : List Nat} {env e1 : TR.Env} (h : ev G a env = .ok (.pu (.bool b), rs, e1)) : evCs G [a] env = .ok (b, e1) := by
  rw [evCs, h]
  simp only [bind, R.bind, boolR]
  cases b
  · rw [if_neg (by decide)]
  · rw [if_pos rfl, evCs]
end TR
namespace TR
open PySem
theorem runW_ret {G : List Fn} {w n : Nat} {b : List S} {m : M} {ds : List D} {r m1 : M} {e : TR.Env} (h : exs G b ((ds.take w).map (fun d => some (.pu d)) ++ some m :: (ds.drop w).map (fun d => some (.pu d)) ++ List.replicate (n - ds.length - 1) none) = .ok (.ret r e)) (h2 : e.get w = .ok m1) : runW G w n b m ds = .ok (r, m1) := by
  unfold runW
  rw [h]
  simp only [bind, R.bind]
  rw [h2]
end TR

set_option linter.all false
/-! the equations of the evaluator, for simp -/
namespace TR
open PySem
@[simp] theorem si_ex_1 : type_of% @ex.eq_1 := @ex.eq_1
@[simp] theorem si_ex_2 : type_of% @ex.eq_2 := @ex.eq_2
@[simp] theorem si_ex_3 : type_of% @ex.eq_3 := @ex.eq_3
@[simp] theorem si_ex_4 : type_of% @ex.eq_4 := @ex.eq_4
@[simp] theorem si_ex_5 : type_of% @ex.eq_5 := @ex.eq_5
@[simp] theorem si_ex_6 : type_of% @ex.eq_6 := @ex.eq_6
@[simp] theorem si_ex_7 : type_of% @ex.eq_7 := @ex.eq_7
@[simp] theorem si_ex_8 : type_of% @ex.eq_8 := @ex.eq_8
@[simp] theorem si_ex_9 : type_of% @ex.eq_9 := @ex.eq_9
@[simp] theorem si_ex_10 : type_of% @ex.eq_10 := @ex.eq_10
@[simp] theorem si_ex_11 : type_of% @ex.eq_11 := @ex.eq_11
@[simp] theorem si_ex_12 : type_of% @ex.eq_12 := @ex.eq_12
@[simp] theorem si_ex_13 : type_of% @ex.eq_13 := @ex.eq_13
@[simp] theorem si_ex_14 : type_of% @ex.eq_14 := @ex.eq_14
@[simp] theorem si_ex_15 : type_of% @ex.eq_15 := @ex.eq_15
@[simp] theorem si_ex_16 : type_of% @ex.eq_16 := @ex.eq_16
@[simp] theorem si_ex_18 : type_of% @ex.eq_18 := @ex.eq_18
@[simp] theorem si_ex_19 : type_of% @ex.eq_19 := @ex.eq_19
@[simp] theorem si_ex_20 : type_of% @ex.eq_20 := @ex.eq_20
@[simp] theorem si_ex_21 : type_of% @ex.eq_21 := @ex.eq_21
@[simp] theorem si_ev_1 : type_of% @ev.eq_1 := @ev.eq_1
@[simp] theorem si_ev_2 : type_of% @ev.eq_2 := @ev.eq_2
@[simp] theorem si_ev_3 : type_of% @ev.eq_3 := @ev.eq_3
@[simp] theorem si_ev_4 : type_of% @ev.eq_4 := @ev.eq_4
@[simp] theorem si_ev_5 : type_of% @ev.eq_5 := @ev.eq_5
@[simp] theorem si_ev_6 : type_of% @ev.eq_6 := @ev.eq_6
@[simp] theorem si_ev_7 : type_of% @ev.eq_7 := @ev.eq_7
@[simp] theorem si_ev_8 : type_of% @ev.eq_8 := @ev.eq_8
@[simp] theorem si_ev_9 : type_of% @ev.eq_9 := @ev.eq_9
@[simp] theorem si_ev_10 : type_of% @ev.eq_10 := @ev.eq_10
@[simp] theorem si_ev_11 : type_of% @ev.eq_11 := @ev.eq_11
@[simp] theorem si_ev_12 : type_of% @ev.eq_12 := @ev.eq_12
@[simp] theorem si_ev_13 : type_of% @ev.eq_13 := @ev.eq_13
@[simp] theorem si_ev_14 : type_of% @ev.eq_14 := @ev.eq_14
@[simp] theorem si_ev_15 : type_of% @ev.eq_15 := @ev.eq_15
@[simp] theorem si_ev_16 : type_of% @ev.eq_16 := @ev.eq_16
@[simp] theorem si_ev_17 : type_of% @ev.eq_17 := @ev.eq_17
@[simp] theorem si_ev_18 : type_of% @ev.eq_18 := @ev.eq_18
@[simp] theorem si_ev_19 : type_of% @ev.eq_19 := @ev.eq_19
@[simp] theorem si_ev_20 : type_of% @ev.eq_20 := @ev.eq_20
@[simp] theorem si_ev_21 : type_of% @ev.eq_21 := @ev.eq_21
@[simp] theorem si_ev_22 : type_of% @ev.eq_22 := @ev.eq_22
@[simp] theorem si_ev_23 : type_of% @ev.eq_23 := @ev.eq_23
@[simp] theorem si_ev_24 : type_of% @ev.eq_24 := @ev.eq_24
@[simp] theorem si_ev_28 : type_of% @ev.eq_28 := @ev.eq_28
@[simp] theorem si_ev_31 : type_of% @ev.eq_31 := @ev.eq_31
@[simp] theorem si_ev_32 : type_of% @ev.eq_32 := @ev.eq_32
@[simp] theorem si_ev_33 : type_of% @ev.eq_33 := @ev.eq_33
@[simp] theorem si_ev_34 : type_of% @ev.eq_34 := @ev.eq_34
@[simp] theorem si_ev_35 : type_of% @ev.eq_35 := @ev.eq_35
@[simp 999] theorem si_fpOf_1 : type_of% @fpOf.eq_1 := @fpOf.eq_1
@[simp 999] theorem si_exs_1 : type_of% @exs.eq_1 := @exs.eq_1
@[simp 998] theorem si_exs_2 : type_of% @exs.eq_2 := @exs.eq_2
@[simp 999] theorem si_evs_1 : type_of% @evs.eq_1 := @evs.eq_1
@[simp 998] theorem si_evs_2 : type_of% @evs.eq_2 := @evs.eq_2
@[simp 999] theorem si_evTs_1 : type_of% @evTs.eq_1 := @evTs.eq_1
@[simp 998] theorem si_evTs_2 : type_of% @evTs.eq_2 := @evTs.eq_2
@[simp 997] theorem si_evTs_3 : type_of% @evTs.eq_3 := @evTs.eq_3
@[simp 999] theorem si_evKs_1 : type_of% @evKs.eq_1 := @evKs.eq_1
@[simp 998] theorem si_evKs_2 : type_of% @evKs.eq_2 := @evKs.eq_2
@[simp 997] theorem si_evKs_3 : type_of% @evKs.eq_3 := @evKs.eq_3
@[simp 999] theorem si_evO_1 : type_of% @evO.eq_1 := @evO.eq_1
@[simp 998] theorem si_evO_2 : type_of% @evO.eq_2 := @evO.eq_2
@[simp 999] theorem si_evCs_1 : type_of% @evCs.eq_1 := @evCs.eq_1
@[simp 998] theorem si_evCs_2 : type_of% @evCs.eq_2 := @evCs.eq_2
@[simp 999] theorem si_runP_1 : type_of% @runP.eq_1 := @runP.eq_1
@[simp 999] theorem si_Env_get_1 : type_of% @Env.get.eq_1 := @Env.get.eq_1
@[simp 999] theorem si_biD_1 : type_of% @biD.eq_1 := @biD.eq_1
@[simp 998] theorem si_biD_2 : type_of% @biD.eq_2 := @biD.eq_2
@[simp 997] theorem si_biD_3 : type_of% @biD.eq_3 := @biD.eq_3
@[simp 999] theorem si_bi1_1 : type_of% @bi1.eq_1 := @bi1.eq_1
@[simp 998] theorem si_bi1_2 : type_of% @bi1.eq_2 := @bi1.eq_2
@[simp 997] theorem si_bi1_3 : type_of% @bi1.eq_3 := @bi1.eq_3
@[simp 996] theorem si_bi1_4 : type_of% @bi1.eq_4 := @bi1.eq_4
@[simp 995] theorem si_bi1_5 : type_of% @bi1.eq_5 := @bi1.eq_5
@[simp 994] theorem si_bi1_6 : type_of% @bi1.eq_6 := @bi1.eq_6
@[simp 993] theorem si_bi1_7 : type_of% @bi1.eq_7 := @bi1.eq_7
@[simp 992] theorem si_bi1_8 : type_of% @bi1.eq_8 := @bi1.eq_8
@[simp 991] theorem si_bi1_9 : type_of% @bi1.eq_9 := @bi1.eq_9
@[simp 990] theorem si_bi1_10 : type_of% @bi1.eq_10 := @bi1.eq_10
@[simp 989] theorem si_bi1_11 : type_of% @bi1.eq_11 := @bi1.eq_11
@[simp 988] theorem si_bi1_12 : type_of% @bi1.eq_12 := @bi1.eq_12
@[simp 987] theorem si_bi1_13 : type_of% @bi1.eq_13 := @bi1.eq_13
@[simp 986] theorem si_bi1_14 : type_of% @bi1.eq_14 := @bi1.eq_14
@[simp 985] theorem si_bi1_15 : type_of% @bi1.eq_15 := @bi1.eq_15
@[simp 984] theorem si_bi1_16 : type_of% @bi1.eq_16 := @bi1.eq_16
@[simp 983] theorem si_bi1_17 : type_of% @bi1.eq_17 := @bi1.eq_17
@[simp 982] theorem si_bi1_18 : type_of% @bi1.eq_18 := @bi1.eq_18
@[simp 981] theorem si_bi1_19 : type_of% @bi1.eq_19 := @bi1.eq_19
@[simp 980] theorem si_bi1_20 : type_of% @bi1.eq_20 := @bi1.eq_20
@[simp 979] theorem si_bi1_21 : type_of% @bi1.eq_21 := @bi1.eq_21
@[simp 978] theorem si_bi1_22 : type_of% @bi1.eq_22 := @bi1.eq_22
@[simp 977] theorem si_bi1_23 : type_of% @bi1.eq_23 := @bi1.eq_23
@[simp 999] theorem si_isM_1 : type_of% @isM.eq_1 := @isM.eq_1
@[simp 999] theorem si_tyD_1 : type_of% @tyD.eq_1 := @tyD.eq_1
@[simp 998] theorem si_tyD_2 : type_of% @tyD.eq_2 := @tyD.eq_2
@[simp 997] theorem si_tyD_3 : type_of% @tyD.eq_3 := @tyD.eq_3
@[simp 996] theorem si_tyD_4 : type_of% @tyD.eq_4 := @tyD.eq_4
@[simp 995] theorem si_tyD_5 : type_of% @tyD.eq_5 := @tyD.eq_5
@[simp 994] theorem si_tyD_6 : type_of% @tyD.eq_6 := @tyD.eq_6
@[simp 993] theorem si_tyD_7 : type_of% @tyD.eq_7 := @tyD.eq_7
@[simp 992] theorem si_tyD_8 : type_of% @tyD.eq_8 := @tyD.eq_8
@[simp 999] theorem si_boolR_1 : type_of% @boolR.eq_1 := @boolR.eq_1
@[simp 998] theorem si_boolR_2 : type_of% @boolR.eq_2 := @boolR.eq_2
@[simp 999] theorem si_retR_1 : type_of% @retR.eq_1 := @retR.eq_1
@[simp 998] theorem si_retR_2 : type_of% @retR.eq_2 := @retR.eq_2
@[simp 997] theorem si_retR_3 : type_of% @retR.eq_3 := @retR.eq_3
@[simp 996] theorem si_retR_4 : type_of% @retR.eq_4 := @retR.eq_4
@[simp 999] theorem si_takeR_1 : type_of% @takeR.eq_1 := @takeR.eq_1
@[simp 998] theorem si_takeR_2 : type_of% @takeR.eq_2 := @takeR.eq_2
@[simp 997] theorem si_takeR_3 : type_of% @takeR.eq_3 := @takeR.eq_3
@[simp 996] theorem si_takeR_4 : type_of% @takeR.eq_4 := @takeR.eq_4
@[simp 999] theorem si_keepR_1 : type_of% @keepR.eq_1 := @keepR.eq_1
@[simp 998] theorem si_keepR_2 : type_of% @keepR.eq_2 := @keepR.eq_2
@[simp 997] theorem si_keepR_3 : type_of% @keepR.eq_3 := @keepR.eq_3
@[simp 996] theorem si_keepR_4 : type_of% @keepR.eq_4 := @keepR.eq_4
@[simp 999] theorem si_lenD_1 : type_of% @lenD.eq_1 := @lenD.eq_1
@[simp 998] theorem si_lenD_2 : type_of% @lenD.eq_2 := @lenD.eq_2
@[simp 997] theorem si_lenD_3 : type_of% @lenD.eq_3 := @lenD.eq_3
@[simp 996] theorem si_lenD_4 : type_of% @lenD.eq_4 := @lenD.eq_4
@[simp 995] theorem si_lenD_5 : type_of% @lenD.eq_5 := @lenD.eq_5
@[simp 994] theorem si_lenD_6 : type_of% @lenD.eq_6 := @lenD.eq_6
@[simp 993] theorem si_lenD_7 : type_of% @lenD.eq_7 := @lenD.eq_7
@[simp 992] theorem si_lenD_8 : type_of% @lenD.eq_8 := @lenD.eq_8
@[simp 999] theorem si_M_isLi_1 : type_of% @M.isLi.eq_1 := @M.isLi.eq_1
@[simp 998] theorem si_M_isLi_2 : type_of% @M.isLi.eq_2 := @M.isLi.eq_2
@[simp 999] theorem si_apart_1 : type_of% @apart.eq_1 := @apart.eq_1
@[simp 999] theorem si_muE_1 : type_of% @muE.eq_1 := @muE.eq_1
@[simp 998] theorem si_muE_2 : type_of% @muE.eq_2 := @muE.eq_2
@[simp 997] theorem si_muE_3 : type_of% @muE.eq_3 := @muE.eq_3
@[simp 996] theorem si_muE_4 : type_of% @muE.eq_4 := @muE.eq_4
@[simp 995] theorem si_muE_5 : type_of% @muE.eq_5 := @muE.eq_5
@[simp 994] theorem si_muE_6 : type_of% @muE.eq_6 := @muE.eq_6
@[simp 993] theorem si_muE_7 : type_of% @muE.eq_7 := @muE.eq_7
@[simp 992] theorem si_muE_8 : type_of% @muE.eq_8 := @muE.eq_8
@[simp 991] theorem si_muE_9 : type_of% @muE.eq_9 := @muE.eq_9
@[simp 990] theorem si_muE_10 : type_of% @muE.eq_10 := @muE.eq_10
@[simp 989] theorem si_muE_11 : type_of% @muE.eq_11 := @muE.eq_11
@[simp 988] theorem si_muE_12 : type_of% @muE.eq_12 := @muE.eq_12
@[simp 987] theorem si_muE_13 : type_of% @muE.eq_13 := @muE.eq_13
@[simp 986] theorem si_muE_14 : type_of% @muE.eq_14 := @muE.eq_14
@[simp 985] theorem si_muE_15 : type_of% @muE.eq_15 := @muE.eq_15
@[simp 984] theorem si_muE_16 : type_of% @muE.eq_16 := @muE.eq_16
@[simp 983] theorem si_muE_17 : type_of% @muE.eq_17 := @muE.eq_17
@[simp 982] theorem si_muE_18 : type_of% @muE.eq_18 := @muE.eq_18
@[simp 981] theorem si_muE_19 : type_of% @muE.eq_19 := @muE.eq_19
@[simp 980] theorem si_muE_20 : type_of% @muE.eq_20 := @muE.eq_20
@[simp 979] theorem si_muE_21 : type_of% @muE.eq_21 := @muE.eq_21
@[simp 978] theorem si_muE_22 : type_of% @muE.eq_22 := @muE.eq_22
@[simp 977] theorem si_muE_23 : type_of% @muE.eq_23 := @muE.eq_23
@[simp 976] theorem si_muE_24 : type_of% @muE.eq_24 := @muE.eq_24
@[simp 975] theorem si_muE_25 : type_of% @muE.eq_25 := @muE.eq_25
@[simp 974] theorem si_muE_26 : type_of% @muE.eq_26 := @muE.eq_26
@[simp 973] theorem si_muE_27 : type_of% @muE.eq_27 := @muE.eq_27
@[simp 972] theorem si_muE_28 : type_of% @muE.eq_28 := @muE.eq_28
@[simp 971] theorem si_muE_29 : type_of% @muE.eq_29 := @muE.eq_29
@[simp 970] theorem si_muE_30 : type_of% @muE.eq_30 := @muE.eq_30
@[simp 969] theorem si_muE_31 : type_of% @muE.eq_31 := @muE.eq_31
@[simp 968] theorem si_muE_32 : type_of% @muE.eq_32 := @muE.eq_32
@[simp 967] theorem si_muE_33 : type_of% @muE.eq_33 := @muE.eq_33
@[simp 966] theorem si_muE_34 : type_of% @muE.eq_34 := @muE.eq_34
@[simp 965] theorem si_muE_35 : type_of% @muE.eq_35 := @muE.eq_35
@[simp 999] theorem si_muT_1 : type_of% @muT.eq_1 := @muT.eq_1
@[simp 998] theorem si_muT_2 : type_of% @muT.eq_2 := @muT.eq_2
@[simp 999] theorem si_muEs_1 : type_of% @muEs.eq_1 := @muEs.eq_1
@[simp 998] theorem si_muEs_2 : type_of% @muEs.eq_2 := @muEs.eq_2
@[simp 999] theorem si_muTs_1 : type_of% @muTs.eq_1 := @muTs.eq_1
@[simp 998] theorem si_muTs_2 : type_of% @muTs.eq_2 := @muTs.eq_2
@[simp 999] theorem si_cmpD_1 : type_of% @cmpD.eq_1 := @cmpD.eq_1
@[simp 998] theorem si_cmpD_2 : type_of% @cmpD.eq_2 := @cmpD.eq_2
@[simp 997] theorem si_cmpD_3 : type_of% @cmpD.eq_3 := @cmpD.eq_3
@[simp 996] theorem si_cmpD_4 : type_of% @cmpD.eq_4 := @cmpD.eq_4
@[simp 995] theorem si_cmpD_5 : type_of% @cmpD.eq_5 := @cmpD.eq_5
@[simp 994] theorem si_cmpD_6 : type_of% @cmpD.eq_6 := @cmpD.eq_6
@[simp 993] theorem si_cmpD_7 : type_of% @cmpD.eq_7 := @cmpD.eq_7
@[simp 992] theorem si_cmpD_8 : type_of% @cmpD.eq_8 := @cmpD.eq_8
@[simp 991] theorem si_cmpD_9 : type_of% @cmpD.eq_9 := @cmpD.eq_9
@[simp 990] theorem si_cmpD_10 : type_of% @cmpD.eq_10 := @cmpD.eq_10
@[simp 989] theorem si_cmpD_11 : type_of% @cmpD.eq_11 := @cmpD.eq_11
@[simp 988] theorem si_cmpD_12 : type_of% @cmpD.eq_12 := @cmpD.eq_12
@[simp 987] theorem si_cmpD_13 : type_of% @cmpD.eq_13 := @cmpD.eq_13
@[simp 986] theorem si_cmpD_14 : type_of% @cmpD.eq_14 := @cmpD.eq_14
@[simp 999] theorem si_forB_1 : type_of% @forB.eq_1 := @forB.eq_1
@[simp 999] theorem si_lcB_1 : type_of% @lcB.eq_1 := @lcB.eq_1
@[simp 999] theorem si_nlB_1 : type_of% @nlB.eq_1 := @nlB.eq_1
@[simp 999] theorem si_foLoop_1 : type_of% @foLoop.eq_1 := @foLoop.eq_1
@[simp 998] theorem si_foLoop_2 : type_of% @foLoop.eq_2 := @foLoop.eq_2
@[simp 999] theorem si_lcLoop_1 : type_of% @lcLoop.eq_1 := @lcLoop.eq_1
@[simp 998] theorem si_lcLoop_2 : type_of% @lcLoop.eq_2 := @lcLoop.eq_2
@[simp 999] theorem si_nlLoop_1 : type_of% @nlLoop.eq_1 := @nlLoop.eq_1
@[simp 998] theorem si_nlLoop_2 : type_of% @nlLoop.eq_2 := @nlLoop.eq_2
@[simp 999] theorem si_bindP_1 : type_of% @bindP.eq_1 := @bindP.eq_1
@[simp 998] theorem si_bindP_2 : type_of% @bindP.eq_2 := @bindP.eq_2
@[simp 997] theorem si_bindP_3 : type_of% @bindP.eq_3 := @bindP.eq_3
@[simp 999] theorem si_bindPs_1 : type_of% @bindPs.eq_1 := @bindPs.eq_1
@[simp 998] theorem si_bindPs_2 : type_of% @bindPs.eq_2 := @bindPs.eq_2
@[simp 997] theorem si_bindPs_3 : type_of% @bindPs.eq_3 := @bindPs.eq_3
@[simp 999] theorem si_itR_1 : type_of% @itR.eq_1 := @itR.eq_1
@[simp 999] theorem si_putI_1 : type_of% @putI.eq_1 := @putI.eq_1
@[simp 998] theorem si_putI_2 : type_of% @putI.eq_2 := @putI.eq_2
@[simp 997] theorem si_putI_3 : type_of% @putI.eq_3 := @putI.eq_3
@[simp 999] theorem si_P_slots_1 : type_of% @P.slots.eq_1 := @P.slots.eq_1
@[simp 998] theorem si_P_slots_2 : type_of% @P.slots.eq_2 := @P.slots.eq_2
@[simp 999] theorem si_P_slotsL_1 : type_of% @P.slotsL.eq_1 := @P.slotsL.eq_1
@[simp 998] theorem si_P_slotsL_2 : type_of% @P.slotsL.eq_2 := @P.slotsL.eq_2
@[simp 999] theorem si_muS_1 : type_of% @muS.eq_1 := @muS.eq_1
@[simp 998] theorem si_muS_2 : type_of% @muS.eq_2 := @muS.eq_2
@[simp 997] theorem si_muS_3 : type_of% @muS.eq_3 := @muS.eq_3
@[simp 996] theorem si_muS_4 : type_of% @muS.eq_4 := @muS.eq_4
@[simp 995] theorem si_muS_5 : type_of% @muS.eq_5 := @muS.eq_5
@[simp 994] theorem si_muS_6 : type_of% @muS.eq_6 := @muS.eq_6
@[simp 993] theorem si_muS_7 : type_of% @muS.eq_7 := @muS.eq_7
@[simp 992] theorem si_muS_8 : type_of% @muS.eq_8 := @muS.eq_8
@[simp 991] theorem si_muS_9 : type_of% @muS.eq_9 := @muS.eq_9
@[simp 990] theorem si_muS_10 : type_of% @muS.eq_10 := @muS.eq_10
@[simp 989] theorem si_muS_11 : type_of% @muS.eq_11 := @muS.eq_11
@[simp 988] theorem si_muS_12 : type_of% @muS.eq_12 := @muS.eq_12
@[simp 987] theorem si_muS_13 : type_of% @muS.eq_13 := @muS.eq_13
@[simp 986] theorem si_muS_14 : type_of% @muS.eq_14 := @muS.eq_14
@[simp 985] theorem si_muS_15 : type_of% @muS.eq_15 := @muS.eq_15
@[simp 984] theorem si_muS_16 : type_of% @muS.eq_16 := @muS.eq_16
@[simp 983] theorem si_muS_17 : type_of% @muS.eq_17 := @muS.eq_17
@[simp 982] theorem si_muS_18 : type_of% @muS.eq_18 := @muS.eq_18
@[simp 981] theorem si_muS_19 : type_of% @muS.eq_19 := @muS.eq_19
@[simp 980] theorem si_muS_20 : type_of% @muS.eq_20 := @muS.eq_20
@[simp 979] theorem si_muS_21 : type_of% @muS.eq_21 := @muS.eq_21
@[simp 999] theorem si_muSs_1 : type_of% @muSs.eq_1 := @muSs.eq_1
@[simp 998] theorem si_muSs_2 : type_of% @muSs.eq_2 := @muSs.eq_2
@[simp 999] theorem si_muO_1 : type_of% @muO.eq_1 := @muO.eq_1
@[simp 998] theorem si_muO_2 : type_of% @muO.eq_2 := @muO.eq_2
@[simp 999] theorem si_asS_1 : type_of% @asS.eq_1 := @asS.eq_1
@[simp 998] theorem si_asS_2 : type_of% @asS.eq_2 := @asS.eq_2
@[simp 997] theorem si_asS_3 : type_of% @asS.eq_3 := @asS.eq_3
@[simp 996] theorem si_asS_4 : type_of% @asS.eq_4 := @asS.eq_4
@[simp 995] theorem si_asS_5 : type_of% @asS.eq_5 := @asS.eq_5
@[simp 994] theorem si_asS_6 : type_of% @asS.eq_6 := @asS.eq_6
@[simp 993] theorem si_asS_7 : type_of% @asS.eq_7 := @asS.eq_7
@[simp 992] theorem si_asS_8 : type_of% @asS.eq_8 := @asS.eq_8
@[simp 991] theorem si_asS_9 : type_of% @asS.eq_9 := @asS.eq_9
@[simp 990] theorem si_asS_10 : type_of% @asS.eq_10 := @asS.eq_10
@[simp 989] theorem si_asS_11 : type_of% @asS.eq_11 := @asS.eq_11
@[simp 988] theorem si_asS_12 : type_of% @asS.eq_12 := @asS.eq_12
@[simp 987] theorem si_asS_13 : type_of% @asS.eq_13 := @asS.eq_13
@[simp 986] theorem si_asS_14 : type_of% @asS.eq_14 := @asS.eq_14
@[simp 985] theorem si_asS_15 : type_of% @asS.eq_15 := @asS.eq_15
@[simp 984] theorem si_asS_16 : type_of% @asS.eq_16 := @asS.eq_16
@[simp 983] theorem si_asS_17 : type_of% @asS.eq_17 := @asS.eq_17
@[simp 982] theorem si_asS_18 : type_of% @asS.eq_18 := @asS.eq_18
@[simp 981] theorem si_asS_19 : type_of% @asS.eq_19 := @asS.eq_19
@[simp 980] theorem si_asS_20 : type_of% @asS.eq_20 := @asS.eq_20
@[simp 979] theorem si_asS_21 : type_of% @asS.eq_21 := @asS.eq_21
@[simp 999] theorem si_asSs_1 : type_of% @asSs.eq_1 := @asSs.eq_1
@[simp 998] theorem si_asSs_2 : type_of% @asSs.eq_2 := @asSs.eq_2
@[simp 999] theorem si_subD_1 : type_of% @subD.eq_1 := @subD.eq_1
@[simp 998] theorem si_subD_2 : type_of% @subD.eq_2 := @subD.eq_2
@[simp 997] theorem si_subD_3 : type_of% @subD.eq_3 := @subD.eq_3
@[simp 996] theorem si_subD_4 : type_of% @subD.eq_4 := @subD.eq_4
@[simp 995] theorem si_subD_5 : type_of% @subD.eq_5 := @subD.eq_5
@[simp 999] theorem si_atD_1 : type_of% @atD.eq_1 := @atD.eq_1
@[simp 999] theorem si_ixOf_1 : type_of% @ixOf.eq_1 := @ixOf.eq_1
@[simp 999] theorem si_R_ofOpt_1 : type_of% @R.ofOpt.eq_1 := @R.ofOpt.eq_1
@[simp 998] theorem si_R_ofOpt_2 : type_of% @R.ofOpt.eq_2 := @R.ofOpt.eq_2
@[simp 999] theorem si_binD_1 : type_of% @binD.eq_1 := @binD.eq_1
@[simp 998] theorem si_binD_2 : type_of% @binD.eq_2 := @binD.eq_2
@[simp 997] theorem si_binD_3 : type_of% @binD.eq_3 := @binD.eq_3
@[simp 996] theorem si_binD_4 : type_of% @binD.eq_4 := @binD.eq_4
@[simp 995] theorem si_binD_5 : type_of% @binD.eq_5 := @binD.eq_5
@[simp 994] theorem si_binD_6 : type_of% @binD.eq_6 := @binD.eq_6
@[simp 993] theorem si_binD_7 : type_of% @binD.eq_7 := @binD.eq_7
@[simp 992] theorem si_binD_8 : type_of% @binD.eq_8 := @binD.eq_8
@[simp 991] theorem si_binD_9 : type_of% @binD.eq_9 := @binD.eq_9
@[simp 990] theorem si_binD_10 : type_of% @binD.eq_10 := @binD.eq_10
@[simp 989] theorem si_binD_11 : type_of% @binD.eq_11 := @binD.eq_11
@[simp 988] theorem si_binD_12 : type_of% @binD.eq_12 := @binD.eq_12
@[simp 999] theorem si_intR_1 : type_of% @intR.eq_1 := @intR.eq_1
@[simp 998] theorem si_intR_2 : type_of% @intR.eq_2 := @intR.eq_2
@[simp 999] theorem si_M_seq_1 : type_of% @M.seq.eq_1 := @M.seq.eq_1
@[simp 998] theorem si_M_seq_2 : type_of% @M.seq.eq_2 := @M.seq.eq_2
@[simp 997] theorem si_M_seq_3 : type_of% @M.seq.eq_3 := @M.seq.eq_3
@[simp] theorem si_ex_for : type_of% @ex_for := @ex_for
@[simp] theorem si_ev_lc : type_of% @ev_lc := @ev_lc
@[simp] theorem si_ev_nl : type_of% @ev_nl := @ev_nl
end TR

set_option linter.all false
namespace LB
open PySem TR
theorem is_integer_int (v : Int) : d_f_is_integer [.int v] = .ok (.pu (.bool true)) := by rfl
@[simp] theorem ord_ii (a b : Int) (f : D → D → Bool) : ordC (.pu (.int a)) (.pu (.int b)) f = .ok (f (.int a) (.int b)) := by
  simp [ordC, okD, W.alike, notNon, PyData.plain, PyData.depth]
@[simp] theorem lt_ii (a b : Int) : W.dataLt (.int a) (.int b) = decide (a < b) := by
  simp [W.dataLt, W.keyToks, PyProof.Rows.lexLt, PyProof.Rows.itemOrd, PyProof.Rows.itemLt]
@[simp] theorem eqv_ii (a b : Int) : PyData.eqv (.int a) (.int b) = decide (a = b) := by simp [PyData.eqv]; first | done | rfl | skip
theorem is_in_int (v a b : Int) (h : a ≤ v) (h2 : v ≤ b) : d_f_is_in [.int v, .int a, .int b] = .ok (.pu (.bool true)) := by
  simp [d_f_is_in, b_f_is_in, g_f_is_in, is_integer_int, h, h2, Int.not_lt]
theorem is_list_tup (xs : List D) (a b : Int) (h : a ≤ xs.length) (h2 : (xs.length : Int) ≤ b) : d_f_is_list [.tuple xs, .int a, .int b] = .ok (.pu (.bool true)) := by
  simp [d_f_is_list, b_f_is_list, g_f_is_list, h, h2, Int.not_lt]
theorem need_yard_ok (c s : Int) (h1 : 1 ≤ c) (h2 : c ≤ 7) (h3 : 2 ≤ s) (h4 : s ≤ 8) : d_f_need_yard [.tuple [.int c, .int s]] = .ok (.pu .none) := by
  simp [d_f_need_yard, b_f_need_yard, g_f_need_yard, is_in_int, is_list_tup, h1, h2, h3, h4, subD, atD, ixOf, R.ofOpt]
theorem need_car_ok (c s k : Int) (h1 : 0 ≤ k) (h2 : k < c) : d_f_need_car [.tuple [.int c, .int s], .int k] = .ok (.pu .none) := by
  have h3 : k ≤ c - 1 := by omega
  simp [d_f_need_car, b_f_need_car, g_f_need_car, is_in_int, h1, h2, h3, subD, atD, ixOf, R.ofOpt, binD]
end LB

set_option linter.all false
namespace LB
open PySem TR
theorem foLoop_inv {f : D → TR.Env → R Out} (I : Nat → TR.Env → Prop) (xs : List D)
    (h : ∀ i (hi : i < xs.length) en, I i en → ∃ e2, f xs[i] en = .ok (.nx e2) ∧ I (i + 1) e2) :
    ∀ n k env, xs.length = k + n → I k env → ∃ e2, foLoop f (xs.drop k) env = .ok (.nx e2) ∧ I xs.length e2 := by
  intro n
  induction n with
  | zero => intro k env hk h0; rw [List.drop_eq_nil_of_le (by omega)]; exact ⟨env, by simp [foLoop], by rw [hk]; exact h0⟩
  | succ n ih =>
    intro k env hk h0
    obtain ⟨e2, h1, h2⟩ := h k (by omega) env h0
    obtain ⟨e3, h3, h4⟩ := ih (k + 1) e2 (by omega) h2
    refine ⟨e3, ?_, h4⟩
    rw [List.drop_eq_getElem_cons (by omega)]
    simp [foLoop, h1, h3]
theorem foLoop_all {f : D → TR.Env → R Out} (I : Nat → TR.Env → Prop) (xs : List D) (env : TR.Env) (h0 : I 0 env)
    (h : ∀ i (hi : i < xs.length) en, I i en → ∃ e2, f xs[i] en = .ok (.nx e2) ∧ I (i + 1) e2) :
    ∃ e2, foLoop f xs env = .ok (.nx e2) ∧ I xs.length e2 := by
  have := foLoop_inv I xs h xs.length 0 env (by omega) h0
  simpa using this

/-- a state as data -/
def trD (t : List Nat) : D := .tuple (t.map fun c => .int (c : Nat))
def stD (st : List (List Nat)) : D := .tuple (st.map trD)
/-- a state that holds every car once -/
structure Good (c s : Nat) (st : List (List Nat)) : Prop where
  hs : st.length = s
  hc : st.flatten.Perm (List.range c)
def metD (xs : List Nat) : List (D × D) := xs.map fun (c : Nat) => (.int c, .bool true)
theorem metD_fit (xs : List Nat) (c : Nat) : keyFit (metD xs) (.int c) = true := by
  simp [keyFit, atomKey, metD]
theorem metD_look (xs : List Nat) (c : Nat) (h : c ∉ xs) : dLook (metD xs) (.int c) = none := by
  simp only [dLook, metD, Option.map_eq_none_iff, List.find?_eq_none, List.mem_map]
  rintro x ⟨a, ha, rfl⟩
  simp
  intro e; exact h (Int.ofNat.inj e ▸ ha)
theorem metD_put (xs : List Nat) (c : Nat) (h : c ∉ xs) : dPut (metD xs) (.int c) (.bool true) = metD (xs ++ [c]) := by
  have : ((metD xs).any fun kv => PyData.eqv kv.1 (.int c)) = false := by
    simp only [metD, List.any_map, List.any_eq_false, Function.comp]
    intro a ha
    simp
    intro e; exact h (Int.ofNat.inj e ▸ ha)
  simp only [dPut, this]
  simp [metD]
def bIn : List S := [(.ifs (.or (.not (.call 1 [(.var 7), (.cst (.int 0)), (.bin .sub (.var 2) (.cst (.int 1)))])) (.cmp .inn (.var 7) (.var 4))) [(.do_ (.star (.cst .none)))] []), (.setI 4 (.var 7) (.cst (.bool true)))]
theorem met_all (t : List Nat) (c : Nat) (a0 a1 a2 a5 a6 : Option M) (hc : ∀ k ∈ t, k < c) : ∀ (seen : List Nat) (a4 : Option M) , (seen ++ t).Nodup → seen.length + t.length < big →
    ∃ e, foLoop (forB g_f_need_trains (.v 7) bIn) (t.map fun (c : Nat) => .int c)
      [a0, a1, some (.pu (.int c)), a2, some (.di (metD seen)), a5, a6, a4] = .ok (.nx [a0, a1, some (.pu (.int c)), a2, some (.di (metD (seen ++ t))), a5, a6, e]) := by
  induction t with
  | nil => intro seen a4 _ _; exact ⟨a4, by simp⟩
  | cons k t ih =>
    intro seen a4 hn hb
    have hk : k ∉ seen := by
      intro h; simp [List.nodup_append] at hn; exact (hn.2.2 k h).1 rfl
    have hlt := hc k (by simp)
    have h1 : (k : Int) ≤ c - 1 := by omega
    obtain ⟨e, he⟩ := ih (fun j hj => hc j (by simp [hj])) (seen ++ [k]) (some (.pu (.int k))) (by simpa using hn) (by simp at hb ⊢; omega)
    refine ⟨e, ?_⟩
    rw [List.append_assoc, List.singleton_append] at he
    rw [← he]
    have hl : (metD seen).length < big := by simp [metD]; simp at hb; omega
    simp [bIn, g_f_need_trains, is_in_int, h1, metD_fit, metD_look _ _ hk, metD_put _ _ hk, hl]
end LB

set_option linter.all false
namespace LB
open PySem TR
def bOut : List S := [(.ifs (.not (.call 0 [(.var 6), (.cst (.int 0)), (.var 2)])) [(.do_ (.star (.cst .none)))] []), (.for_ (.v 7) (.var 6) bIn)]
theorem out_all (c : Nat) (hc7 : c ≤ 7) (a0 a1 a3 : Option M) (st : List (List Nat)) (hc : ∀ t ∈ st, ∀ k ∈ t, k < c) (hl : ∀ t ∈ st, t.length ≤ c) : ∀ (n : Nat) (seen : List Nat) (a5 a6 a7 : Option M),
    (seen ++ st.flatten).Nodup → seen.length + st.flatten.length ≤ c →
    ∃ e5 e6 e7, foLoop (forB g_f_need_trains (.t [(.v 5), (.v 6)]) bOut) (enmD (st.map trD) n)
      [a0, a1, some (.pu (.int c)), a3, some (.di (metD seen)), a5, a6, a7] = .ok (.nx [a0, a1, some (.pu (.int c)), a3, some (.di (metD (seen ++ st.flatten))), e5, e6, e7]) := by
  induction st with
  | nil => intro n seen a5 a6 a7 _ _; exact ⟨a5, a6, a7, by simp [enmD]⟩
  | cons t st ih =>
    intro n seen a5 a6 a7 hn hb
    have ht := hl t (by simp)
    have hlt : (t.length : Int) ≤ c := by omega
    obtain ⟨e, he⟩ := met_all t c a0 a1 a3 (some (.pu (.int n))) (some (.pu (trD t))) (hc t (by simp)) seen a7 (by simp at hn ⊢; exact hn.sublist (by simp)) (by simp [big] at hb ⊢; omega)
    obtain ⟨e5, e6, e7, h7⟩ := ih (fun t ht => hc t (by simp [ht])) (fun t ht => hl t (by simp [ht])) (n + 1) (seen ++ t) (some (.pu (.int n))) (some (.pu (trD t))) e (by simpa using hn) (by simp at hb ⊢; omega)
    refine ⟨e5, e6, e7, ?_⟩
    simp only [List.flatten_cons, ← List.append_assoc]
    rw [← h7]
    have hf : g_f_need_trains[0]? = some (.pr d_f_is_list) := rfl
    have hL : d_f_is_list [trD t, .int 0, .int c] = .ok (.pu (.bool true)) := is_list_tup _ _ _ (by simp) (by simpa using hlt)
    have hs : itR (.pu (trD t)) = .ok (t.map fun (c : Nat) => .int c) := rfl
    simp [enmD, bOut, hf, hL, -si_itR_1, hs, he]
end LB

set_option linter.all false
namespace LB
open PySem TR
def ydD (c s : Nat) : D := .tuple [.int c, .int s]
theorem need_trains_ok (c s : Nat) (st : List (List Nat)) (h7 : c ≤ 7) (h : Good c s st) : d_f_need_trains [ydD c s, stD st] = .ok (.pu .none) := by
  have hn : st.flatten.Nodup := h.hc.nodup_iff.2 List.nodup_range
  have hlen : st.flatten.length = c := by rw [h.hc.length_eq, List.length_range]
  have hlt : ∀ t ∈ st, ∀ k ∈ t, k < c := fun t ht k hk => by
    have := (h.hc.mem_iff (a := k)).1 (List.mem_flatten.2 ⟨t, ht, hk⟩)
    simpa using this
  have hl : ∀ t ∈ st, t.length ≤ c := fun t ht => by
    rw [← hlen]; exact (List.sublist_flatten_of_mem ht).length_le
  obtain ⟨e5, e6, e7, h8⟩ := out_all c h7 (some (.pu (ydD c s))) (some (.pu (stD st))) (some (.pu (.int s))) st hlt hl 0 [] none none none (by simpa using hn) (by simp [hlen])
  have hL : d_f_is_list [stD st, .int s, .int s] = .ok (.pu (.bool true)) := is_list_tup _ _ _ (by simp [h.hs]) (by simp [h.hs])
  have hf : g_f_need_trains[0]? = some (.pr d_f_is_list) := rfl
  have hs : M.seq (.pu (stD st)) = .ok (st.map trD) := rfl
  have hm : metD [] = [] := rfl
  have hm2 : (metD st.flatten).length = c := by simp only [metD, List.length_map, hlen]
  simp only [ydD, List.nil_append, hm] at h8
  have hb : b_f_need_trains.getD 3 .pass = .for_ (.t [(.v 5), (.v 6)]) (.enm (.var 1)) bOut := rfl
  simp only [bOut, bIn] at h8
  simp [d_f_need_trains, b_f_need_trains, ydD, hf, hL, hs, itR, h8, hm2]
end LB

set_option linter.all false
namespace LB
open PySem TR
structure GoodY (c s : Nat) : Prop where
  c1 : 1 ≤ c
  c7 : c ≤ 7
  s2 : 2 ≤ s
  s8 : s ≤ 8
theorem need_state_ok (c s : Nat) (st : List (List Nat)) (hy : GoodY c s) (h : Good c s st) : d_f_need_state [ydD c s, stD st] = .ok (.pu .none) := by
  have h1 : d_f_need_yard [ydD c s] = .ok (.pu .none) := need_yard_ok c s (by have := hy.c1; omega) (by have := hy.c7; omega) (by have := hy.s2; omega) (by have := hy.s8; omega)
  have h2 := need_trains_ok c s st hy.c7 h
  simp [d_f_need_state, b_f_need_state, g_f_need_state, h1, h2]

/-- a walk that keeps some items -/
theorem lcLoop_f {f : D → TR.Env → R (Option D × TR.Env)} (g : D → Option D) (I : TR.Env → Prop) (xs : List D)
    (h : ∀ x ∈ xs, ∀ en, I en → ∃ e2, f x en = .ok (g x, e2) ∧ I e2) : ∀ env, I env → ∃ e2, lcLoop f xs env = .ok (xs.filterMap g, e2) ∧ I e2 := by
  induction xs with
  | nil => intro env h0; exact ⟨env, by simp, h0⟩
  | cons x xs ih =>
    intro env h0
    obtain ⟨e2, h1, h2⟩ := h x (by simp) env h0
    obtain ⟨e3, h3, h4⟩ := ih (fun y hy => h y (by simp [hy])) e2 h2
    refine ⟨e3, ?_, h4⟩
    cases hg : g x <;> simp [h1, h3, hg]
end LB

set_option linter.all false
namespace LB
open PySem TR
def hasT (k : Nat) (t : List Nat) : Bool := decide (k ∈ t)
def keepSt (k : Nat) : D → Option D
  | .tuple [i, .tuple cs] => if cs.any (fun z => PyData.eqv z (.int k)) then some i else none
  | _ => none
theorem any_trD (t : List Nat) (k : Nat) : ((t.map fun (c : Nat) => PyData.int c).any fun z => PyData.eqv z (.int k)) = decide (k ∈ t) := by
  induction t with
  | nil => simp
  | cons a t ih =>
    simp only [List.map_cons, List.any_cons, ih, eqv_ii]
    rw [Bool.eq_iff_iff]
    simp
    constructor
    · rintro (h | h)
      · exact .inl (Int.ofNat.inj h).symm
      · exact .inr h
    · rintro (h | h)
      · exact .inl (by rw [h])
      · exact .inr h
theorem keep_head (k : Nat) (st : List (List Nat)) (n : Nat) (h : ∃ t ∈ st, k ∈ t) :
    ((enmD (st.map trD) n).filterMap (keepSt k))[0]? = some (.int ((n + st.findIdx (hasT k) : Nat) : Int)) := by
  induction st generalizing n with
  | nil => simp at h
  | cons t st ih =>
    simp only [List.map_cons, enmD]
    by_cases hk : k ∈ t
    · simp [keepSt, trD, any_trD, hk, List.findIdx_cons, hasT, -List.any_map]
    · have := ih (n + 1) (by simpa [hk] using h)
      simp [keepSt, trD, any_trD, hk, List.findIdx_cons, hasT, -List.any_map] at this ⊢
      rw [this]; congr 2; omega
end LB

set_option linter.all false
namespace LB
open PySem TR
theorem plainAll_of (xs : List D) (h : ∀ x ∈ xs, x.plain = true) : PyData.plainAll xs = true := by
  induction xs with
  | nil => simp [PyData.plainAll]
  | cons x xs ih => simp [PyData.plainAll, h x (by simp), ih (fun y hy => h y (by simp [hy]))]
theorem depthAll_of (n : Nat) (xs : List D) (h : ∀ x ∈ xs, x.depth ≤ n) : PyData.depthAll xs ≤ n := by
  induction xs with
  | nil => simp [PyData.depthAll]
  | cons x xs ih => 
    have h1 := h x (by simp)
    have h2 := ih (fun y hy => h y (by simp [hy]))
    simp only [PyData.depthAll]; omega
theorem okD_int (i : Int) : okD (.int i) = true := by simp [okD, PyData.plain, PyData.depth]
theorem trD_plain (t : List Nat) : (trD t).plain = true := by
  simp only [trD, PyData.plain]
  exact plainAll_of _ (by simp [PyData.plain])
theorem trD_depth (t : List Nat) : (trD t).depth ≤ 3 := by
  have := depthAll_of 2 (t.map fun (c : Nat) => PyData.int c) (by simp [PyData.depth])
  simp only [trD, PyData.depth]; omega
theorem okD_trD (t : List Nat) : okD (trD t) = true := by
  have := trD_depth t
  simp [okD, trD_plain]; omega
theorem okD_stD (st : List (List Nat)) : okD (stD st) = true := by
  have h1 := depthAll_of 3 (st.map trD) (by simp [trD_depth])
  have h2 := plainAll_of (st.map trD) (by simp [trD_plain])
  simp only [okD, stD, PyData.plain, PyData.depth, h2]; simp; omega
theorem keep_step (st : List (List Nat)) (k : Nat) (a0 : Option M) : ∀ n : Nat, ∀ x ∈ enmD (st.map trD) n, ∀ en, (∃ a2 a3, en = [a0, some (.pu (.int k)), a2, a3]) →
    ∃ e2, lcB g_f_station_in [2, 3] (.var 2) (.t [(.v 2), (.v 3)]) [(.cmp .inn (.var 1) (.var 3))] x en = .ok (keepSt k x, e2) ∧ (∃ a2 a3, e2 = [a0, some (.pu (.int k)), a2, a3]) := by
  induction st with
  | nil => intro n x hx; simp [enmD] at hx
  | cons t st ih =>
    intro n x hx en hen
    simp only [List.map_cons, enmD, List.mem_cons] at hx
    rcases hx with rfl | hx
    · obtain ⟨a2, a3, rfl⟩ := hen
      have h1 := okD_trD t
      simp only [trD] at h1
      by_cases hk : k ∈ t <;> simp [wipeE, trD, keepSt, any_trD, hk, -List.any_map, okD_int, h1]
    · exact ih (n + 1) x hx en hen
end LB

set_option linter.all false
namespace LB
open PySem TR
theorem enmD_len (xs : List D) : ∀ n, (enmD xs n).length = xs.length := by
  induction xs with
  | nil => intro n; simp [enmD]
  | cons x xs ih => intro n; simp [enmD, ih]
theorem station_in_ok (st : List (List Nat)) (k : Nat) (h : ∃ t ∈ st, k ∈ t) (hb : st.length ≤ 1000) :
    d_f_station_in [stD st, .int k] = .ok (.pu (.int (st.findIdx (hasT k) : Nat))) := by
  obtain ⟨e2, h1, a2, a3, rfl⟩ := lcLoop_f (keepSt k) _ _ (fun x hx en hen => keep_step st k (some (.pu (stD st))) 0 x hx en hen) [some (.pu (stD st)), some (.pu (.int k)), none, none] ⟨_, _, rfl⟩
  have h0 := keep_head k st 0 h
  have hs : M.seq (.pu (stD st)) = .ok (st.map trD) := rfl
  have hl : ((enmD (st.map trD) 0).filterMap (keepSt k)).length ≤ big := by
    refine Nat.le_trans (List.length_filterMap_le _ _) ?_
    rw [enmD_len, List.length_map, big]; omega
  have hn : nlAt (.li (enmD (st.map trD) 0)) (.enm (.var 0)) = none := rfl
  simp only [Nat.zero_add] at h0
  have hp : 0 < ((enmD (st.map trD) 0).filterMap (keepSt k)).length := by
    rcases Nat.eq_zero_or_pos ((enmD (st.map trD) 0).filterMap (keepSt k)).length with h | h
    · rw [List.length_eq_zero_iff] at h; rw [h] at h0; simp at h0
    · exact h
  simp [d_f_station_in, b_f_station_in, den, subs, hn, hs, h1, hl, backE, M.isNl]
  rw [if_pos hp]; simp [h0]
end LB

set_option linter.all false
namespace LB
open PySem TR
theorem station_of_ok (c s k : Nat) (st : List (List Nat)) (hy : GoodY c s) (h : Good c s st) (hk : k < c) :
    d_f_station_of [ydD c s, stD st, .int k] = .ok (.pu (.int (st.findIdx (hasT k) : Nat))) := by
  have h1 := need_state_ok c s st hy h
  have h2 : d_f_need_car [ydD c s, .int k] = .ok (.pu .none) := need_car_ok c s k (by omega) (by omega)
  have h3 : ∃ t ∈ st, k ∈ t := by
    have := (h.hc.mem_iff (a := k)).2 (by simpa using hk)
    simpa [List.mem_flatten] using this
  have h4 := station_in_ok st k h3 (by rw [h.hs]; have := hy.s8; omega)
  simp [d_f_station_of, b_f_station_of, g_f_station_of, h1, h2, h4]
theorem findIdx_lt (c s k : Nat) (st : List (List Nat)) (h : Good c s st) (hk : k < c) : st.findIdx (hasT k) < st.length := by
  have := (h.hc.mem_iff (a := k)).2 (by simpa using hk)
  rw [List.findIdx_lt_length]
  simpa [List.mem_flatten, hasT] using this
theorem seq_stD (st : List (List Nat)) : M.seq (.pu (stD st)) = .ok (st.map trD) := rfl
theorem sub_stD (st : List (List Nat)) (i : Nat) (h : i < st.length) : subD (.pu (stD st)) (.pu (.int i)) = .ok (.pu (trD (st.getD i []))) := by
  simp [stD, h, List.getD]
theorem train_of_ok (c s k : Nat) (st : List (List Nat)) (hy : GoodY c s) (h : Good c s st) (hk : k < c) :
    d_f_train_of [ydD c s, stD st, .int k] = .ok (.pu (trD (st.getD (st.findIdx (hasT k)) []))) := by
  have h1 := need_state_ok c s st hy h
  have h2 : d_f_need_car [ydD c s, .int k] = .ok (.pu .none) := need_car_ok c s k (by omega) (by omega)
  have h3 : ∃ t ∈ st, k ∈ t := by
    have := (h.hc.mem_iff (a := k)).2 (by simpa using hk)
    simpa [List.mem_flatten] using this
  have h4 := station_in_ok st k h3 (by rw [h.hs]; have := hy.s8; omega)
  have h5 := sub_stD st _ (findIdx_lt c s k st h hk)
  simp [d_f_train_of, b_f_train_of, g_f_train_of, h1, h2, h4, -si_subD_1, -si_subD_2, -si_subD_3, -si_subD_4, -si_subD_5, h5]
end LB

set_option linter.all false
namespace LB
open PySem TR
def keepTr : D → Option D
  | .tuple [i, .tuple []] => none
  | .tuple [i, t] => some (.tuple [i, t])
  | _ => none
theorem keepTr_step (st : List (List Nat)) (a0 : Option M) : ∀ n : Nat, ∀ x ∈ enmD (st.map trD) n, ∀ en, (∃ a2 a3, en = [a0, a2, a3]) →
    ∃ e2, lcB g_f_trains_in [1, 2] (.tup [(.var 1), (.var 2)]) (.t [(.v 1), (.v 2)]) [(.cmp .ne (.var 2) (.tup []))] x en = .ok (keepTr x, e2) ∧ (∃ a2 a3, e2 = [a0, a2, a3]) := by
  induction st with
  | nil => intro n x hx; simp [enmD] at hx
  | cons t st ih =>
    intro n x hx en hen
    simp only [List.map_cons, enmD, List.mem_cons] at hx
    rcases hx with rfl | hx
    · obtain ⟨a2, a3, rfl⟩ := hen
      have h1 := okD_trD t
      have h2 : okD (.tuple []) = true := okD_trD []
      cases t with
      | nil => simp [wipeE, trD, keepTr, h2, M.toD, PyData.eqv, PyData.eqvAll, big]
      | cons a t =>
        simp only [trD, List.map_cons] at h1
        simp [wipeE, trD, keepTr, h1, h2, M.toD, PyData.eqv, PyData.eqvAll, big]
    · exact ih (n + 1) x hx en hen
theorem trains_in_ok (st : List (List Nat)) (hb : st.length ≤ 1000) :
    d_f_trains_in [stD st] = .ok (.li ((enmD (st.map trD) 0).filterMap keepTr)) := by
  obtain ⟨e2, h1, a2, a3, rfl⟩ := lcLoop_f keepTr _ _ (fun x hx en hen => keepTr_step st (some (.pu (stD st))) 0 x hx en hen) [some (.pu (stD st)), none, none] ⟨_, _, rfl⟩
  have hs : M.seq (.pu (stD st)) = .ok (st.map trD) := rfl
  have hl : ((enmD (st.map trD) 0).filterMap keepTr).length ≤ big := by
    refine Nat.le_trans (List.length_filterMap_le _ _) ?_
    rw [enmD_len, List.length_map, big]; omega
  have hn : nlAt (.li (enmD (st.map trD) 0)) (.enm (.var 0)) = none := rfl
  simp [d_f_trains_in, b_f_trains_in, den, subs, hn, hs, h1, hl, backE, M.isNl]
theorem trains_ok (c s : Nat) (st : List (List Nat)) (hy : GoodY c s) (h : Good c s st) :
    d_f_trains [ydD c s, stD st] = .ok (.pu (.tuple ((enmD (st.map trD) 0).filterMap keepTr))) := by
  have h1 := need_state_ok c s st hy h
  have h4 := trains_in_ok st (by rw [h.hs]; have := hy.s8; omega)
  simp [d_f_trains, b_f_trains, g_f_trains, h1, h4, tupM]
theorem count_trains_ok (c s : Nat) (st : List (List Nat)) (hy : GoodY c s) (h : Good c s st) :
    d_f_count_trains [ydD c s, stD st] = .ok (.pu (.int ((enmD (st.map trD) 0).filterMap keepTr).length)) := by
  have h1 := need_state_ok c s st hy h
  have h4 := trains_in_ok st (by rw [h.hs]; have := hy.s8; omega)
  simp [d_f_count_trains, b_f_count_trains, g_f_count_trains, h1, h4]
end LB

set_option linter.all false
namespace LB
open PySem TR
def fsD (c s : Nat) : D := .tuple (.tuple (rngD 0 c) :: (List.replicate ((s : Int) - 1).toNat [.tuple []]).flatten)
theorem rgB_ok (c : Nat) (h : c ≤ 1000) : rgB 0 (c : Int) = true := by
  simp only [rgB, rgC, Bool.and_eq_true, decide_eq_true_eq]; omega
theorem rgC_ok (c : Nat) (h : c ≤ 1000) : rgC 0 (c : Int) = true := by
  simp only [rgC, decide_eq_true_eq]; omega
theorem mul_ok (x : D) (s : Nat) (h2 : 2 ≤ s) (h8 : s ≤ 8) : binD .mul (.pu (.tuple [x])) (.pu (.int ((s : Int) - 1))) = .ok (.pu (.tuple (List.replicate ((s : Int) - 1).toNat [x]).flatten)) := by
  simp only [binD]; rw [if_pos]; refine ⟨by omega, by omega, by simp⟩
theorem add_ok (x : D) (xs : List D) (h : xs.length ≤ 1000) : binD .add (.pu (.tuple [x])) (.pu (.tuple xs)) = .ok (.pu (.tuple (x :: xs))) := by
  simp only [binD]; rw [if_pos]; rfl; simp only [big, List.length_singleton]; omega
theorem mul_ok' (x : D) (s : Nat) (h2 : 2 ≤ s) (h8 : s ≤ 8) : binD .mul (.pu (.tuple [x])) (.pu (.int ((s : Int) - 1))) = .ok (.pu (.tuple (List.replicate (s - 1) x))) := by
  rw [mul_ok x s h2 h8]; simp
theorem e1_ev (c s : Nat) (hy : GoodY c s) : ev g_f_first_state (.rgl true [(.sub (.var 0) (.cst (.int 0)))]) [some (.pu (ydD c s))] = .ok (.pu (.tuple (rngD 0 c)), [], [some (.pu (ydD c s))]) := by
  have h2 := rgB_ok c (by have := hy.c7; omega)
  have h := ev_rgl_ok (G := g_f_first_state) (t := true) (as := [(.sub (.var 0) (.cst (.int 0)))]) (env := [some (.pu (ydD c s))]) (ms := [.pu (.int c)]) (rs := []) (e1 := [some (.pu (ydD c s))]) (a := 0) (b := c) (by simp [ydD]) rfl h2
  exact h


theorem e5_ev (c s : Nat) (hy : GoodY c s) : ev g_f_first_state (.tup [(.rgl true [(.sub (.var 0) (.cst (.int 0)))])]) [some (.pu (ydD c s))] = .ok (.pu (.tuple [.tuple (rngD 0 c)]), [], [some (.pu (ydD c s))]) := by
  apply ev_tup1
  have h2 := e1_ev c s hy
  simp [h2]
theorem e6_ev (c s : Nat) (hy : GoodY c s) : ev g_f_first_state (.bin .mul (.tup [(.tup [])]) (.bin .sub (.sub (.var 0) (.cst (.int 1))) (.cst (.int 1)))) [some (.pu (ydD c s))] = .ok (.pu (.tuple (List.replicate (s - 1) (.tuple []))), [], [some (.pu (ydD c s))]) := by
  refine ev_bin_ok (e1 := [some (.pu (ydD c s))]) (ev_tup1 (d := .tuple []) (by simp)) (mb := .pu (.int ((s : Int) - 1))) (rb := []) (by simp [ydD]) (mul_ok' _ _ hy.s2 hy.s8)
theorem len_rep (s : Nat) (x : D) (h : s ≤ 8) : (List.replicate (s - 1) x).length ≤ 1000 := by
  rw [List.length_replicate]; omega
theorem add_fs (c s : Nat) (hy : GoodY c s) : binD .add (.pu (.tuple [.tuple (rngD 0 c)])) (.pu (.tuple (List.replicate (s - 1) (.tuple [])))) = .ok (.pu (.tuple (.tuple (rngD 0 c) :: List.replicate (s - 1) (.tuple [])))) :=
  add_ok _ _ (len_rep s _ hy.s8)
theorem e7_ev (c s : Nat) (hy : GoodY c s) (a b : E) (e : TR.Env) (x : List D) (h1 : ev g_f_first_state a e = .ok (.pu (.tuple [.tuple (rngD 0 c)]), [], e))
  (h2 : ev g_f_first_state b e = .ok (.pu (.tuple x), [], e)) (h3 : binD .add (.pu (.tuple [.tuple (rngD 0 c)])) (.pu (.tuple x)) = .ok (.pu (.tuple (.tuple (rngD 0 c) :: x)))) : ev g_f_first_state (.bin .add a b) e = .ok (.pu (.tuple (.tuple (rngD 0 c) :: x)), [], e) := 
  ev_bin_ok h1 h2 h3

def eA : E := (.tup [(.rgl true [(.sub (.var 0) (.cst (.int 0)))])])
def eB : E := (.bin .mul (.tup [(.tup [])]) (.bin .sub (.sub (.var 0) (.cst (.int 1))) (.cst (.int 1))))
theorem q5 (c s : Nat) (hy : GoodY c s) : ev g_f_first_state eA [some (.pu (ydD c s))] = .ok (.pu (.tuple [.tuple (rngD 0 c)]), [], [some (.pu (ydD c s))]) := e5_ev c s hy
theorem q6 (c s : Nat) (hy : GoodY c s) : ev g_f_first_state eB [some (.pu (ydD c s))] = .ok (.pu (.tuple (List.replicate (s - 1) (.tuple []))), [], [some (.pu (ydD c s))]) := e6_ev c s hy
theorem q7 (c s : Nat) (hy : GoodY c s) : ev g_f_first_state (.bin .add eA eB) [some (.pu (ydD c s))] = .ok (.pu (.tuple (.tuple (rngD 0 c) :: List.replicate (s - 1) (.tuple []))), [], [some (.pu (ydD c s))]) := 
  ev_bin_ok (q5 c s hy) (q6 c s hy) (add_fs c s hy)
theorem q8 (c s : Nat) (hy : GoodY c s) : ev g_f_first_state (.bin .add (.tup [(.rgl true [(.sub (.var 0) (.cst (.int 0)))])]) (.bin .mul (.tup [(.tup [])]) (.bin .sub (.sub (.var 0) (.cst (.int 1))) (.cst (.int 1))))) [some (.pu (ydD c s))] = .ok (.pu (.tuple (.tuple (rngD 0 c) :: List.replicate (s - 1) (.tuple []))), [], [some (.pu (ydD c s))]) := q7 c s hy
theorem first_state_ok (c s : Nat) (hy : GoodY c s) : d_f_first_state [ydD c s] = .ok (.pu (.tuple (.tuple (rngD 0 c) :: List.replicate (s - 1) (.tuple [])))) := by
  have h1 : d_f_need_yard [ydD c s] = .ok (.pu .none) := need_yard_ok c s (by have := hy.c1; omega) (by have := hy.c7; omega) (by have := hy.s2; omega) (by have := hy.s8; omega)
  have hf : g_f_first_state[0]? = some (.pr d_f_need_yard) := rfl
  have h3 : ev g_f_first_state (.call 0 [(.var 0)]) [some (.pu (ydD c s))] = .ok (.pu .none, [], [some (.pu (ydD c s))]) := by simp [hf, h1]
  have h4 := ex_ret_ok (q8 c s hy) rfl
  have h5 : exs g_f_first_state b_f_first_state [some (.pu (ydD c s))] = _ := (exs_do h3).trans h4
  exact runP_ret h5
end LB

set_option linter.all false
namespace LB
open PySem TR
theorem head_find {α β : Type} (p : α → Bool) (g : α → β) (l : List α) : (l.filterMap fun a => if p a = true then some (g a) else none)[0]? = (l.find? p).map g := by
  induction l with
  | nil => simp
  | cons a l ih => cases h : p a <;> simp [h, ih]
theorem find_range (st : List (List Nat)) (p : List Nat → Bool) : (List.range st.length).find? (fun i => p (st.getD i [])) = if st.findIdx p < st.length then some (st.findIdx p) else none := by
  induction st with
  | nil => simp
  | cons t st ih =>
    rw [List.length_cons, List.range_succ_eq_map, List.find?_cons, List.findIdx_cons]
    cases h : p t
    · simp [h, List.find?_map, Function.comp_def] at ih ⊢
      rw [ih]; split <;> simp
    · simp [h]
theorem ixOf_nat (n i : Nat) (h : i < n) : ixOf n (i : Int) = some i := by
  simp [h]
theorem at_ok (c s k : Nat) (st : List (List Nat)) (hy : GoodY c s) (h : Good c s st) (hk : k < c) :
    d_L_at [stD st, .int k] = .ok (.pu (.int (st.findIdx (hasT k) : Nat))) := by
  have hl := findIdx_lt c s k st h hk
  have hs := h.hs
  have h8 := hy.s8
  have hr : ev g_L_at (.rng [(.bi .len [(.var 0)])]) [some (.pu (stD st)), some (.pu (.int k)), none] = .ok (.li (rngD 0 st.length), [], [some (.pu (stD st)), some (.pu (.int k)), none]) := by
    refine ev_rng_ok (ms := [.pu (.int st.length)]) (rs := []) (by simp [stD]) rfl (rgC_ok _ (by omega))
  rw [rngD_nat] at hr
  obtain ⟨e2, h1, a2, rfl⟩ := lcLoop_g (f := lcB g_L_at [2] (.var 2) (.v 2) [(.cmp .inn (.var 1) (.sub (.var 0) (.var 2)))]) (fun (i : Nat) => .int (i : Int)) (fun i => if hasT k (st.getD i []) = true then some (.int (i : Int)) else none) (fun en => ∃ a2, en = [some (.pu (stD st)), some (.pu (.int k)), a2]) (List.range st.length) (by
    intro i hi en hen
    obtain ⟨a2, rfl⟩ := hen
    simp only [List.mem_range] at hi
    have h5 := sub_stD st i hi
    have h6 := okD_trD (st.getD i [])
    simp only [trD] at h5 h6
    by_cases hx : k ∈ st.getD i [] <;> simp [wipeE, -si_subD_1, -si_subD_2, -si_subD_3, -si_subD_4, -si_subD_5, h5, okD_int, h6, any_trD, hasT, -List.any_map, hx, -List.getD_eq_getElem?_getD]) [some (.pu (stD st)), some (.pu (.int k)), none] ⟨_, rfl⟩
  have h0 := head_find (fun i => hasT k (st.getD i [])) (fun i => PyData.int (i : Nat)) (List.range st.length)
  rw [find_range, if_pos hl] at h0
  have hb : ((List.range st.length).filterMap fun i => if hasT k (st.getD i []) = true then some (PyData.int (i : Nat)) else none).length ≤ big := by
    refine Nat.le_trans (List.length_filterMap_le _ _) ?_
    rw [List.length_range, big]; omega
  have hp : 0 < ((List.range st.length).filterMap fun i => if hasT k (st.getD i []) = true then some (PyData.int (i : Nat)) else none).length := by
    rcases Nat.eq_zero_or_pos ((List.range st.length).filterMap fun i => if hasT k (st.getD i []) = true then some (PyData.int (i : Nat)) else none).length with h | h
    · rw [List.length_eq_zero_iff] at h; rw [h] at h0; simp at h0
    · exact h
  generalize hy : ((List.range st.length).filterMap fun i => if hasT k (st.getD i []) = true then some (PyData.int (i : Nat)) else none) = ys at *
  have hn : nlAt (.li (((List.range st.length)).map fun (i : Nat) => PyData.int (i : Int))) (.rng [(.bi .len [(.var 0)])]) = none := rfl
  simp [d_L_at, b_L_at, den, subs, hn, hr, h1, hb, backE, M.isNl]
  rw [if_pos hp]; simp [h0]
end LB

set_option linter.all false
namespace LB
open PySem TR
def trsL (st : List (List Nat)) : List D := (enmD (st.map trD) 0).filterMap keepTr
theorem trsL_range (st : List (List Nat)) : trsL st = (List.range st.length).filterMap fun i => if st.getD i [] ≠ [] then some (.tuple [.int (i : Nat), trD (st.getD i [])]) else none := by
  rw [trsL, enmD_zip, zipIdx_range st [], List.map_map, List.filterMap_map]
  congr 1
  funext i
  simp only [Function.comp]
  cases h : st.getD i [] with
  | nil => simp [trD, keepTr]
  | cons a t => simp [trD, keepTr]
theorem eqv_trD_nil (t : List Nat) : PyData.eqv (trD t) (.tuple []) = decide (t = []) := by
  cases t <;> simp [trD, PyData.eqv, PyData.eqvAll]
def eSome : E := .lc false [7] (.tup [(.var 7), (.sub (.var 4) (.var 7))]) (.v 7) (.rng [(.sub (.var 3) (.cst (.int 1)))]) [(.cmp .ne (.sub (.var 4) (.var 7)) (.tup []))]
theorem some_ev (c s : Nat) (st : List (List Nat)) (hy : GoodY c s) (h : Good c s st) (G : List Fn) (a0 a1 a2 a5 a6 a8 a9 : Option M) :
    ev G eSome [a0, a1, a2, some (.pu (ydD c s)), some (.pu (stD st)), a5, a6, none, a8, a9] = .ok (.li (trsL st), [], [a0, a1, a2, some (.pu (ydD c s)), some (.pu (stD st)), a5, a6, none, a8, a9]) := by
  have hs := h.hs
  have h8 := hy.s8
  have hr : ev G (.rng [(.sub (.var 3) (.cst (.int 1)))]) [a0, a1, a2, some (.pu (ydD c s)), some (.pu (stD st)), a5, a6, none, a8, a9] = .ok (.li (rngD 0 st.length), [], [a0, a1, a2, some (.pu (ydD c s)), some (.pu (stD st)), a5, a6, none, a8, a9]) := by
    refine ev_rng_ok (ms := [.pu (.int st.length)]) (rs := []) (by simp [ydD, hs]) rfl (rgC_ok _ (by omega))
  rw [rngD_nat] at hr
  obtain ⟨e2, h1, ax, rfl⟩ := lcLoop_g (f := lcB G [7] (.tup [(.var 7), (.sub (.var 4) (.var 7))]) (.v 7) [(.cmp .ne (.sub (.var 4) (.var 7)) (.tup []))]) (fun (i : Nat) => .int (i : Int)) (fun i => if st.getD i [] ≠ [] then some (.tuple [.int (i : Nat), trD (st.getD i [])]) else none) (fun en => ∃ ax, en = [a0, a1, a2, some (.pu (ydD c s)), some (.pu (stD st)), a5, a6, ax, a8, a9]) (List.range st.length) (by
    intro i hi en hen
    obtain ⟨a2, rfl⟩ := hen
    simp only [List.mem_range] at hi
    have h5 := sub_stD st i hi
    have h6 := okD_trD (st.getD i [])
    have h7 : okD (.tuple []) = true := okD_trD []
    have h9 := one_big
    have h10 := two_big
    have hb : 0 ≤ big := Nat.zero_le _
    by_cases hx : st.getD i [] = [] <;> simp [wipeE, -si_subD_1, -si_subD_2, -si_subD_3, -si_subD_4, -si_subD_5, h5, okD_trD, h7, eqv_trD_nil, hx, M.toD, h9, h10, -List.getD_eq_getElem?_getD]) [a0, a1, a2, some (.pu (ydD c s)), some (.pu (stD st)), a5, a6, none, a8, a9] ⟨_, rfl⟩
  rw [← trsL_range] at h1
  have hb : (trsL st).length ≤ big := by
    rw [trsL_range]
    refine Nat.le_trans (List.length_filterMap_le _ _) ?_
    rw [List.length_range, big]; omega
  have hn : nlAt (.li (((List.range st.length)).map fun (i : Nat) => PyData.int (i : Int))) (.rng [(.sub (.var 3) (.cst (.int 1)))]) = none := rfl
  simp [eSome, den, subs, hn, hr, h1, hb, backE, M.isNl]
end LB

set_option linter.all false
namespace LB
open PySem TR
theorem boolsD_map (l : List Bool) : boolsD (l.map .bool) = .ok l := by
  induction l with
  | nil => rfl
  | cons b l ih => simp [boolsD, ih, bind, R.bind]
theorem filterMap_some {α β : Type} (g : α → β) (l : List α) : (l.filterMap fun a => some (g a)) = l.map g := by
  induction l with
  | nil => rfl
  | cons a l ih => simp
theorem full_loop (st : List (List Nat)) (a0 : Option M) (a1 : Option M) : ∃ e2, lcLoop (lcB g_f_is_full [2] (.cmp .ne (.var 2) (.tup [])) (.v 2) []) (st.map trD) [a0, a1, none] = .ok ((st.map fun t => decide (t ≠ [])).map .bool, e2) ∧ ∃ a2, e2 = [a0, a1, a2] := by
  have := lcLoop_g (f := lcB g_f_is_full [2] (.cmp .ne (.var 2) (.tup [])) (.v 2) []) trD (fun t => some (.bool (decide (t ≠ [])))) (fun en => ∃ a2, en = [a0, a1, a2]) st (by
    intro t ht en hen
    obtain ⟨a2, rfl⟩ := hen
    have h7 : okD (.tuple []) = true := okD_trD []
    have hb : 0 ≤ big := Nat.zero_le _
    simp [wipeE, okD_trD, h7, M.toD, eqv_trD_nil]) [a0, a1, none] ⟨_, rfl⟩
  rw [filterMap_some] at this
  simpa [Function.comp_def] using this
theorem is_full_ok (c s : Nat) (st : List (List Nat)) (hy : GoodY c s) (h : Good c s st) :
    d_f_is_full [ydD c s, stD st] = .ok (.pu (.bool (st.all fun t => decide (t ≠ [])))) := by
  have h1 := need_state_ok c s st hy h
  obtain ⟨e2, h4, a2, rfl⟩ := full_loop st (some (.pu (ydD c s))) (some (.pu (stD st)))
  have h8 : st.length ≤ big := by rw [h.hs]; have := hy.s8; unfold big; omega
  have h9 : ((st.map fun t => decide (t ≠ [])).map PyData.bool).length ≤ big := by simpa using h8
  have hn : nlAt (.pu (stD st)) (.var 1) = none := rfl
  have h5 := boolsD_map (st.map fun t => decide (t ≠ []))
  generalize hl : (st.map fun t => decide (t ≠ [])) = l at *
  have hf : g_f_is_full[0]? = some (.pr d_f_need_state) := rfl
  simp [d_f_is_full, b_f_is_full, hf, h1, den, subs, hn, seq_stD, h4, backE, M.isNl, M.lst, quaM, h5, -List.length_map, h9]
  rw [← hl]
  simp only [List.all_map, Function.comp_def]
  simp
end LB

set_option linter.all false
namespace LB
open PySem TR
/-- ints, truth values, None and tuples of such -/
def tupN : Nat → D → Bool
  | _, .int _ => true
  | _, .bool _ => true
  | _, .none => true
  | n + 1, .tuple xs => decide (xs.length ≤ 1000) && xs.all (tupN n)
  | n + 1, .list xs => decide (xs.length ≤ 1000) && xs.all (tupN n)
  | _, _ => false
theorem okD_nil : okD (.list []) = true := by decide
theorem eqv_nil : PyData.eqv (.list []) (.list []) = true := by decide
theorem okD_none : okD .none = true := by decide
theorem eqv_none : PyData.eqv .none .none = true := by decide
theorem okD_bool (b : Bool) : okD (.bool b) = true := by cases b <;> decide
theorem eqv_bool (b c : Bool) : PyData.eqv (.bool b) (.bool c) = (b == c) := by cases b <;> cases c <;> decide
theorem sub_tup (xs : List D) (i : Nat) (h : i < xs.length) : subD (.pu (.tuple xs)) (.pu (.int i)) = .ok (.pu (xs.getD i .none)) := by
  simp [h, List.getD]
theorem sub_list (xs : List D) (i : Nat) (h : i < xs.length) : subD (.pu (.list xs)) (.pu (.int i)) = .ok (.pu (xs.getD i .none)) := by
  simp [h, List.getD]
theorem filterMap_none' {α β : Type} (l : List α) : (l.filterMap fun _ => (none : Option β)) = [] := by
  induction l with
  | nil => rfl
  | cons a l ih => simpa using ih
theorem okD_lit (i : Int) : okD (.int i) = true := okD_int i
theorem alike_int (m : Nat) (i : Int) : d_L_alike (m + 1) [.int i, .int i] = .ok (.pu (.bool true)) := by
  simp [d_L_alike, b_L_alike, isC, isNon, okD_lit, eqv_ii, eqv_bool, okD_bool, M.toD, bi1]
theorem alike_bool (m : Nat) (i : Bool) : d_L_alike (m + 1) [.bool i, .bool i] = .ok (.pu (.bool true)) := by
  simp [d_L_alike, b_L_alike, isC, isNon, eqv_bool, okD_bool, M.toD, bi1]
theorem alike_none (m : Nat) : d_L_alike (m + 1) [.none, .none] = .ok (.pu (.bool true)) := by
  rfl
theorem alike_step (m : Nat) (xs : List D) (hl : xs.length ≤ 1000) (h : ∀ x ∈ xs, d_L_alike m [x, x] = .ok (.pu (.bool true))) : d_L_alike (m + 1) [.tuple xs, .tuple xs] = .ok (.pu (.bool true)) := by
  have hr : ev [.pr (d_L_alike m)] (.rng [(.bi .len [(.var 1)])]) [some (.pu (.tuple xs)), some (.pu (.tuple xs)), none] = .ok (.li (rngD 0 xs.length), [], [some (.pu (.tuple xs)), some (.pu (.tuple xs)), none]) := by
    refine ev_rng_ok (ms := [.pu (.int xs.length)]) (rs := []) (by simp) rfl (rgC_ok _ hl)
  rw [rngD_nat] at hr
  obtain ⟨e2, h1, a2, rfl⟩ := lcLoop_g (f := lcB [.pr (d_L_alike m)] [2] (.var 2) (.v 2) [(.not (.call 0 [(.sub (.var 0) (.var 2)), (.sub (.var 1) (.var 2))]))]) (fun (i : Nat) => .int (i : Int)) (fun i => none) (fun en => ∃ a2, en = [some (.pu (.tuple xs)), some (.pu (.tuple xs)), a2]) (List.range xs.length) (by
    intro i hi en hen
    obtain ⟨a2, rfl⟩ := hen
    simp only [List.mem_range] at hi
    have h5 := sub_tup xs i hi
    have h6 : d_L_alike m [xs.getD i .none, xs.getD i .none] = .ok (.pu (.bool true)) := h _ (by
      rw [List.getD_eq_getElem?_getD, List.getElem?_eq_getElem hi]
      exact List.getElem_mem hi)
    simp [wipeE, -si_subD_1, -si_subD_2, -si_subD_3, -si_subD_4, -si_subD_5, h5, h6, -List.getD_eq_getElem?_getD]) [some (.pu (.tuple xs)), some (.pu (.tuple xs)), none] ⟨_, rfl⟩
  rw [filterMap_none'] at h1
  have hn : nlAt (.li (((List.range xs.length)).map fun (i : Nat) => PyData.int (i : Int))) (.rng [(.bi .len [(.var 1)])]) = none := rfl
  have h3 : ev [.pr (d_L_alike m)] (.lc false [2] (.var 2) (.v 2) (.rng [(.bi .len [(.var 1)])]) [(.not (.call 0 [(.sub (.var 0) (.var 2)), (.sub (.var 1) (.var 2))]))]) [some (.pu (.tuple xs)), some (.pu (.tuple xs)), none] = .ok (.li [], [], [some (.pu (.tuple xs)), some (.pu (.tuple xs)), none]) := by
    exact ev_lc_ok hr rfl rfl rfl rfl h1 (Nat.zero_le _)
  have s1 : ex [.pr (d_L_alike m)] (.ifs (.or (.not (.bi .istl [(.var 0)])) (.cmp .ne (.bi .islist [(.var 0)]) (.bi .islist [(.var 1)]))) [(.ret (.cst (.bool false)))] []) [some (.pu (.tuple xs)), some (.pu (.tuple xs)), none] = .ok (.nx [some (.pu (.tuple xs)), some (.pu (.tuple xs)), none]) := by
    simp [okD_bool, eqv_bool, M.toD]
  have s2 : ex [.pr (d_L_alike m)] (.ifs (.cmp .ne (.bi .len [(.var 0)]) (.bi .len [(.var 1)])) [(.ret (.cst (.bool false)))] []) [some (.pu (.tuple xs)), some (.pu (.tuple xs)), none] = .ok (.nx [some (.pu (.tuple xs)), some (.pu (.tuple xs)), none]) := by
    simp [okD_lit, M.toD]
  have s3 := ex_ret_ok (ev_cmp_ok (o := .eq) (c := true) h3 (b := .lst []) (mb := .li []) (rb := []) (e2 := [some (.pu (.tuple xs)), some (.pu (.tuple xs)), none]) (by simp) rfl (by simp [M.toD, okD_nil, eqv_nil])) rfl
  have s4 := (exs_nx s1).trans ((exs_nx s2).trans s3)
  have s5 : ex [.pr (d_L_alike m)] (b_L_alike.getD 0 .pass) [some (.pu (.tuple xs)), some (.pu (.tuple xs)), none] = .ok (.ret (.pu (.bool true)) [some (.pu (.tuple xs)), some (.pu (.tuple xs)), none]) := by
    show ex _ (.ifs (.bi .istl [(.var 1)]) _ []) _ = _
    rw [ex]
    have : ev [.pr (d_L_alike m)] (.bi .istl [(.var 1)]) [some (.pu (.tuple xs)), some (.pu (.tuple xs)), none] = .ok (.pu (.bool true), [], [some (.pu (.tuple xs)), some (.pu (.tuple xs)), none]) := by simp
    rw [this]
    exact s4
  exact runP_ret (exs_ret s5)
theorem alike_stepl (m : Nat) (xs : List D) (hl : xs.length ≤ 1000) (h : ∀ x ∈ xs, d_L_alike m [x, x] = .ok (.pu (.bool true))) : d_L_alike (m + 1) [.list xs, .list xs] = .ok (.pu (.bool true)) := by
  have hr : ev [.pr (d_L_alike m)] (.rng [(.bi .len [(.var 1)])]) [some (.pu (.list xs)), some (.pu (.list xs)), none] = .ok (.li (rngD 0 xs.length), [], [some (.pu (.list xs)), some (.pu (.list xs)), none]) := by
    refine ev_rng_ok (ms := [.pu (.int xs.length)]) (rs := []) (by simp) rfl (rgC_ok _ hl)
  rw [rngD_nat] at hr
  obtain ⟨e2, h1, a2, rfl⟩ := lcLoop_g (f := lcB [.pr (d_L_alike m)] [2] (.var 2) (.v 2) [(.not (.call 0 [(.sub (.var 0) (.var 2)), (.sub (.var 1) (.var 2))]))]) (fun (i : Nat) => .int (i : Int)) (fun i => none) (fun en => ∃ a2, en = [some (.pu (.list xs)), some (.pu (.list xs)), a2]) (List.range xs.length) (by
    intro i hi en hen
    obtain ⟨a2, rfl⟩ := hen
    simp only [List.mem_range] at hi
    have h5 := sub_list xs i hi
    have h6 : d_L_alike m [xs.getD i .none, xs.getD i .none] = .ok (.pu (.bool true)) := h _ (by
      rw [List.getD_eq_getElem?_getD, List.getElem?_eq_getElem hi]
      exact List.getElem_mem hi)
    simp [wipeE, -si_subD_1, -si_subD_2, -si_subD_3, -si_subD_4, -si_subD_5, h5, h6, -List.getD_eq_getElem?_getD]) [some (.pu (.list xs)), some (.pu (.list xs)), none] ⟨_, rfl⟩
  rw [filterMap_none'] at h1
  have hn : nlAt (.li (((List.range xs.length)).map fun (i : Nat) => PyData.int (i : Int))) (.rng [(.bi .len [(.var 1)])]) = none := rfl
  have h3 : ev [.pr (d_L_alike m)] (.lc false [2] (.var 2) (.v 2) (.rng [(.bi .len [(.var 1)])]) [(.not (.call 0 [(.sub (.var 0) (.var 2)), (.sub (.var 1) (.var 2))]))]) [some (.pu (.list xs)), some (.pu (.list xs)), none] = .ok (.li [], [], [some (.pu (.list xs)), some (.pu (.list xs)), none]) := by
    exact ev_lc_ok hr rfl rfl rfl rfl h1 (Nat.zero_le _)
  have s1 : ex [.pr (d_L_alike m)] (.ifs (.or (.not (.bi .istl [(.var 0)])) (.cmp .ne (.bi .islist [(.var 0)]) (.bi .islist [(.var 1)]))) [(.ret (.cst (.bool false)))] []) [some (.pu (.list xs)), some (.pu (.list xs)), none] = .ok (.nx [some (.pu (.list xs)), some (.pu (.list xs)), none]) := by
    simp [okD_bool, eqv_bool, M.toD]
  have s2 : ex [.pr (d_L_alike m)] (.ifs (.cmp .ne (.bi .len [(.var 0)]) (.bi .len [(.var 1)])) [(.ret (.cst (.bool false)))] []) [some (.pu (.list xs)), some (.pu (.list xs)), none] = .ok (.nx [some (.pu (.list xs)), some (.pu (.list xs)), none]) := by
    simp [okD_lit, M.toD]
  have s3 := ex_ret_ok (ev_cmp_ok (o := .eq) (c := true) h3 (b := .lst []) (mb := .li []) (rb := []) (e2 := [some (.pu (.list xs)), some (.pu (.list xs)), none]) (by simp) rfl (by simp [M.toD, okD_nil, eqv_nil])) rfl
  have s4 := (exs_nx s1).trans ((exs_nx s2).trans s3)
  have s5 : ex [.pr (d_L_alike m)] (b_L_alike.getD 0 .pass) [some (.pu (.list xs)), some (.pu (.list xs)), none] = .ok (.ret (.pu (.bool true)) [some (.pu (.list xs)), some (.pu (.list xs)), none]) := by
    show ex _ (.ifs (.bi .istl [(.var 1)]) _ []) _ = _
    rw [ex]
    have : ev [.pr (d_L_alike m)] (.bi .istl [(.var 1)]) [some (.pu (.list xs)), some (.pu (.list xs)), none] = .ok (.pu (.bool true), [], [some (.pu (.list xs)), some (.pu (.list xs)), none]) := by simp
    rw [this]
    exact s4
  exact runP_ret (exs_ret s5)
theorem alike_tup (n m : Nat) (hm : n < m) (d : D) (hd : tupN n d = true) : d_L_alike m [d, d] = .ok (.pu (.bool true)) := by
  induction n generalizing m d with
  | zero =>
    obtain ⟨m, rfl⟩ : ∃ k, m = k + 1 := ⟨m - 1, by omega⟩
    cases d <;> simp [tupN] at hd
    · exact alike_none m
    · exact alike_bool m _
    · exact alike_int m _
  | succ n ih =>
    obtain ⟨m, rfl⟩ : ∃ k, m = k + 1 := ⟨m - 1, by omega⟩
    cases d with
    | tuple xs =>
      simp [tupN] at hd
      exact alike_step m xs hd.1 (fun x hx => ih m (by omega) x (hd.2 x hx))
    | list xs =>
      simp [tupN] at hd
      exact alike_stepl m xs hd.1 (fun x hx => ih m (by omega) x (hd.2 x hx))
    | none => exact alike_none m
    | bool b => exact alike_bool m b
    | int b => exact alike_int m b
    | _ => simp [tupN] at hd
end LB

set_option linter.all false
namespace LB
open PySem TR
def mx (st : List (List Nat)) : Nat := (st.map List.length).foldl max 0
def ix (st : List (List Nat)) : Nat := st.findIdx fun t => t.length == mx st
theorem le_foldl (l : List Nat) : ∀ a, a ≤ l.foldl max a ∧ ∀ x ∈ l, x ≤ l.foldl max a := by
  induction l with
  | nil => intro a; simp
  | cons b l ih =>
    intro a
    obtain ⟨h1, h2⟩ := ih (max a b)
    rw [List.foldl_cons]
    refine ⟨by omega, fun x hx => ?_⟩
    rcases List.mem_cons.1 hx with h | h
    · omega
    · exact h2 x h
theorem foldl_mem (l : List Nat) : ∀ a, l.foldl max a = a ∨ l.foldl max a ∈ l := by
  induction l with
  | nil => intro a; simp
  | cons b l ih =>
    intro a
    rw [List.foldl_cons]
    rcases ih (max a b) with h | h
    · rw [h]
      rcases Nat.le_total a b with h2 | h2
      · right; rw [Nat.max_eq_right h2]; simp
      · left; exact Nat.max_eq_left h2
    · right; simp [h]
theorem mx_pos (st : List (List Nat)) (k : Nat) (h : k ∈ st.flatten) : 0 < mx st := by
  obtain ⟨t, ht, hk⟩ := List.mem_flatten.1 h
  have := (le_foldl (st.map List.length) 0).2 t.length (List.mem_map_of_mem ht)
  have := List.length_pos_of_mem hk
  unfold mx; omega
theorem ix_lt (st : List (List Nat)) (h : 0 < mx st) : ix st < st.length := by
  rw [ix, List.findIdx_lt_length]
  rcases foldl_mem (st.map List.length) 0 with h2 | h2
  · rw [mx] at h; omega
  · obtain ⟨t, ht, e⟩ := List.mem_map.1 h2
    exact ⟨t, ht, by simp [mx, e]⟩
def trP (st : List (List Nat)) : List (List Nat × Nat) := st.zipIdx.filter fun p => decide (p.1 ≠ [])
theorem trsL_P (st : List (List Nat)) : trsL st = (trP st).map fun p => .tuple [.int (p.2 : Nat), trD p.1] := by
  rw [trsL, enmD_zip, List.filterMap_map, trP, ← List.filterMap_eq_map, List.filterMap_filter]
  congr 1
  funext p
  obtain ⟨t, i⟩ := p
  cases t <;> simp [trD, keepTr]
def prs (st : List (List Nat)) : List (Int × Int) := (trP st).map fun p => (-((p.1.length : Nat) : Int), ((p.2 : Nat) : Int))
theorem min_prs (st : List (List Nat)) (hp : 0 < mx st) : ∃ p ps, prs st = p :: ps ∧ ps.foldl min2 p = (-((mx st : Nat) : Int), ((ix st : Nat) : Int)) := by
  have hi := ix_lt st hp
  have hx : st[ix st].length = mx st := by
    have := List.findIdx_getElem (xs := st) (p := fun (t : List Nat) => t.length == mx st) (w := hi)
    exact (beq_iff_eq.1 this)
  have hm : (-((mx st : Nat) : Int), ((ix st : Nat) : Int)) ∈ prs st := by
    rw [prs, List.mem_map]
    refine ⟨(st[ix st], ix st), ?_, by simp [hx]⟩
    rw [trP, List.mem_filter]
    refine ⟨?_, ?_⟩
    · rw [List.mem_zipIdx_iff_getElem?]; simp [hi]
    · have : st[ix st] ≠ [] := by intro e; rw [e] at hx; simp at hx; omega
      simp [this]
  have ha : ∀ z ∈ prs st, z = (-((mx st : Nat) : Int), ((ix st : Nat) : Int)) ∨ lt2 (-((mx st : Nat) : Int), ((ix st : Nat) : Int)) z = true := by
    intro z hz
    rw [prs, List.mem_map] at hz
    obtain ⟨⟨t, i⟩, h1, rfl⟩ := hz
    rw [trP, List.mem_filter, List.mem_zipIdx_iff_getElem?] at h1
    have h2 := h1.1
    have ht : t ∈ st := List.mem_of_getElem? h2
    have hle : t.length ≤ mx st := (le_foldl (st.map List.length) 0).2 t.length (List.mem_map_of_mem ht)
    rcases Nat.lt_or_ge t.length (mx st) with h3 | h3
    · right; simp [lt2]; omega
    · have e : t.length = mx st := by omega
      have h4 : ix st ≤ i := by
        rcases Nat.lt_or_ge i (ix st) with h5 | h5
        · have := List.not_of_lt_findIdx h5
          obtain ⟨hb, h6⟩ := List.getElem?_eq_some_iff.1 h2
          simp at h6
          simp [h6, e] at this
        · exact h5
      rcases Nat.lt_or_ge (ix st) i with h5 | h5
      · right; simp [lt2, e]; omega
      · left; have : i = ix st := by omega
        simp [e, this]
  cases hh : prs st with
  | nil => rw [hh] at hm; simp at hm
  | cons p ps =>
    rw [hh] at hm ha
    exact ⟨p, ps, rfl, min2_uniq ps p _ (by simpa using hm) (by simpa using ha)⟩
end LB

set_option linter.all false
namespace LB
open PySem TR
theorem longest_loop (st : List (List Nat)) (a0 a1 : Option M) : ∃ e2, lcLoop (lcB g_f_longest_train [3, 4] (.tup [(.neg (.bi .len [(.var 4)])), (.var 3)]) (.t [(.v 3), (.v 4)]) []) (trsL st) [a0, a1, none, none, none] = .ok ((prs st).map pD, e2) ∧ ∃ a2 a3, e2 = [a0, a1, none, a2, a3] := by
  have := lcLoop_g (f := lcB g_f_longest_train [3, 4] (.tup [(.neg (.bi .len [(.var 4)])), (.var 3)]) (.t [(.v 3), (.v 4)]) []) (fun p : List Nat × Nat => .tuple [.int (p.2 : Nat), trD p.1]) (fun p => some (pD (-((p.1.length : Nat) : Int), ((p.2 : Nat) : Int)))) (fun en => ∃ a2 a3, en = [a0, a1, none, a2, a3]) (trP st) (by
    intro p hp en hen
    obtain ⟨a2, a3, rfl⟩ := hen
    have h2 := two_big
    simp [wipeE, trD, pD, h2]) [a0, a1, none, none, none] ⟨_, _, rfl⟩
  rw [filterMap_some] at this
  rw [trsL_P, prs, List.map_map]
  simpa [Function.comp_def] using this
theorem cmpAll_prs (ps : List (Int × Int)) : cmpAll (ps.map pD) = true := by
  have h1 : ∀ p q, W.alike (pD p) (pD q) = true := by intro p q; simp [pD, W.alike, W.alikeAll]
  have h2 : ∀ p, notNon (pD p) = true := by intro p; rfl
  have h3 : PyData.plainAll (ps.map pD) = true := plainAll_of _ (by
    intro x hx
    obtain ⟨p, _, rfl⟩ := List.mem_map.1 hx
    simp [pD, PyData.plain, PyData.plainAll])
  have h4 : PyData.depthAll (ps.map pD) ≤ 3 := depthAll_of 3 _ (by
    intro x hx
    obtain ⟨p, _, rfl⟩ := List.mem_map.1 hx
    simp [pD, PyData.depth, PyData.depthAll])
  simp [cmpAll, h1, h2, okD, PyData.plain, h3, PyData.depth]
  omega
theorem cmpAll_ints (ps : List Int) : cmpAll (ps.map .int) = true := by
  have h3 : PyData.plainAll (ps.map .int) = true := plainAll_of _ (by
    intro x hx
    obtain ⟨p, _, rfl⟩ := List.mem_map.1 hx
    simp [PyData.plain])
  have h4 : PyData.depthAll (ps.map .int) ≤ 3 := depthAll_of 3 _ (by
    intro x hx
    obtain ⟨p, _, rfl⟩ := List.mem_map.1 hx
    simp [PyData.depth])
  simp [cmpAll, W.alike, notNon, okD, PyData.plain, h3, PyData.depth]
  omega
theorem longest_ok (c s : Nat) (st : List (List Nat)) (hy : GoodY c s) (h : Good c s st) :
    d_f_longest_train [ydD c s, stD st] = .ok (.pu (.tuple [.int (mx st : Nat), .int (ix st : Nat)])) := by
  have h1 := need_state_ok c s st hy h
  have h2 := trains_in_ok st (by rw [h.hs]; have := hy.s8; omega)
  have hp : 0 < mx st := mx_pos st 0 ((h.hc.mem_iff (a := 0)).2 (by simp; exact hy.c1))
  obtain ⟨p, ps, e1, e2⟩ := min_prs st hp
  obtain ⟨e5, h4, a2, a3, rfl⟩ := longest_loop st (some (.pu (ydD c s))) (some (.pu (stD st)))
  have hb : ((prs st).map pD).length ≤ big := by
    rw [prs, trP]
    simp only [List.length_map]
    refine Nat.le_trans (List.length_filter_le _ _) ?_
    rw [List.length_zipIdx, h.hs]; have := hy.s8; unfold big; omega
  have hf : g_f_longest_train[0]? = some (.pr d_f_need_state) := rfl
  have hf1 : g_f_longest_train[1]? = some (.pr d_f_trains_in) := rfl
  have h6 := cmpAll_prs (prs st)
  have h7 := minD_pD ps p
  rw [e2] at h7
  have h8 : ev g_f_longest_train (.lc false [3, 4] (.tup [(.neg (.bi .len [(.var 4)])), (.var 3)]) (.t [(.v 3), (.v 4)]) (.call 1 [(.var 1)]) []) [some (.pu (ydD c s)), some (.pu (stD st)), none, none, none] = .ok (.li ((prs st).map pD), [], [some (.pu (ydD c s)), some (.pu (stD st)), none, none, none]) := by
    refine ev_lc_ok (m := .li (trsL st)) (rs := []) (e1 := [some (.pu (ydD c s)), some (.pu (stD st)), none, none, none]) ?_ rfl rfl rfl rfl h4 hb
    simp [hf1, h2, trsL]
  have h9 : bestD TR.minD (.li ((prs st).map pD)) = .ok (.pu (.tuple [.int (-((mx st : Nat) : Int)), .int (ix st : Nat)])) := by
    rw [e1] at h6 ⊢
    simp only [List.map_cons] at h6 ⊢
    simp [bestD, h6, TR.minD, h7]
    rfl
  have tb := two_big
  have s1 := exs_do (G := g_f_longest_train) (e := .call 0 [(.var 0), (.var 1)]) (r := b_f_longest_train.tail) (env := [some (.pu (ydD c s)), some (.pu (stD st)), none, none, none]) (m := .pu .none) (rs := []) (e1 := [some (.pu (ydD c s)), some (.pu (stD st)), none, none, none]) (by simp [hf, h1])
  have s2 : ex g_f_longest_train (b_f_longest_train.getD 1 .pass) [some (.pu (ydD c s)), some (.pu (stD st)), none, none, none] = .ok (.nx [some (.pu (ydD c s)), some (.pu (stD st)), some (.pu (.int (-((mx st : Nat) : Int)))), some (.pu (.int (ix st : Nat))), none]) := by
    refine ex_asg_t (r := (.pu (.tuple [.int (-((mx st : Nat) : Int)), .int (ix st : Nat)]), [], [some (.pu (ydD c s)), some (.pu (stD st)), none, none, none])) ?_ rfl rfl
    rw [ev.eq_8, evs, h8]
    simp only [bind, R.bind, evs, apart, List.all_nil, if_true, List.nil_append]
    simp only [biD, bi1, h9]
  have s3 : exs g_f_longest_train (b_f_longest_train.drop 2) [some (.pu (ydD c s)), some (.pu (stD st)), some (.pu (.int (-((mx st : Nat) : Int)))), some (.pu (.int (ix st : Nat))), none] = .ok (.ret (.pu (.tuple [.int (mx st : Nat), .int (ix st : Nat)])) [some (.pu (ydD c s)), some (.pu (stD st)), some (.pu (.int (-((mx st : Nat) : Int)))), some (.pu (.int (ix st : Nat))), none]) := by
    simp [b_f_longest_train, tb]
  exact runP_ret (s1.trans ((exs_nx s2).trans s3))
end LB

set_option linter.all false
namespace LB
open PySem TR
def rowM (ns : List Int) (i : Nat) (sd rs : Int) : M := .li [.list (ns.map .int), .int i, .int sd, .int rs]
theorem bd_add (a b : Int) : binD .add (.pu (.int a)) (.pu (.int b)) = .ok (.pu (.int (a + b))) := rfl
theorem bd_sub (a b : Int) : binD .sub (.pu (.int a)) (.pu (.int b)) = .ok (.pu (.int (a - b))) := rfl
theorem bd_mod (a b : Int) (h : b ≠ 0) : binD .mod (.pu (.int a)) (.pu (.int b)) = .ok (.pu (.int (a.fmod b))) := by
  simp only [binD]; rw [if_pos h]
theorem bd_fdiv (a b : Int) (h : 0 < b) (h2 : b < 2000000) : binD .fdiv (.pu (.int a)) (.pu (.int b)) = .ok (.pu (.int (a.fdiv b))) := by
  simp only [binD]; rw [if_pos]; omega
theorem bd_mul (a : Int) : binD .mul (.pu (.int a)) (.pu (.int 48271)) = .ok (.pu (.int (a * 48271))) := by
  simp only [binD]; rw [if_pos]
  have : okBits 48271 = true := by decide
  rw [this, Bool.or_true]
theorem bd_pow : binD .pow (.pu (.int 10)) (.pu (.int 18)) = .ok (.pu (.int 1000000000000000000)) := by
  simp only [binD]; rw [if_pos (by decide)]; rfl
theorem fmod_b (a k : Int) (h : 0 < k) : 0 ≤ a.fmod k ∧ a.fmod k < k := ⟨Int.fmod_nonneg_of_pos _ h, Int.fmod_lt_of_pos _ h⟩
theorem ord_gt (a b : Int) : cmpD .gt (.pu (.int a)) (.pu (.int b)) = .ok (decide (b < a)) := by
  simp
theorem ord_ge (a b : Int) : cmpD .ge (.pu (.int a)) (.pu (.int b)) = .ok (!decide (a < b)) := by
  simp
theorem taken_A (ns : List Int) (i : Nat) (sd rs k : Int) (h1 : 0 < k) (h2 : k < 2000000) (hr : 0 < rs) :
    d_L_taken (rowM ns i sd rs) [.int k] = .ok (.pu (.int (rs.fmod k)), rowM ns i sd (rs.fdiv k)) := by
  have hm := bd_mod rs k (by omega)
  have hd := bd_fdiv rs k h1 h2
  simp [d_L_taken, runW, b_L_taken, rowM, -si_binD_1, -si_binD_2, -si_binD_3, -si_binD_4, -si_binD_5, -si_binD_6, -si_binD_7, -si_binD_8, -si_binD_9, -si_binD_10, -si_binD_11, -si_binD_12, -si_cmpD_1, -si_cmpD_2, -si_cmpD_3, -si_cmpD_4, -si_cmpD_5, -si_cmpD_6, -si_cmpD_7, -si_cmpD_8, -si_cmpD_9, -si_cmpD_10, -si_cmpD_11, -si_cmpD_12, -si_cmpD_13, -si_cmpD_14, ord_gt, hr, hm, hd, intM]
theorem taken_B (ns : List Int) (i : Nat) (sd rs k : Int) (h1 : 0 < k) (h2 : k < 2000000) (hr : ¬ 0 < rs) (hi : ns.length < i + 1) :
    d_L_taken (rowM ns i sd rs) [.int k] = .ok (.pu (.int ((((sd * 48271 + 11).fmod 2147483647).fdiv 7).fmod k)), rowM ns (i + 1) ((sd * 48271 + 11).fmod 2147483647) rs) := by
  have hm := fun a => bd_mod a k (by omega)
  have hm2 := fun a => bd_mod a 2147483647 (by decide)
  have hd := fun a => bd_fdiv a 7 (by decide) (by decide)
  have hi2 : (ns.length : Int) < (i : Int) + 1 := by omega
  simp [d_L_taken, runW, b_L_taken, rowM, -si_binD_1, -si_binD_2, -si_binD_3, -si_binD_4, -si_binD_5, -si_binD_6, -si_binD_7, -si_binD_8, -si_binD_9, -si_binD_10, -si_binD_11, -si_binD_12, -si_cmpD_1, -si_cmpD_2, -si_cmpD_3, -si_cmpD_4, -si_cmpD_5, -si_cmpD_6, -si_cmpD_7, -si_cmpD_8, -si_cmpD_9, -si_cmpD_10, -si_cmpD_11, -si_cmpD_12, -si_cmpD_13, -si_cmpD_14, ord_gt, hr, hm, hm2, hd, intM, bd_add, bd_sub, bd_mul, hi2]
theorem taken_C (ns : List Int) (i : Nat) (sd rs k : Int) (h1 : 0 < k) (h2 : k < 2000000) (hr : ¬ 0 < rs) (hi : i < ns.length) (hn : ns.length ≤ 63) :
    ∃ rs', d_L_taken (rowM ns i sd rs) [.int k] = .ok (.pu (.int (ns[i].fmod k)), rowM ns (i + 1) ((sd * 48271 + ns[i] + 11).fmod 2147483647) rs') := by
  have hm := fun a => bd_mod a k (by omega)
  have hm2 := fun a => bd_mod a 2147483647 (by decide)
  have hd := fun a => bd_fdiv a k h1 h2
  have hi2 : ¬ (ns.length : Int) < (i : Int) + 1 := by omega
  have hs : (i : Int) + 1 - 1 = (i : Nat) := by omega
  by_cases hb : ns[i] < 1000000000000000000
  · refine ⟨rs, ?_⟩
    simp [d_L_taken, runW, b_L_taken, rowM, -si_binD_1, -si_binD_2, -si_binD_3, -si_binD_4, -si_binD_5, -si_binD_6, -si_binD_7, -si_binD_8, -si_binD_9, -si_binD_10, -si_binD_11, -si_binD_12, -si_cmpD_1, -si_cmpD_2, -si_cmpD_3, -si_cmpD_4, -si_cmpD_5, -si_cmpD_6, -si_cmpD_7, -si_cmpD_8, -si_cmpD_9, -si_cmpD_10, -si_cmpD_11, -si_cmpD_12, -si_cmpD_13, -si_cmpD_14, ord_gt, ord_ge, hr, hm, hm2, hd, intM, bd_add, bd_sub, bd_mul, bd_pow, hi2, hs, hb, hi]
  · refine ⟨ns[i].fdiv k, ?_⟩
    simp [d_L_taken, runW, b_L_taken, rowM, -si_binD_1, -si_binD_2, -si_binD_3, -si_binD_4, -si_binD_5, -si_binD_6, -si_binD_7, -si_binD_8, -si_binD_9, -si_binD_10, -si_binD_11, -si_binD_12, -si_cmpD_1, -si_cmpD_2, -si_cmpD_3, -si_cmpD_4, -si_cmpD_5, -si_cmpD_6, -si_cmpD_7, -si_cmpD_8, -si_cmpD_9, -si_cmpD_10, -si_cmpD_11, -si_cmpD_12, -si_cmpD_13, -si_cmpD_14, ord_gt, ord_ge, hr, hm, hm2, hd, intM, bd_add, bd_sub, bd_mul, bd_pow, hi2, hs, hb, hi]
theorem taken_ok (ns : List Int) (hn : ns.length ≤ 63) (i : Nat) (sd rs k : Int) (h1 : 0 < k) (h2 : k < 2000000) :
    ∃ (v : Nat) (i' : Nat) (sd' rs' : Int), d_L_taken (rowM ns i sd rs) [.int k] = .ok (.pu (.int v), rowM ns i' sd' rs') ∧ (v : Int) < k := by
  have key : ∀ a : Int, ∃ v : Nat, a.fmod k = v ∧ (v : Int) < k := fun a => by
    obtain ⟨h3, h4⟩ := fmod_b a k h1
    exact ⟨(a.fmod k).toNat, by omega, by omega⟩
  by_cases hr : 0 < rs
  · obtain ⟨v, e, h⟩ := key rs
    exact ⟨v, i, sd, _, by rw [← e]; exact taken_A ns i sd rs k h1 h2 hr, h⟩
  · by_cases hi : i < ns.length
    · obtain ⟨v, e, h⟩ := key ns[i]
      obtain ⟨rs', h5⟩ := taken_C ns i sd rs k h1 h2 hr hi hn
      exact ⟨v, _, _, rs', by rw [← e]; exact h5, h⟩
    · obtain ⟨v, e, h⟩ := key (((sd * 48271 + 11).fmod 2147483647).fdiv 7)
      exact ⟨v, _, _, rs, by rw [← e]; exact taken_B ns i sd rs k h1 h2 hr (by omega), h⟩
end LB

set_option linter.all false
namespace LB
open PySem TR
theorem yard_ok (ns : List Int) (hn : ns.length ≤ 63) (i : Nat) (sd rs : Int) (C S : Nat) (hC : 1 ≤ C) (hC2 : C ≤ 7) (hS : 2 ≤ S) (hS2 : S ≤ 8) :
    ∃ (c s i' : Nat) (sd' rs' : Int), d_L_yard (rowM ns i sd rs) [.int C, .int S] = .ok (.pu (ydD c s), rowM ns i' sd' rs') ∧ GoodY c s ∧ c ≤ C ∧ s ≤ S := by
  obtain ⟨v, i1, sd1, rs1, h1, hv⟩ := taken_ok ns hn i sd rs C (by omega) (by omega)
  obtain ⟨u, i2, sd2, rs2, h2, hu⟩ := taken_ok ns hn i1 sd1 rs1 ((S : Int) - 1) (by omega) (by omega)
  refine ⟨1 + v, 2 + u, i2, sd2, rs2, ?_, ⟨by omega, by omega, by omega, by omega⟩, by omega, by omega⟩
  have hf : g_L_yard[0]? = some (.wr d_L_taken) := rfl
  have tb := two_big
  have ho : ∀ i sd rs, (rowM ns i sd rs).own = true := fun _ _ _ => rfl
  have hl : ∀ i sd rs, rowM ns i sd rs = .li [.list (ns.map .int), .int i, .int sd, .int rs] := fun _ _ _ => rfl
  simp [d_L_yard, runW, b_L_yard, fwOf, hf, hl] at h1 h2 ⊢
  simp [h1, h2, -si_binD_1, -si_binD_2, -si_binD_3, -si_binD_4, -si_binD_5, -si_binD_6, -si_binD_7, -si_binD_8, -si_binD_9, -si_binD_10, -si_binD_11, -si_binD_12, bd_add, bd_sub, M.own, tb, ydD]
end LB

set_option linter.all false
namespace LB
open PySem TR
def itD (t : List Nat) : List D := t.map fun (c : Nat) => .int (c : Nat)
theorem map_eraseIdx {α β : Type} (f : α → β) (l : List α) (n : Nat) : (l.map f).eraseIdx n = (l.eraseIdx n).map f := by
  induction l generalizing n with
  | nil => simp
  | cons a l ih => cases n <;> simp [ih]
theorem perm_erase (l : List Nat) (n : Nat) (h : n < l.length) : l.Perm (l[n] :: l.eraseIdx n) := by
  induction l generalizing n with
  | nil => simp at h
  | cons a l ih =>
    cases n with
    | zero => simp
    | succ n =>
      simp at h ⊢
      exact ((ih n h).cons a).trans (List.Perm.swap _ _ _)
theorem set_flat (pl : List (List Nat)) (v x : Nat) (h : v < pl.length) : (pl.set v (pl[v] ++ [x])).flatten.Perm (x :: pl.flatten) := by
  induction pl generalizing v with
  | nil => simp at h
  | cons t pl ih =>
    cases v with
    | zero =>
      simp
    | succ v =>
      simp at h ⊢
      exact ((ih v h).append_left t).trans List.perm_middle
theorem nl_init (G : List Fn) (a0 a1 a2 a3 a5 a6 : Option M) (xs : List D) : ∀ a4, ∃ e4, nlLoop (nlB G [4] (.lst []) (.v 4)) xs [a0, a1, a2, a3, a4, a5, a6] = .ok (List.replicate xs.length [], [a0, a1, a2, a3, e4, a5, a6]) := by
  induction xs with
  | nil => intro a4; exact ⟨a4, by simp⟩
  | cons x xs ih =>
    intro a4
    obtain ⟨e4, h⟩ := ih (some (.pu x))
    refine ⟨e4, ?_⟩
    have hb : 0 ≤ big := Nat.zero_le _
    simp [wipeE, h, ownR, hb, List.replicate_succ]
def bSt : List S := [(.appI 2 (.callW 0 0 [(.sub (.var 1) (.cst (.int 1)))]) (.popI 3 (.callW 0 0 [(.bi .len [(.var 3)])])))]
def envS (ns : List Int) (i : Nat) (sd rs : Int) (c s : Nat) (pl : List (List Nat)) (lf : List Nat) (a4 a5 a6 : Option M) : TR.Env :=
  [some (rowM ns i sd rs), some (.pu (ydD c s)), some (.nl (pl.map itD)), some (.li (itD lf)), a4, a5, a6]
theorem st_step (ns : List Int) (hn : ns.length ≤ 63) (i : Nat) (sd rs : Int) (c s : Nat) (hy : GoodY c s) (pl : List (List Nat)) (lf : List Nat) (hpl : pl.length = s) (hp : (pl.flatten ++ lf).Perm (List.range c)) (hlf : 0 < lf.length) (a4 a5 a6 : Option M) (j : Nat) :
    ∃ i' sd' rs' pl' lf', forB g_L_state (.v 5) bSt (.int j) (envS ns i sd rs c s pl lf a4 a5 a6) = .ok (.nx (envS ns i' sd' rs' c s pl' lf' a4 (some (.pu (.int j))) a6)) ∧
      pl'.length = s ∧ (pl'.flatten ++ lf').Perm (List.range c) ∧ lf'.length + 1 = lf.length := by
  have hlen := hp.length_eq
  rw [List.length_append, List.length_range] at hlen
  have h7 := hy.c7
  have h8 := hy.s8
  have h2 := hy.s2
  obtain ⟨v, i1, sd1, rs1, h1, hv⟩ := taken_ok ns hn i sd rs s (by omega) (by omega)
  obtain ⟨u, i2, sd2, rs2, h3, hu⟩ := taken_ok ns hn i1 sd1 rs1 lf.length (by omega) (by omega)
  have hv2 : v < pl.length := by omega
  have hu2 : u < lf.length := by omega
  refine ⟨i2, sd2, rs2, pl.set v (pl[v] ++ [lf[u]]), lf.eraseIdx u, ?_, by simp [hpl], ?_, ?_⟩
  · have hf : g_L_state[0]? = some (.wr d_L_taken) := rfl
    have hl : ∀ i sd rs, rowM ns i sd rs = .li [.list (ns.map .int), .int i, .int sd, .int rs] := fun _ _ _ => rfl
    have hlen2 : (itD lf).length = lf.length := by simp [itD]
    have hx : (itD pl[v]).length < big := by
      have : pl[v].length ≤ pl.flatten.length := (List.sublist_flatten_of_mem (List.getElem_mem hv2)).length_le
      simp [itD]; unfold big; omega
    have he : (itD lf)[u]? = some (.int (lf[u] : Nat)) := by simp [itD, hu2]
    have hpv : pl[v]? = some pl[v] := by simp [hv2]
    have hix : ixOf pl.length (v : Nat) = some v := ixOf_nat _ _ hv2
    have hiu : ixOf lf.length (u : Nat) = some u := ixOf_nat _ _ hu2
    have hcat : itD pl[v] ++ [.int (lf[u] : Nat)] = itD (pl[v] ++ [lf[u]]) := by simp [itD]
    have her : (itD lf).eraseIdx u = itD (lf.eraseIdx u) := by
      simp only [itD]; exact (map_eraseIdx _ _ _)
    simp only [hl] at h1 h3
    have h21 : ixOf 2 1 = some 1 := rfl
    simp [bSt, envS, hl, fwOf, hf, ydD, M.own, h1, hlen2, h3, -si_ixOf_1, h21, hiu, he, appII, hix, hpv, hx, hcat, her]
  · have h4 := set_flat pl v lf[u] hv2
    have h5 : lf.Perm (lf[u] :: lf.eraseIdx u) := perm_erase lf u hu2
    refine List.Perm.trans ?_ hp
    refine (h4.append_right _).trans ?_
    refine List.Perm.trans ?_ (h5.symm.append_left _)
    simp
    exact List.perm_middle.symm
  · rw [List.length_eraseIdx_of_lt hu2]; omega
end LB

set_option linter.all false
namespace LB
open PySem TR
theorem st_loop (ns : List Int) (hn : ns.length ≤ 63) (c s : Nat) (hy : GoodY c s) (i : Nat) (sd rs : Int) (pl : List (List Nat)) (lf : List Nat) (hpl : pl.length = s) (hp : (pl.flatten ++ lf).Perm (List.range c)) (hlf : lf.length = c) (a4 a5 a6 : Option M) :
    ∃ e2, foLoop (forB g_L_state (.v 5) bSt) (rngD 0 c) (envS ns i sd rs c s pl lf a4 a5 a6) = .ok (.nx e2) ∧
      ∃ i' sd' rs' pl' a5', e2 = envS ns i' sd' rs' c s pl' [] a4 a5' a6 ∧ pl'.length = s ∧ pl'.flatten.Perm (List.range c) := by
  rw [rngD_nat]
  obtain ⟨e2, h1, i', sd', rs', pl', lf', a5', rfl, h2, h3, h4⟩ := foLoop_all (f := forB g_L_state (.v 5) bSt) (fun j en => ∃ i' sd' rs' pl' lf' a5', en = envS ns i' sd' rs' c s pl' lf' a4 a5' a6 ∧ pl'.length = s ∧ (pl'.flatten ++ lf').Perm (List.range c) ∧ lf'.length + j = c)
    ((List.range c).map fun (i : Nat) => .int (i : Int)) (envS ns i sd rs c s pl lf a4 a5 a6) ⟨i, sd, rs, pl, lf, a5, rfl, hpl, hp, by omega⟩ (by
      intro j hj en hen
      simp at hj
      obtain ⟨i', sd', rs', pl', lf', a5', rfl, h2, h3, h4⟩ := hen
      obtain ⟨i2, sd2, rs2, pl2, lf2, h5, h6, h7, h8⟩ := st_step ns hn i' sd' rs' c s hy pl' lf' h2 h3 (by omega) a4 a5' a6 j
      refine ⟨_, ?_, i2, sd2, rs2, pl2, lf2, some (.pu (.int (j : Nat))), rfl, h6, h7, by omega⟩
      simp only [List.getElem_map, List.getElem_range]
      exact h5)
  have h5 : lf' = [] := by
    simp at h4; exact h4
  subst h5
  exact ⟨_, h1, i', sd', rs', pl', a5', rfl, h2, by simpa using h3⟩
theorem fin_loop (a0 a1 a2 a3 a4 a5 : Option M) (pl : List (List Nat)) : ∃ e2, lcLoop (lcB g_L_state [6] (.bi .tuple [(.var 6)]) (.v 6) []) (pl.map fun t => .list (itD t)) [a0, a1, a2, a3, a4, a5, none] = .ok (pl.map trD, e2) := by
  obtain ⟨e2, h, _⟩ := lcLoop_g (f := lcB g_L_state [6] (.bi .tuple [(.var 6)]) (.v 6) []) (fun t => .list (itD t)) (fun t => some (trD t)) (fun en => ∃ a6, en = [a0, a1, a2, a3, a4, a5, a6]) pl (by
    intro t ht en hen
    obtain ⟨a6, rfl⟩ := hen
    simp [wipeE, tupM, trD, itD]) [a0, a1, a2, a3, a4, a5, none] ⟨_, rfl⟩
  rw [filterMap_some] at h
  exact ⟨e2, h⟩
theorem noL_trD (t : List Nat) : noL (trD t) = true := by
  have : ∀ t : List Nat, noLs (t.map fun (c : Nat) => PyData.int (c : Nat)) = true := by
    intro t
    induction t with
    | nil => rfl
    | cons a t ih => simp [noLs, noL, ih]
  simp [trD, noL, this]
theorem noLs_map (pl : List (List Nat)) : noLs (pl.map trD) = true := by
  induction pl with
  | nil => rfl
  | cons a t ih => simp [noLs, noL_trD, ih]
theorem state_ok (ns : List Int) (hn : ns.length ≤ 63) (i : Nat) (sd rs : Int) (c s : Nat) (hy : GoodY c s) :
    ∃ (i' : Nat) (sd' rs' : Int) (st : List (List Nat)), d_L_state (rowM ns i sd rs) [ydD c s] = .ok (.pu (stD st), rowM ns i' sd' rs') ∧ Good c s st := by
  have h7 := hy.c7
  have h8 := hy.s8
  let e0 : TR.Env := [some (rowM ns i sd rs), some (.pu (ydD c s)), none, none, none, none, none]
  have hrow : rowM ns i sd rs = .li [.list (ns.map .int), .int i, .int sd, .int rs] := rfl
  have hr1 : ev g_L_state (.rng [(.sub (.var 1) (.cst (.int 1)))]) e0 = .ok (.li (rngD 0 s), [], e0) :=
    ev_rng_ok (ms := [.pu (.int s)]) (rs := []) (by simp [e0, ydD]) rfl (rgC_ok _ (by omega))
  obtain ⟨e4, hn1⟩ := nl_init g_L_state (some (rowM ns i sd rs)) (some (.pu (ydD c s))) none none none none (rngD 0 s) none
  have hlr : (rngD 0 s).length = s := by simp [rngD]
  rw [hlr] at hn1
  have hb : (List.replicate s ([] : List D)).length ≤ big := by simp; unfold big; omega
  have h1 : ev g_L_state (.lc true [4] (.lst []) (.v 4) (.rng [(.sub (.var 1) (.cst (.int 1)))]) []) e0 = .ok (.nl (List.replicate s []), [], e0) := by
    rw [ev_nl, hr1]
    simp only [bind, R.bind]
    rw [if_pos (by rfl)]
    simp only [itR, M.seq]
    rw [if_pos (by rfl), hn1]
    simp only
    rw [if_pos (by rw [decide_eq_true hb]; rfl)]
    rfl
  have h2 : ev g_L_state (.rgl false [(.sub (.var 1) (.cst (.int 0)))]) e0 = .ok (.li (rngD 0 c), [], e0) :=
    ev_rgl_ok (ms := [.pu (.int c)]) (rs := []) (by simp [e0, ydD]) rfl (rgB_ok _ (by omega))
  have hx : (List.replicate s ([] : List D)) = ((List.replicate s []).map itD) := by simp [itD]
  have hit : rngD 0 (c : Int) = itD (List.range c) := rngD_nat c
  have s1 : ex g_L_state (b_L_state.getD 0 .pass) e0 = .ok (.nx (envS ns i sd rs c s (List.replicate s []) (List.range c) none none none)) := by
    show ex _ (.par _ _) _ = _
    rw [ex_par2 h1 rfl h2 rfl (by simp [e0]) (by simp [e0]), hx, hit]
    rfl
  obtain ⟨e2, h3, i', sd', rs', pl', a5', rfl, h4, h5⟩ := st_loop ns hn c s hy i sd rs (List.replicate s []) (List.range c) (by simp) (by simp) (by simp) none none none
  have hr2 : ev g_L_state (.rng [(.sub (.var 1) (.cst (.int 0)))]) (envS ns i sd rs c s (List.replicate s []) (List.range c) none none none) = .ok (.li (rngD 0 c), [], (envS ns i sd rs c s (List.replicate s []) (List.range c) none none none)) :=
    ev_rng_ok (ms := [.pu (.int c)]) (rs := []) (by simp [envS, ydD]) rfl (rgC_ok _ (by omega))
  have s2 : ex g_L_state (b_L_state.getD 1 .pass) (envS ns i sd rs c s (List.replicate s []) (List.range c) none none none) = .ok (.nx (envS ns i' sd' rs' c s pl' [] none a5' none)) := by
    show ex _ (.for_ (.v 5) (.rng [(.sub (.var 1) (.cst (.int 0)))]) bSt) _ = _
    rw [ex_for, hr2]
    simp only [bind, R.bind, itR, M.seq]
    rw [if_pos (by rfl), h3]
  obtain ⟨e6, h6⟩ := fin_loop (some (rowM ns i' sd' rs')) (some (.pu (ydD c s))) (some (.pu (.list (pl'.map fun t => .list (itD t))))) (some (.li (itD []))) none a5' pl'
  have hb2 : (pl'.map trD).length ≤ big := by simp; unfold big; omega
  have h9 : ev g_L_state (.lc false [6] (.bi .tuple [(.var 6)]) (.v 6) (.var 2) []) (envS ns i' sd' rs' c s pl' [] none a5' none) = .ok (.li (pl'.map trD), [], envS ns i' sd' rs' c s pl' [] none a5' none) := by
    rw [ev_lc]
    have : ev g_L_state (.var 2) (envS ns i' sd' rs' c s pl' [] none a5' none) = .ok (.nl (pl'.map itD), [2], envS ns i' sd' rs' c s pl' [] none a5' none) := by simp [envS]
    rw [this]
    simp only [bind, R.bind]
    rw [if_pos (by rfl)]
    simp only [nlAt]
    rw [if_pos (by simp)]
    have : (envS ns i' sd' rs' c s pl' [] none a5' none).set 2 (some (.pu (.list ((pl'.map itD).map .list)))) = [some (rowM ns i' sd' rs'), some (.pu (ydD c s)), some (.pu (.list (pl'.map fun t => .list (itD t)))), some (.li (itD [])), none, a5', none] := by
      simp [envS, Function.comp_def]
    rw [this]
    simp only [List.map_map, Function.comp_def]
    rw [h6]
    simp only
    rw [if_pos (by rw [decide_eq_true hb2, noLs_map]; rfl)]
  have s3 : exs g_L_state (b_L_state.drop 2) (envS ns i' sd' rs' c s pl' [] none a5' none) = .ok (.ret (.pu (stD pl')) (envS ns i' sd' rs' c s pl' [] none a5' none)) := by
    refine ex_ret_ok ?_ rfl
    rw [ev.eq_8, evs, h9]
    simp only [bind, R.bind, evs, apart, List.all_nil, if_true, List.nil_append]
    rfl
  refine ⟨i', sd', rs', pl', ?_, ⟨h4, h5⟩⟩
  have s4 : exs g_L_state b_L_state e0 = _ := (exs_nx s1).trans ((exs_nx s2).trans s3)
  have : d_L_state (rowM ns i sd rs) [ydD c s] = (exs g_L_state b_L_state e0 >>= fun o => match o with
    | .ret r e => do
      let m1 ← e.get 0
      .ok (r, m1)
    | .nx e => do
      let m1 ← e.get 0
      .ok (.pu .none, m1)
    | .br _ => .bad) := rfl
  rw [this, s4]
  rfl
end LB

set_option linter.all false
namespace LB
open PySem TR
theorem chk_ev (G : List Fn) (j : Nat) (hG : G[j]? = some (.pr (d_L_alike 40))) (X Y : E) (d : D) (env e1 : TR.Env) (h : evTs G [X, Y] env = .ok ([d, d], e1)) (hd : tupN 8 d = true) :
    ev G (.not (.call j [X, Y])) env = .ok (.pu (.bool false), [], e1) :=
  ev_not_ok (ev_call_ok hG h (alike_tup 8 40 (by decide) d hd))
theorem chk_ok (G : List Fn) (j : Nat) (hG : G[j]? = some (.pr (d_L_alike 40))) (X Y : E) (d : D) (env e1 : TR.Env) (h : evTs G [X, Y] env = .ok ([d, d], e1)) (hd : tupN 8 d = true) (b : List S) :
    ex G (.ifs (.not (.call j [X, Y])) b []) env = .ok (.nx e1) :=
  ex_if_ff (chk_ev G j hG X Y d env e1 h hd) exs_nil
theorem chk2_ok (G : List Fn) (j : Nat) (hG : G[j]? = some (.pr (d_L_alike 40))) (X Y X2 Y2 : E) (d d2 : D) (env e1 e2 : TR.Env) (h : evTs G [X, Y] env = .ok ([d, d], e1)) (hd : tupN 8 d = true) (h2 : evTs G [X2, Y2] e1 = .ok ([d2, d2], e2)) (hd2 : tupN 8 d2 = true) (b : List S) :
    ex G (.ifs (.or (.not (.call j [X, Y])) (.not (.call j [X2, Y2]))) b []) env = .ok (.nx e2) :=
  ex_if_ff (ev_or_ff (chk_ev G j hG X Y d env e1 h hd) (chk_ev G j hG X2 Y2 d2 e1 e2 h2 hd2)) exs_nil
theorem tup_int (n : Nat) (i : Int) : tupN n (.int i) = true := by cases n <;> rfl
theorem tup_bool (n : Nat) (i : Bool) : tupN n (.bool i) = true := by cases n <;> rfl
theorem tup_all (n : Nat) (xs : List D) (h : xs.length ≤ 1000) (h2 : ∀ x ∈ xs, tupN n x = true) : tupN (n + 1) (.tuple xs) = true := by
  simp only [tupN, Bool.and_eq_true, decide_eq_true_eq, List.all_eq_true]
  exact ⟨h, h2⟩
theorem tup_alll (n : Nat) (xs : List D) (h : xs.length ≤ 1000) (h2 : ∀ x ∈ xs, tupN n x = true) : tupN (n + 1) (.list xs) = true := by
  simp only [tupN, Bool.and_eq_true, decide_eq_true_eq, List.all_eq_true]
  exact ⟨h, h2⟩
theorem tup_trD (n : Nat) (t : List Nat) (h : t.length ≤ 1000) : tupN (n + 1) (trD t) = true :=
  tup_all n _ (by simpa using h) (by intro x hx; obtain ⟨_, _, rfl⟩ := List.mem_map.1 hx; exact tup_int _ _)
theorem good_len (c s : Nat) (st : List (List Nat)) (hy : GoodY c s) (h : Good c s st) : ∀ t ∈ st, t.length ≤ 7 := by
  intro t ht
  have h1 : t.length ≤ st.flatten.length := (List.sublist_flatten_of_mem ht).length_le
  rw [h.hc.length_eq, List.length_range] at h1
  have := hy.c7; omega
theorem tup_stD (n : Nat) (c s : Nat) (st : List (List Nat)) (hy : GoodY c s) (h : Good c s st) : tupN (n + 2) (stD st) = true :=
  tup_all (n + 1) _ (by rw [List.length_map, h.hs]; have := hy.s8; omega) (by
    intro x hx; obtain ⟨t, ht, rfl⟩ := List.mem_map.1 hx
    exact tup_trD n t (by have := good_len c s st hy h t ht; omega))
theorem vs1 {G : List Fn} {env : TR.Env} {i : Nat} {a : D} (h1 : env.get i = .ok (.pu a)) : evTs G [.var i] env = .ok ([a], env) :=
  evTs_pu (ev_var_ok h1) evTs_nil
theorem vs2 {G : List Fn} {env : TR.Env} {i j : Nat} {a b : D} (h1 : env.get i = .ok (.pu a)) (h2 : env.get j = .ok (.pu b)) : evTs G [.var i, .var j] env = .ok ([a, b], env) :=
  evTs_pu (ev_var_ok h1) (evTs_pu (ev_var_ok h2) evTs_nil)
theorem vs3 {G : List Fn} {env : TR.Env} {i j k : Nat} {a b c : D} (h1 : env.get i = .ok (.pu a)) (h2 : env.get j = .ok (.pu b)) (h3 : env.get k = .ok (.pu c)) : evTs G [.var i, .var j, .var k] env = .ok ([a, b, c], env) :=
  evTs_pu (ev_var_ok h1) (evTs_pu (ev_var_ok h2) (evTs_pu (ev_var_ok h3) evTs_nil))
theorem ev2 {G : List Fn} {a b : E} {env : TR.Env} {d e : D} {r1 r2 : List Nat} (h1 : ev G a env = .ok (.pu d, r1, env)) (h2 : ev G b env = .ok (.pu e, r2, env)) (hs1 : isSt1 a = false := by rfl) (hs2 : isSt1 b = false := by rfl) : evTs G [a, b] env = .ok ([d, e], env) :=
  evTs_pu h1 (evTs_pu h2 evTs_nil hs2) hs1
theorem bd_tr (t u : List Nat) (h : t.length + u.length ≤ 1000) : binD .add (.pu (trD t)) (.pu (trD u)) = .ok (.pu (trD (t ++ u))) := by
  simp only [binD, trD, List.length_map]
  rw [if_pos (by unfold big; omega), List.map_append]
theorem put_li (xs : List D) (i : Nat) (d : D) (h : i < xs.length) : putI (.li xs) (.pu (.int i)) d = .ok (.li (xs.set i d)) := by
  simp only [putI]
  rw [ixOf_nat _ _ h]
theorem fmod_nat (a b : Nat) : ((a : Int) + 1).fmod (b : Int) = (((a + 1) % b : Nat) : Int) := by
  rw [Int.fmod_eq_emod_of_nonneg _ (by omega)]; rfl
theorem need_station_ok (c s k : Nat) (hk : k < s) : d_f_need_station [ydD c s, .int k] = .ok (.pu .none) := by
  have h1 : d_f_is_in [.int k, .int 0, .int ((s : Int) - 1)] = .ok (.pu (.bool true)) := is_in_int _ _ _ (by omega) (by omega)
  have hf : g_f_need_station[0]? = some (.pr d_f_is_in) := rfl
  simp only [ydD]
  simp [d_f_need_station, b_f_need_station, hf, h1]
/-- the train of a station goes on -/
def nxt (st : List (List Nat)) (i : Nat) : Nat := (i + 1) % st.length
def mv (st : List (List Nat)) (i : Nat) : List (List Nat) := (st.set (nxt st i) (st.getD (nxt st i) [] ++ st.getD i [])).set i []
def cl (st : List (List Nat)) (k : Nat) : List (List Nat) := mv st (st.findIdx (hasT k))
theorem mv_D (st : List (List Nat)) (i : Nat) : ((st.map trD).set (nxt st i) (trD (st.getD (nxt st i) [] ++ st.getD i []))).set i (trD []) = (mv st i).map trD := by
  rw [mv, List.map_set, List.map_set]
theorem flat_set (st : List (List Nat)) (i : Nat) (h : i < st.length) (t : List Nat) : (st.getD i [] ++ (st.set i t).flatten).Perm (t ++ st.flatten) := by
  induction st generalizing i with
  | nil => simp at h
  | cons a st ih =>
    cases i with
    | zero =>
      simp
      exact (List.perm_append_comm_assoc _ _ _)
    | succ i =>
      simp at h ⊢
      have := ih i h
      simp at this
      exact (List.perm_append_comm_assoc _ _ _).trans ((this.append_left a).trans (List.perm_append_comm_assoc _ _ _))
theorem getD_set_ne (st : List (List Nat)) (i j : Nat) (t : List Nat) (h : j ≠ i) : (st.set j t).getD i [] = st.getD i [] := by
  simp [List.getD_eq_getElem?_getD, h]
theorem mv_good (c s : Nat) (st : List (List Nat)) (hy : GoodY c s) (h : Good c s st) (i : Nat) (hi : i < s) : Good c s (mv st i) := by
  have hs := h.hs
  have h2 := hy.s2
  have hn : nxt st i < st.length := Nat.mod_lt _ (by omega)
  have hne : nxt st i ≠ i := by
    unfold nxt
    rcases Nat.lt_or_ge (i + 1) st.length with h3 | h3
    · rw [Nat.mod_eq_of_lt h3]; omega
    · have : i + 1 = st.length := by omega
      rw [this, Nat.mod_self]; omega
  refine ⟨by simp [mv, hs], ?_⟩
  refine List.Perm.trans ?_ h.hc
  have p1 := flat_set (st.set (nxt st i) (st.getD (nxt st i) [] ++ st.getD i [])) i (by simp; omega) []
  rw [getD_set_ne _ _ _ _ hne] at p1
  have p2 := flat_set st (nxt st i) hn (st.getD (nxt st i) [] ++ st.getD i [])
  rw [List.append_assoc] at p2
  have p3 := (List.perm_append_left_iff _).1 p2
  exact (List.perm_append_left_iff (st.getD i [])).1 (p1.trans (by simpa using p3))
end LB

set_option linter.all false
namespace LB
open PySem TR
theorem good_two (c s : Nat) (st : List (List Nat)) (hy : GoodY c s) (h : Good c s st) (i j : Nat) : (st.getD i []).length + (st.getD j []).length ≤ 1000 := by
  have h1 : ∀ i, (st.getD i []).length ≤ 7 := by
    intro i
    rcases Nat.lt_or_ge i st.length with h2 | h2
    · rw [List.getD_eq_getElem?_getD, List.getElem?_eq_getElem h2]
      exact good_len c s st hy h _ (List.getElem_mem h2)
    · rw [List.getD_eq_getElem?_getD, List.getElem?_eq_none h2]; simp
  have := h1 i
  have := h1 j
  omega
theorem move_in_ok (c s i : Nat) (st : List (List Nat)) (hy : GoodY c s) (h : Good c s st) (hi : i < s) : d_f_move_in [stD st, .int i] = .ok (.pu (stD (mv st i))) := by
  have hs := h.hs
  have h2 := hy.s2
  have hn : nxt st i < st.length := Nat.mod_lt _ (by omega)
  have hil : i < st.length := by omega
  have hlen : bi1 .len (.pu (stD st)) = .ok (.pu (.int st.length)) := by simp [stD]
  have hm := bd_mod ((i : Int) + 1) (st.length : Int) (by omega)
  rw [fmod_nat] at hm
  let e0 : TR.Env := [some (.pu (stD st)), some (.pu (.int i)), none, none]
  let e1 : TR.Env := [some (.pu (stD st)), some (.pu (.int i)), some (.pu (.int (nxt st i))), none]
  let e2 (m : M) : TR.Env := [some (.pu (stD st)), some (.pu (.int i)), some (.pu (.int (nxt st i))), some m]
  have s1 : ex g_f_move_in (b_f_move_in.getD 0 .pass) e0 = .ok (.nx e1) :=
    ex_asg_v (ev_bin_ok (ev_bin_ok (ev_var_ok rfl) ev_cst_ok (bd_add _ _)) (ev_bi1_ok (b := .len) (ev_var_ok rfl) hlen) hm) rfl (by show 2 < 4; decide)
  have s2 : ex g_f_move_in (b_f_move_in.getD 1 .pass) e1 = .ok (.nx (e2 (.li (st.map trD)))) :=
    ex_asg_v (i := 3) (e2 := e1) (m := .li (st.map trD)) (ev_bi1_ok (b := .list) (e1 := e1) (ev_var_ok rfl) rfl) rfl (by show 3 < 4; decide)
  have hsum : ev g_f_move_in (.bin .add (.sub (.var 0) (.var 2)) (.sub (.var 0) (.var 1))) (e2 (.li (st.map trD))) = .ok (.pu (trD (st.getD (nxt st i) [] ++ st.getD i [])), [], e2 (.li (st.map trD))) :=
    ev_bin_ok (ev_sub_ok (ev_var_ok rfl) (ev_var_ok rfl) rfl (sub_stD st _ hn) rfl) (ev_sub_ok (ev_var_ok rfl) (ev_var_ok rfl) rfl (sub_stD st _ hil) rfl) (bd_tr _ _ (good_two c s st hy h _ _))
  have s3 : ex g_f_move_in (b_f_move_in.getD 2 .pass) (e2 (.li (st.map trD))) = .ok (.nx (e2 (.li ((st.map trD).set (nxt st i) (trD (st.getD (nxt st i) [] ++ st.getD i [])))))) :=
    ex_setI_ok rfl hsum (ev_var_ok rfl) rfl (put_li _ _ _ (by rw [List.length_map]; exact hn))
  have s4 : ex g_f_move_in (b_f_move_in.getD 3 .pass) (e2 (.li ((st.map trD).set (nxt st i) (trD (st.getD (nxt st i) [] ++ st.getD i []))))) = .ok (.nx (e2 (.li ((mv st i).map trD)))) := by
    rw [← mv_D]
    exact ex_setI_ok rfl (ev_tup_ok evTs_nil (Nat.zero_le _)) (ev_var_ok rfl) rfl (put_li _ _ _ (by rw [List.length_set, List.length_map]; exact hil))
  have s5 : exs g_f_move_in (b_f_move_in.drop 4) (e2 (.li ((mv st i).map trD))) = .ok (.ret (.pu (stD (mv st i))) (e2 (.li ((mv st i).map trD)))) :=
    ex_ret_ok (ev_bi1_ok (b := .tuple) (ev_ownvar rfl) rfl) rfl
  exact runP_ret ((exs_nx s1).trans ((exs_nx s2).trans ((exs_nx s3).trans ((exs_nx s4).trans s5))))
theorem L_move_ok (c s i : Nat) (st : List (List Nat)) (hy : GoodY c s) (h : Good c s st) (hi : i < s) : d_L_move [stD st, .int i] = .ok (.pu (stD (mv st i))) := by
  have hs := h.hs
  have h2 := hy.s2
  have hn : nxt st i < st.length := Nat.mod_lt _ (by omega)
  have hil : i < st.length := by omega
  have hlen : bi1 .len (.pu (stD st)) = .ok (.pu (.int st.length)) := by simp [stD]
  have hm := bd_mod ((i : Int) + 1) (st.length : Int) (by omega)
  rw [fmod_nat] at hm
  let e0 : TR.Env := [some (.pu (stD st)), some (.pu (.int i)), none, none]
  let e2 (m : M) : TR.Env := [some (.pu (stD st)), some (.pu (.int i)), some m, some (.pu (.int (nxt st i)))]
  have s1 : ex g_L_move (b_L_move.getD 0 .pass) e0 = .ok (.nx (e2 (.li (st.map trD)))) :=
    ex_par2 (ev_bi1_ok (b := .list) (ev_var_ok rfl) rfl) rfl (ev_bin_ok (ev_bi1_ok (b := .int) (ev_bin_ok (ev_var_ok rfl) ev_cst_ok (bd_add _ _)) rfl) (ev_bi1_ok (b := .len) (ev_var_ok rfl) hlen) hm) rfl (by show 2 < 4; decide) (by show 3 < 4; decide)
  have hsum : ev g_L_move (.bin .add (.sub (.var 0) (.var 3)) (.sub (.var 0) (.var 1))) (e2 (.li (st.map trD))) = .ok (.pu (trD (st.getD (nxt st i) [] ++ st.getD i [])), [], e2 (.li (st.map trD))) :=
    ev_bin_ok (ev_sub_ok (ev_var_ok rfl) (ev_var_ok rfl) rfl (sub_stD st _ hn) rfl) (ev_sub_ok (ev_var_ok rfl) (ev_var_ok rfl) rfl (sub_stD st _ hil) rfl) (bd_tr _ _ (good_two c s st hy h _ _))
  have s3 : ex g_L_move (b_L_move.getD 1 .pass) (e2 (.li (st.map trD))) = .ok (.nx (e2 (.li ((st.map trD).set (nxt st i) (trD (st.getD (nxt st i) [] ++ st.getD i [])))))) :=
    ex_setI_ok rfl hsum (ev_var_ok rfl) rfl (put_li _ _ _ (by rw [List.length_map]; exact hn))
  have s4 : ex g_L_move (b_L_move.getD 2 .pass) (e2 (.li ((st.map trD).set (nxt st i) (trD (st.getD (nxt st i) [] ++ st.getD i []))))) = .ok (.nx (e2 (.li ((mv st i).map trD)))) := by
    rw [← mv_D]
    exact ex_setI_ok rfl (ev_tup_ok evTs_nil (Nat.zero_le _)) (ev_var_ok rfl) rfl (put_li _ _ _ (by rw [List.length_set, List.length_map]; exact hil))
  have s5 : exs g_L_move (b_L_move.drop 3) (e2 (.li ((mv st i).map trD))) = .ok (.ret (.pu (stD (mv st i))) (e2 (.li ((mv st i).map trD)))) :=
    ex_ret_ok (ev_bi1_ok (b := .tuple) (ev_ownvar rfl) rfl) rfl
  exact runP_ret ((exs_nx s1).trans ((exs_nx s3).trans ((exs_nx s4).trans s5)))
theorem has_car (c s k : Nat) (st : List (List Nat)) (h : Good c s st) (hk : k < c) : ∃ t ∈ st, k ∈ t := by
  have := (h.hc.mem_iff (a := k)).2 (by simpa using hk)
  simpa [List.mem_flatten] using this
theorem st_in (c s k : Nat) (st : List (List Nat)) (hy : GoodY c s) (h : Good c s st) (hk : k < c) : d_f_station_in [stD st, .int k] = .ok (.pu (.int (st.findIdx (hasT k) : Nat))) :=
  station_in_ok st k (has_car c s k st h hk) (by rw [h.hs]; have := hy.s8; omega)
theorem fi_lt (c s k : Nat) (st : List (List Nat)) (h : Good c s st) (hk : k < c) : st.findIdx (hasT k) < s := by
  have := findIdx_lt c s k st h hk
  rw [h.hs] at this; exact this
theorem cl_good (c s k : Nat) (st : List (List Nat)) (hy : GoodY c s) (h : Good c s st) (hk : k < c) : Good c s (cl st k) :=
  mv_good c s st hy h _ (fi_lt c s k st h hk)
theorem call_in_ok (c s k : Nat) (st : List (List Nat)) (hy : GoodY c s) (h : Good c s st) (hk : k < c) : d_f_call_in [stD st, .int k] = .ok (.pu (stD (cl st k))) :=
  runP_ret (ex_ret_ok (ev_call_ok (k := 0) rfl (evTs_pu (ev_var_ok rfl) (evTs_pu (ev_call_ok (k := 1) rfl (vs2 (i := 0) (j := 1) rfl rfl) (st_in c s k st hy h hk)) evTs_nil)) (move_in_ok c s _ st hy h (fi_lt c s k st h hk))) rfl)
theorem L_call_ok (c s k : Nat) (st : List (List Nat)) (hy : GoodY c s) (h : Good c s st) (hk : k < c) : d_L_call [stD st, .int k] = .ok (.pu (stD (cl st k))) :=
  runP_ret (ex_ret_ok (ev_call_ok (k := 0) rfl (evTs_pu (ev_var_ok rfl) (evTs_pu (ev_call_ok (k := 1) rfl (vs2 (i := 0) (j := 1) rfl rfl) (at_ok c s k st hy h hk)) evTs_nil)) (L_move_ok c s _ st hy h (fi_lt c s k st h hk))) rfl)
theorem call_ok (c s k : Nat) (st : List (List Nat)) (hy : GoodY c s) (h : Good c s st) (hk : k < c) : d_f_call [ydD c s, stD st, .int k] = .ok (.pu (stD (cl st k))) :=
  runP_ret ((exs_do (ev_call_ok (k := 0) rfl (vs2 (i := 0) (j := 1) rfl rfl) (need_state_ok c s st hy h))).trans ((exs_do (ev_call_ok (k := 1) rfl (vs2 (i := 0) (j := 2) rfl rfl) (need_car_ok c s k (by omega) (by omega)))).trans (ex_ret_ok (ev_call_ok (k := 2) rfl (vs2 (i := 1) (j := 2) rfl rfl) (call_in_ok c s k st hy h hk)) rfl)))
theorem move_ok (c s k : Nat) (st : List (List Nat)) (hy : GoodY c s) (h : Good c s st) (hk : k < s) : d_f_move [ydD c s, stD st, .int k] = .ok (.pu (stD (mv st k))) :=
  runP_ret ((exs_do (ev_call_ok (k := 0) rfl (vs2 (i := 0) (j := 1) rfl rfl) (need_state_ok c s st hy h))).trans ((exs_do (ev_call_ok (k := 1) rfl (vs2 (i := 0) (j := 2) rfl rfl) (need_station_ok c s k hk))).trans (ex_ret_ok (ev_call_ok (k := 2) rfl (vs2 (i := 1) (j := 2) rfl rfl) (move_in_ok c s k st hy h hk)) rfl)))
end LB

set_option linter.all false
namespace LB
open PySem TR
theorem lcLoop_ex {f : D → TR.Env → R (Option D × TR.Env)} (P : D → Prop) (I : TR.Env → Prop) (xs : List D)
    (H : ∀ x ∈ xs, ∀ en, I en → ∃ y e2, f x en = .ok (some y, e2) ∧ P y ∧ I e2) : ∀ env, I env → ∃ ys e2, lcLoop f xs env = .ok (ys, e2) ∧ ys.length = xs.length ∧ (∀ y ∈ ys, P y) ∧ I e2 := by
  induction xs with
  | nil => intro env h0; exact ⟨[], env, by rw [lcLoop], rfl, (fun y hy => by cases hy), h0⟩
  | cons x xs ih =>
    intro env h0
    obtain ⟨y, e2, h1, h2, h3⟩ := H x (by simp) env h0
    obtain ⟨ys, e3, h4, h5, h6, h7⟩ := ih (fun y hy => H y (by simp [hy])) e2 h3
    refine ⟨y :: ys, e3, ?_, by simp [h5], ?_, h7⟩
    · rw [lcLoop, h1]
      simp only [bind, R.bind]
      rw [h4]
    · intro z hz
      rcases List.mem_cons.1 hz with rfl | hz
      · exact h2
      · exact h6 z hz
theorem ints_of (n : Nat) (ys : List D) (h : ∀ y ∈ ys, ∃ k : Nat, k < n ∧ y = .int k) : ∃ ks : List Nat, ys = itD ks ∧ ∀ k ∈ ks, k < n := by
  induction ys with
  | nil => exact ⟨[], rfl, fun k hk => by cases hk⟩
  | cons y ys ih =>
    obtain ⟨k, h1, rfl⟩ := h y (by simp)
    obtain ⟨ks, rfl, h2⟩ := ih (fun z hz => h z (by simp [hz]))
    refine ⟨k :: ks, rfl, ?_⟩
    intro z hz
    rcases List.mem_cons.1 hz with rfl | hz
    · exact h1
    · exact h2 z hz
def stry (st : List (List Nat)) : List Nat → List (List (List Nat))
  | [] => [st]
  | k :: ks => st :: stry (cl st k) ks
def fin (st : List (List Nat)) (ks : List Nat) : List (List Nat) := ks.foldl cl st
theorem stry_last (ks : List Nat) : ∀ st, ∃ pre, stry st ks = pre ++ [fin st ks] := by
  induction ks with
  | nil => intro st; exact ⟨[], rfl⟩
  | cons k ks ih => intro st; obtain ⟨pre, h⟩ := ih (cl st k); exact ⟨st :: pre, by simp [stry, h, fin]⟩
theorem stry_len (ks : List Nat) : ∀ st, (stry st ks).length = ks.length + 1 := by
  induction ks with
  | nil => intro st; rfl
  | cons k ks ih => intro st; simp [stry, ih]
theorem stry_good (c s : Nat) (hy : GoodY c s) (ks : List Nat) (hk : ∀ k ∈ ks, k < c) : ∀ st, Good c s st → ∀ x ∈ stry st ks, Good c s x := by
  induction ks with
  | nil => intro st h x hx; simp [stry] at hx; rw [hx]; exact h
  | cons k ks ih =>
    intro st h x hx
    simp only [stry, List.mem_cons] at hx
    rcases hx with rfl | hx
    · exact h
    · exact ih (fun j hj => hk j (by simp [hj])) (cl st k) (cl_good c s k st hy h (hk k (by simp))) x hx
theorem fin_good (c s : Nat) (hy : GoodY c s) (ks : List Nat) (hk : ∀ k ∈ ks, k < c) (st : List (List Nat)) (h : Good c s st) : Good c s (fin st ks) := by
  obtain ⟨pre, h2⟩ := stry_last ks st
  exact stry_good c s hy ks hk st h _ (by rw [h2]; simp)
theorem app_loop (c s : Nat) (hy : GoodY c s) (f : D → TR.Env → R Out) (E : List D → Option M → TR.Env)
    (step : ∀ (acc : List D) cur (k : Nat) a, acc.length ≤ 500 → Good c s cur → k < c → f (.int k) (E (acc ++ [stD cur]) a) = .ok (.nx (E (acc ++ [stD cur] ++ [stD (cl cur k)]) (some (.pu (.int k)))))) (ks : List Nat) :
    ∀ (acc : List D) cur a, acc.length + ks.length ≤ 500 → Good c s cur → (∀ k ∈ ks, k < c) → ∃ a', foLoop f (itD ks) (E (acc ++ [stD cur]) a) = .ok (.nx (E (acc ++ (stry cur ks).map stD) a')) := by
  induction ks with
  | nil => intro acc cur a _ _ _; exact ⟨a, by rw [itD, List.map_nil, foLoop]; rfl⟩
  | cons k ks ih =>
    intro acc cur a hl h hk
    have hk0 := hk k (by simp)
    obtain ⟨a', h2⟩ := ih (acc ++ [stD cur]) (cl cur k) (some (.pu (.int k))) (by simp at hl ⊢; omega) (cl_good c s k cur hy h hk0) (fun j hj => hk j (by simp [hj]))
    refine ⟨a', ?_⟩
    have h3 := step acc cur k a (by simp at hl; omega) h hk0
    show foLoop f (.int k :: itD ks) _ = _
    rw [foLoop, h3]
    simp only [bind, R.bind]
    rw [h2]
    simp [stry]
theorem mv_loop (c s : Nat) (hy : GoodY c s) (f : D → TR.Env → R Out) (E : D → Option M → TR.Env)
    (step : ∀ cur (i : Nat) a, Good c s cur → i < s → f (.int i) (E (stD cur) a) = .ok (.nx (E (stD (mv cur i)) (some (.pu (.int i)))))) (is : List Nat) :
    ∀ cur a, Good c s cur → (∀ k ∈ is, k < s) → ∃ a', foLoop f (itD is) (E (stD cur) a) = .ok (.nx (E (stD (is.foldl mv cur)) a')) := by
  induction is with
  | nil => intro cur a _ _; exact ⟨a, by rw [itD, List.map_nil, foLoop]; rfl⟩
  | cons k ks ih =>
    intro cur a h hk
    have hk0 := hk k (by simp)
    obtain ⟨a', h2⟩ := ih (mv cur k) (some (.pu (.int k))) (mv_good c s cur hy h k hk0) (fun j hj => hk j (by simp [hj]))
    refine ⟨a', ?_⟩
    have h3 := step cur k a h hk0
    show foLoop f (.int k :: itD ks) _ = _
    rw [foLoop, h3]
    simp only [bind, R.bind]
    rw [h2]
    rfl
theorem mvs_good (c s : Nat) (hy : GoodY c s) (is : List Nat) (hk : ∀ k ∈ is, k < s) : ∀ st, Good c s st → Good c s (is.foldl mv st) := by
  induction is with
  | nil => intro st h; exact h
  | cons k ks ih => intro st h; exact ih (fun j hj => hk j (by simp [hj])) _ (mv_good c s st hy h k (hk k (by simp)))
theorem sub_last (acc : List D) (x : D) : subD (.li (acc ++ [x])) (.pu (.int (-1))) = .ok (.pu x) := by
  have h : ixOf (acc ++ [x]).length (-1) = some acc.length := by
    simp only [ixOf]
    rw [if_neg (by decide), if_pos (by simp; omega)]
    congr 1
    simp
    omega
  simp only [subD, M.seq, bind, R.bind, atD, h]
  simp
theorem app_big (acc : List D) (x : D) (h : acc.length ≤ 500) : (acc ++ [x]).length < big := by simp; unfold big; omega
theorem story_in_ok (c s : Nat) (st : List (List Nat)) (ks : List Nat) (hy : GoodY c s) (h : Good c s st) (hk : ∀ k ∈ ks, k < c) (hl : ks.length ≤ 60) : d_f_story_in [stD st, trD ks] = .ok (.li ((stry st ks).map stD)) := by
  let E (xs : List D) (a : Option M) : TR.Env := [some (.pu (stD st)), some (.pu (trD ks)), some (.li xs), a]
  have s1 : ex g_f_story_in (b_f_story_in.getD 0 .pass) [some (.pu (stD st)), some (.pu (trD ks)), none, none] = .ok (.nx (E [stD st] none)) :=
    ex_asg_v (i := 2) (e2 := [some (.pu (stD st)), some (.pu (trD ks)), none, none]) (m := .li [stD st]) (ev_lst_ok (vs1 rfl) one_big) rfl (by show 2 < 4; decide)
  obtain ⟨a', h2⟩ := app_loop c s hy (forB g_f_story_in (.v 3) [(.app 2 (.call 0 [(.sub (.var 2) (.neg (.cst (.int 1)))), (.var 3)]))]) E (by
    intro acc cur k a h1 h2 h3
    have h4 : ev g_f_story_in (.call 0 [(.sub (.var 2) (.neg (.cst (.int 1)))), (.var 3)]) (E (acc ++ [stD cur]) (some (.pu (.int k)))) = .ok (.pu (stD (cl cur k)), [], E (acc ++ [stD cur]) (some (.pu (.int k)))) :=
      ev_call_ok (k := 0) rfl (ev2 (ev_sub_ok (ev_ownvar rfl) (ev_neg_ok ev_cst_ok) (by simp) (sub_last _ _) rfl) (ev_var_ok rfl)) (call_in_ok c s k cur hy h2 h3)
    have h5 : ex g_f_story_in (.app 2 (.call 0 [(.sub (.var 2) (.neg (.cst (.int 1)))), (.var 3)])) (E (acc ++ [stD cur]) (some (.pu (.int k)))) = .ok (.nx (E (acc ++ [stD cur] ++ [stD (cl cur k)]) (some (.pu (.int k))))) :=
      ex_app_ok rfl h4 rfl (app_big _ _ h1)
    exact (exs_nx h5).trans exs_nil) ks [] st none (by simp; omega) h hk
  have s2 : ex g_f_story_in (b_f_story_in.getD 1 .pass) (E [stD st] none) = .ok (.nx (E ((stry st ks).map stD) a')) :=
    ex_for_ok (m := .pu (trD ks)) (rs := []) (e1 := E [stD st] none) (ev_var_ok rfl) rfl rfl h2
  have s3 : exs g_f_story_in (b_f_story_in.drop 2) (E ((stry st ks).map stD) a') = .ok (.ret (.li ((stry st ks).map stD)) [some (.pu (stD st)), some (.pu (trD ks)), none, a']) := by
    show exs _ [.ret (.var 2)] _ = _
    rw [exs, ex, ev_ownvar rfl]
    rfl
  exact runP_ret ((exs_nx s1).trans ((exs_nx s2).trans s3))
theorem need_calls_ok (c s : Nat) (ks : List Nat) (hk : ∀ k ∈ ks, k < c) (hl : ks.length ≤ 60) : d_f_need_calls [ydD c s, trD ks] = .ok (.pu .none) := by
  let E (a b : Option M) : TR.Env := [some (.pu (ydD c s)), some (.pu (trD ks)), a, b]
  have h1 : d_f_is_list [trD ks, .int 0, .int 60] = .ok (.pu (.bool true)) := is_list_tup _ _ _ (by simp) (by simp; omega)
  have s1 : ex g_f_need_calls (b_f_need_calls.getD 0 .pass) (E none none) = .ok (.nx (E none none)) :=
    ex_if_ff (ev_not_ok (ev_call_ok (k := 0) rfl (evTs_pu (d := trD ks) (ev_var_ok rfl) (evTs_pu (d := .int 0) ev_cst_ok (evTs_pu (d := .int 60) (by rw [ev]) evTs_nil))) h1)) exs_nil
  obtain ⟨e2, h2, a, b, rfl⟩ := foLoop_g (f := forB g_f_need_calls (.t [(.v 2), (.v 3)]) [(.ifs (.not (.call 1 [(.var 3), (.cst (.int 0)), (.bin .sub (.sub (.var 0) (.cst (.int 0))) (.cst (.int 1)))])) [(.do_ (.star (.cst .none)))] [])]) (fun p : Nat × Nat => .tuple [.int (p.2 : Nat), .int (p.1 : Nat)]) (fun _ en => ∃ a b, en = E a b) ks.zipIdx (by
    intro l1 p l2 he en hen
    obtain ⟨a, b, rfl⟩ := hen
    have hp : p.1 < c := by
      have : p ∈ ks.zipIdx := by rw [he]; simp
      obtain ⟨k, i⟩ := p
      rw [List.mem_zipIdx_iff_getElem?] at this
      exact hk k (List.mem_of_getElem? this)
    refine ⟨E (some (.pu (.int p.2))) (some (.pu (.int p.1))), ?_, _, _, rfl⟩
    have h3 : d_f_is_in [.int (p.1 : Nat), .int 0, .int ((c : Int) - 1)] = .ok (.pu (.bool true)) := is_in_int _ _ _ (by omega) (by omega)
    have h4 : ex g_f_need_calls (.ifs (.not (.call 1 [(.var 3), (.cst (.int 0)), (.bin .sub (.sub (.var 0) (.cst (.int 0))) (.cst (.int 1)))])) [(.do_ (.star (.cst .none)))] []) (E (some (.pu (.int p.2))) (some (.pu (.int p.1)))) = .ok (.nx (E (some (.pu (.int p.2))) (some (.pu (.int p.1))))) :=
      ex_if_ff (ev_not_ok (ev_call_ok (k := 1) rfl (evTs_pu (d := .int p.1) (ev_var_ok rfl) (evTs_pu (d := .int 0) ev_cst_ok (evTs_pu (ev_bin_ok (ev_sub_ok (m := .pu (.int c)) (ev_var_ok rfl) ev_cst_ok rfl rfl rfl) ev_cst_ok (bd_sub _ _)) evTs_nil))) h3)) exs_nil
    exact (exs_nx h4).trans exs_nil) (E none none) ⟨_, _, rfl⟩
  rw [← enmD_zip (fun (k : Nat) => PyData.int (k : Nat))] at h2
  have hen : ev g_f_need_calls (.enm (.var 1)) (E none none) = .ok (.li (enmD (itD ks) 0), [], E none none) := by
    rw [ev, ev_var_ok rfl]
    rfl
  have s2 : ex g_f_need_calls (b_f_need_calls.getD 1 .pass) (E none none) = .ok (.nx (E a b)) :=
    ex_for_ok hen rfl rfl h2
  exact runP_nx ((exs_nx s1).trans ((exs_nx s2).trans exs_nil))
end LB

set_option linter.all false
namespace LB
open PySem TR
theorem after_ok (c s : Nat) (st : List (List Nat)) (ks : List Nat) (hy : GoodY c s) (h : Good c s st) (hk : ∀ k ∈ ks, k < c) (hl : ks.length ≤ 60) : d_f_after [ydD c s, stD st, trD ks] = .ok (.pu (stD (fin st ks))) := by
  obtain ⟨pre, hp⟩ := stry_last ks st
  have h1 : subD (.li ((stry st ks).map stD)) (.pu (.int (-1))) = .ok (.pu (stD (fin st ks))) := by
    rw [hp, List.map_append]; exact sub_last _ _
  exact runP_ret ((exs_do (ev_call_ok (k := 0) rfl (vs2 (i := 0) (j := 1) rfl rfl) (need_state_ok c s st hy h))).trans ((exs_do (ev_call_ok (k := 1) rfl (vs2 (i := 0) (j := 2) rfl rfl) (need_calls_ok c s ks hk hl))).trans (ex_ret_ok (ev_sub_ok (ev_call_ok (k := 2) rfl (vs2 (i := 1) (j := 2) rfl rfl) (story_in_ok c s st ks hy h hk hl)) (ev_neg_ok ev_cst_ok) rfl h1 rfl) rfl)))
theorem story_ok (c s : Nat) (st : List (List Nat)) (ks : List Nat) (hy : GoodY c s) (h : Good c s st) (hk : ∀ k ∈ ks, k < c) (hl : ks.length ≤ 60) : d_f_story [ydD c s, stD st, trD ks] = .ok (.li ((stry st ks).map stD)) :=
  runP_ret ((exs_do (ev_call_ok (k := 0) rfl (vs2 (i := 0) (j := 1) rfl rfl) (need_state_ok c s st hy h))).trans ((exs_do (ev_call_ok (k := 1) rfl (vs2 (i := 0) (j := 2) rfl rfl) (need_calls_ok c s ks hk hl))).trans (ex_ret_ok (ev_call_ok (k := 2) rfl (vs2 (i := 1) (j := 2) rfl rfl) (story_in_ok c s st ks hy h hk hl)) rfl)))
def cnts (st : List (List Nat)) (ks : List Nat) : List Nat := (stry st ks).map fun x => (trsL x).length
theorem left_loop (c s : Nat) (hy : GoodY c s) (sts : List (List (List Nat))) (hg : ∀ x ∈ sts, Good c s x) (a0 a1 a2 : Option M) : ∃ a3, lcLoop (lcB g_f_trains_left [3] (.bi .len [(.call 3 [(.var 3)])]) (.v 3) []) (sts.map stD) [a0, a1, a2, none] = .ok (itD (sts.map fun x => (trsL x).length), [a0, a1, a2, a3]) := by
  obtain ⟨e2, h1, a3, rfl⟩ := lcLoop_g (f := lcB g_f_trains_left [3] (.bi .len [(.call 3 [(.var 3)])]) (.v 3) []) stD (fun x => some (.int ((trsL x).length : Nat))) (fun en => ∃ a3, en = [a0, a1, a2, a3]) sts (by
    intro x hx en hen
    obtain ⟨a3, rfl⟩ := hen
    have h2 := trains_in_ok x (by rw [(hg x hx).hs]; have := hy.s8; omega)
    have h3 : ev g_f_trains_left (.bi .len [(.call 3 [(.var 3)])]) [a0, a1, a2, some (.pu (stD x))] = .ok (.pu (.int (trsL x).length), [], [a0, a1, a2, some (.pu (stD x))]) :=
      ev_bi1_ok (b := .len) (ev_call_ok (k := 3) rfl (vs1 rfl) h2) rfl
    exact ⟨[a0, a1, a2, some (.pu (stD x))], lcB_nc rfl h3, _, rfl⟩) [a0, a1, a2, none] ⟨_, rfl⟩
  refine ⟨a3, ?_⟩
  rw [h1, filterMap_some]
  simp [itD]
theorem trains_left_ok (c s : Nat) (st : List (List Nat)) (ks : List Nat) (hy : GoodY c s) (h : Good c s st) (hk : ∀ k ∈ ks, k < c) (hl : ks.length ≤ 60) : d_f_trains_left [ydD c s, stD st, trD ks] = .ok (.pu (trD (cnts st ks))) := by
  obtain ⟨a3, h1⟩ := left_loop c s hy (stry st ks) (stry_good c s hy ks hk st h) (some (.pu (ydD c s))) (some (.pu (stD st))) (some (.pu (trD ks)))
  have h2 : ev g_f_trains_left (.lc false [3] (.bi .len [(.call 3 [(.var 3)])]) (.v 3) (.call 2 [(.var 1), (.var 2)]) []) [some (.pu (ydD c s)), some (.pu (stD st)), some (.pu (trD ks)), none] = .ok (.li (itD (cnts st ks)), [], [some (.pu (ydD c s)), some (.pu (stD st)), some (.pu (trD ks)), none]) :=
    ev_lc_ok (m := .li ((stry st ks).map stD)) (rs := []) (ev_call_ok (k := 2) rfl (vs2 (i := 1) (j := 2) rfl rfl) (story_in_ok c s st ks hy h hk hl)) rfl rfl rfl rfl h1 (by rw [itD, List.length_map, List.length_map, stry_len]; unfold big; omega)
  exact runP_ret ((exs_do (ev_call_ok (k := 0) rfl (vs2 (i := 0) (j := 1) rfl rfl) (need_state_ok c s st hy h))).trans ((exs_do (ev_call_ok (k := 1) rfl (vs2 (i := 0) (j := 2) rfl rfl) (need_calls_ok c s ks hk hl))).trans (ex_ret_ok (ev_bi1_ok (b := .tuple) h2 rfl) rfl)))
/-- all numbers of a list are stations -/
theorem all_in_loop (c s : Nat) (is : List Nat) (hi : ∀ k ∈ is, k < s) (a1 a2 a4 : Option M) : ∃ a3, lcLoop (lcB g_f_after_moves [3] (.call 1 [(.var 3), (.cst (.int 0)), (.bin .sub (.sub (.var 0) (.cst (.int 1))) (.cst (.int 1)))]) (.v 3) []) (itD is) [some (.pu (ydD c s)), a1, a2, none, a4] = .ok (is.map fun _ => .bool true, [some (.pu (ydD c s)), a1, a2, a3, a4]) := by
  obtain ⟨e2, h1, a3, rfl⟩ := lcLoop_g (f := lcB g_f_after_moves [3] (.call 1 [(.var 3), (.cst (.int 0)), (.bin .sub (.sub (.var 0) (.cst (.int 1))) (.cst (.int 1)))]) (.v 3) []) (fun (k : Nat) => .int (k : Nat)) (fun x => some (.bool true)) (fun en => ∃ a3, en = [some (.pu (ydD c s)), a1, a2, a3, a4]) is (by
    intro k hk en hen
    obtain ⟨a3, rfl⟩ := hen
    have hks := hi k hk
    have h3 : d_f_is_in [.int (k : Nat), .int 0, .int ((s : Int) - 1)] = .ok (.pu (.bool true)) := is_in_int _ _ _ (by omega) (by omega)
    have h4 : ev g_f_after_moves (.call 1 [(.var 3), (.cst (.int 0)), (.bin .sub (.sub (.var 0) (.cst (.int 1))) (.cst (.int 1)))]) [some (.pu (ydD c s)), a1, a2, some (.pu (.int k)), a4] = .ok (.pu (.bool true), [], [some (.pu (ydD c s)), a1, a2, some (.pu (.int k)), a4]) :=
      ev_call_ok (k := 1) rfl (evTs_pu (d := .int k) (ev_var_ok rfl) (evTs_pu (d := .int 0) ev_cst_ok (evTs_pu (ev_bin_ok (ev_sub_ok (m := .pu (.int s)) (ev_var_ok rfl) ev_cst_ok rfl rfl rfl) ev_cst_ok (bd_sub _ _)) evTs_nil))) h3
    exact ⟨[some (.pu (ydD c s)), a1, a2, some (.pu (.int k)), a4], lcB_nc rfl h4, _, rfl⟩) [some (.pu (ydD c s)), a1, a2, none, a4] ⟨_, rfl⟩
  refine ⟨a3, ?_⟩
  rw [filterMap_some] at h1
  exact h1
theorem after_moves_ok (c s : Nat) (st : List (List Nat)) (is : List Nat) (hy : GoodY c s) (h : Good c s st) (hi : ∀ k ∈ is, k < s) (hl : is.length ≤ 60) : d_f_after_moves [ydD c s, stD st, trD is] = .ok (.pu (stD (is.foldl mv st))) := by
  let E (d : D) (a : Option M) : TR.Env := [some (.pu (ydD c s)), some (.pu d), some (.pu (trD is)), none, a]
  have h1 : d_f_is_list [trD is, .int 0, .int 60] = .ok (.pu (.bool true)) := is_list_tup _ _ _ (by simp) (by simp; omega)
  obtain ⟨a3, h2⟩ := all_in_loop c s is hi (some (.pu (stD st))) (some (.pu (trD is))) none
  have h3 : ev g_f_after_moves (.lc false [3] (.call 1 [(.var 3), (.cst (.int 0)), (.bin .sub (.sub (.var 0) (.cst (.int 1))) (.cst (.int 1)))]) (.v 3) (.var 2) []) (E (stD st) none) = .ok (.li (is.map fun _ => .bool true), [], E (stD st) none) :=
    ev_lc_ok (m := .pu (trD is)) (rs := []) (e1 := E (stD st) none) (ev_var_ok rfl) rfl rfl rfl rfl h2 (by rw [List.length_map]; unfold big; omega)
  have h4 : bi1 .all (.li (is.map fun _ => .bool true)) = .ok (.pu (.bool true)) := by
    have h5 := boolsD_map (is.map fun _ => true)
    simp only [List.map_map, Function.comp_def] at h5
    simp only [bi1, quaM, M.lst, bind, R.bind]
    rw [h5]
    simp
  have s0 := exs_do (G := g_f_after_moves) (e := .call 0 [(.var 0), (.var 1)]) (r := b_f_after_moves.tail) (ev_call_ok (k := 0) rfl (vs2 (i := 0) (j := 1) (env := E (stD st) none) rfl rfl) (need_state_ok c s st hy h))
  have s1 : ex g_f_after_moves (b_f_after_moves.getD 1 .pass) (E (stD st) none) = .ok (.nx (E (stD st) none)) :=
    ex_if_ff (ev_or_ff (ev_not_ok (ev_call_ok (k := 2) rfl (evTs_pu (d := trD is) (ev_var_ok rfl) (evTs_pu (d := .int 0) ev_cst_ok (evTs_pu (d := .int 60) (by rw [ev]) evTs_nil))) h1)) (ev_not_ok (ev_bi1_ok (b := .all) h3 h4))) exs_nil
  obtain ⟨a', h6⟩ := mv_loop c s hy (forB g_f_after_moves (.v 4) [(.asg (.v 1) (.call 3 [(.var 1), (.var 4)]))]) E (by
    intro cur i a hg hi2
    have h7 : ex g_f_after_moves (.asg (.v 1) (.call 3 [(.var 1), (.var 4)])) (E (stD cur) (some (.pu (.int i)))) = .ok (.nx (E (stD (mv cur i)) (some (.pu (.int i))))) :=
      ex_asg_v (i := 1) (m := .pu (stD (mv cur i))) (e2 := E (stD cur) (some (.pu (.int i)))) (ev_call_ok (k := 3) rfl (vs2 (i := 1) (j := 4) rfl rfl) (move_in_ok c s i cur hy hg hi2)) rfl (by show 1 < 5; decide)
    exact (exs_nx h7).trans exs_nil) is st none h hi
  have s2 : ex g_f_after_moves (b_f_after_moves.getD 2 .pass) (E (stD st) none) = .ok (.nx (E (stD (is.foldl mv st)) a')) :=
    ex_for_ok (m := .pu (trD is)) (rs := []) (e1 := E (stD st) none) (ev_var_ok rfl) rfl rfl h6
  have s3 : exs g_f_after_moves (b_f_after_moves.drop 3) (E (stD (is.foldl mv st)) a') = .ok (.ret (.pu (stD (is.foldl mv st))) (E (stD (is.foldl mv st)) a')) := ex_ret_ok (ev_var_ok rfl) rfl
  exact runP_ret (s0.trans ((exs_nx s1).trans ((exs_nx s2).trans s3)))
end LB

set_option linter.all false
namespace LB
open PySem TR
theorem row_ok (ns : List Int) (hn : ns.length ≤ 63) (i : Nat) (sd rs : Int) (c s m : Nat) (hy : GoodY c s) (hm : m ≤ 60) :
    ∃ (ks : List Nat) (i' : Nat) (sd' rs' : Int), d_L_row (rowM ns i sd rs) [ydD c s, .int m] = .ok (.pu (trD ks), rowM ns i' sd' rs') ∧ (∀ k ∈ ks, k < c) ∧ ks.length ≤ m := by
  have h1c := hy.c1
  have h7 := hy.c7
  let E (i : Nat) (sd rs : Int) (a : Option M) : TR.Env := [some (rowM ns i sd rs), some (.pu (ydD c s)), some (.pu (.int m)), a]
  obtain ⟨u, i1, sd1, rs1, h1, hu⟩ := taken_ok ns hn i sd rs ((m : Int) + 1) (by omega) (by omega)
  have hr : ev g_L_row (.rng [(.callW 0 0 [(.bin .add (.var 2) (.cst (.int 1)))])]) (E i sd rs none) = .ok (.li (rngD 0 u), [], E i1 sd1 rs1 none) := by
    have h2 : ev g_L_row (.callW 0 0 [(.bin .add (.var 2) (.cst (.int 1)))]) (E i sd rs none) = .ok (.pu (.int u), [], E i1 sd1 rs1 none) :=
      ev_callW_ok (mx := rowM ns i sd rs) (m0 := rowM ns i sd rs) (e1 := E i sd rs none) (ds := [.int ((m : Int) + 1)]) rfl rfl (evTs_pu (ev_bin_ok (ev_var_ok rfl) ev_cst_ok (bd_add _ _)) evTs_nil) rfl rfl h1 rfl
    refine ev_rng_ok (ms := [.pu (.int u)]) (rs := []) (e1 := E i1 sd1 rs1 none) ?_ rfl (rgC_ok _ (by omega))
    rw [evs, h2]
    simp only [bind, R.bind]
    rw [evs]
    rfl
  obtain ⟨ys, e2, h3, h4, h5, i2, sd2, rs2, a2, rfl⟩ := lcLoop_ex (f := lcB g_L_row [3] (.callW 0 0 [(.sub (.var 1) (.cst (.int 0)))]) (.v 3) []) (fun y => ∃ k : Nat, k < c ∧ y = .int k) (fun en => ∃ (i' : Nat) (sd' rs' : Int) (a : Option M), en = E i' sd' rs' a) (rngD 0 u) (by
    intro x hx en hen
    obtain ⟨i', sd', rs', a, rfl⟩ := hen
    obtain ⟨v, i2, sd2, rs2, h6, hv⟩ := taken_ok ns hn i' sd' rs' (c : Int) (by omega) (by omega)
    have h7 : ev g_L_row (.callW 0 0 [(.sub (.var 1) (.cst (.int 0)))]) (E i' sd' rs' (some (.pu x))) = .ok (.pu (.int v), [], E i2 sd2 rs2 (some (.pu x))) :=
      ev_callW_ok (mx := rowM ns i' sd' rs') (m0 := rowM ns i' sd' rs') (e1 := E i' sd' rs' (some (.pu x))) (ds := [.int c]) rfl rfl (evTs_pu (ev_sub_ok (m := .pu (.int c)) (ev_var_ok rfl) ev_cst_ok rfl rfl rfl) evTs_nil) rfl rfl h6 rfl
    exact ⟨.int v, E i2 sd2 rs2 (some (.pu x)), lcB_nc rfl h7, ⟨v, by omega, rfl⟩, i2, sd2, rs2, _, rfl⟩) (E i1 sd1 rs1 none) ⟨_, _, _, _, rfl⟩
  have hlen : (rngD 0 (u : Int)).length = u := by simp [rngD]
  rw [hlen] at h4
  have h8 : ev g_L_row (.lc false [3] (.callW 0 0 [(.sub (.var 1) (.cst (.int 0)))]) (.v 3) (.rng [(.callW 0 0 [(.bin .add (.var 2) (.cst (.int 1)))])]) []) (E i sd rs none) = .ok (.li ys, [], E i2 sd2 rs2 none) :=
    ev_lc_ok (m := .li (rngD 0 u)) (rs := []) hr rfl rfl rfl rfl h3 (by unfold big; omega)
  obtain ⟨ks, rfl, h9⟩ := ints_of c ys h5
  refine ⟨ks, i2, sd2, rs2, ?_, h9, by simp [itD] at h4; omega⟩
  have s1 : exs g_L_row b_L_row (E i sd rs none) = .ok (.ret (.pu (trD ks)) (E i2 sd2 rs2 none)) := ex_ret_ok (ev_bi1_ok (b := .tuple) h8 rfl) rfl
  exact runW_ret s1 rfl
def takS (st : List (List Nat)) : List Nat := (List.range st.length).filter fun i => decide (st.getD i [] ≠ [])
theorem takS_len (st : List (List Nat)) : (takS st).length = (trsL st).length := by
  rw [trsL_range, takS]
  generalize List.range st.length = l
  induction l with
  | nil => rfl
  | cons a l ih =>
    by_cases h : st.getD a [] = []
    · simp [List.filter_cons, List.filterMap_cons, h, -List.getD_eq_getElem?_getD] at ih ⊢; exact ih
    · simp [List.filter_cons, List.filterMap_cons, h, -List.getD_eq_getElem?_getD] at ih ⊢; exact ih
theorem taken_stations_ok (st : List (List Nat)) (hb : st.length ≤ 1000) : d_L_taken_stations [stD st] = .ok (.li (itD (takS st))) := by
  let E (a : Option M) : TR.Env := [some (.pu (stD st)), a]
  have hlen : bi1 .len (.pu (stD st)) = .ok (.pu (.int st.length)) := by simp [stD]
  have hr : ev g_L_taken_stations (.rng [(.bi .len [(.var 0)])]) (E none) = .ok (.li (rngD 0 st.length), [], E none) := by
    refine ev_rng_ok (ms := [.pu (.int st.length)]) (rs := []) (e1 := E none) ?_ rfl (rgC_ok _ (by omega))
    have h2 : ev g_L_taken_stations (.bi .len [(.var 0)]) (E none) = .ok (.pu (.int st.length), [], E none) := ev_bi1_ok (b := .len) (ev_var_ok rfl) hlen
    rw [evs, h2]
    simp only [bind, R.bind]
    rw [evs]
    rfl
  rw [rngD_nat] at hr
  obtain ⟨e2, h1, a2, rfl⟩ := lcLoop_g (f := lcB g_L_taken_stations [1] (.var 1) (.v 1) [(.cmp .ne (.sub (.var 0) (.var 1)) (.tup []))]) (fun (i : Nat) => .int (i : Int)) (fun i => if decide (st.getD i [] ≠ []) = true then some (.int (i : Int)) else none) (fun en => ∃ a, en = E a) (List.range st.length) (by
    intro i hi en hen
    obtain ⟨a2, rfl⟩ := hen
    simp only [List.mem_range] at hi
    have h7 : okD (.tuple []) = true := okD_trD []
    have h5 : cmpD .ne (.pu (trD (st.getD i []))) (.pu (.tuple [])) = .ok (decide (st.getD i [] ≠ [])) := by
      simp [M.toD, okD_trD, h7, eqv_trD_nil, -List.getD_eq_getElem?_getD]
    have h6 : ev g_L_taken_stations (.cmp .ne (.sub (.var 0) (.var 1)) (.tup [])) (E (some (.pu (.int i)))) = .ok (.pu (.bool (decide (st.getD i [] ≠ []))), [], E (some (.pu (.int i)))) :=
      ev_cmp_ok (o := .ne) (ev_sub_ok (ev_var_ok rfl) (ev_var_ok rfl) rfl (sub_stD st i hi) rfl) (ev_tup_ok evTs_nil (Nat.zero_le _)) rfl h5
    refine ⟨E (some (.pu (.int i))), ?_, _, rfl⟩
    cases hd : decide (st.getD i [] ≠ [])
    · rw [hd] at h6; rw [if_neg (by decide)]; exact lcB_n rfl (evCs1 h6)
    · rw [hd] at h6; rw [if_pos rfl]; exact lcB_y rfl (evCs1 h6) (ev_var_ok rfl)) (E none) ⟨_, rfl⟩
  have h9 : ((List.range st.length).filterMap fun i => if decide (st.getD i [] ≠ []) = true then some (PyData.int (i : Int)) else none) = itD (takS st) := by
    rw [takS, itD]
    generalize List.range st.length = l
    induction l with
    | nil => rfl
    | cons a l ih =>
      cases h : decide (st.getD a [] ≠ [])
      · simp only [List.filterMap_cons, List.filter_cons, h]; exact ih
      · simp only [List.filterMap_cons, List.filter_cons, h]; exact congrArg (List.cons _) ih
  rw [h9] at h1
  have h10 : ev g_L_taken_stations (.lc false [1] (.var 1) (.v 1) (.rng [(.bi .len [(.var 0)])]) [(.cmp .ne (.sub (.var 0) (.var 1)) (.tup []))]) (E none) = .ok (.li (itD (takS st)), [], E none) :=
    ev_lc_ok hr rfl rfl rfl rfl h1 (by
      rw [itD, List.length_map, takS]
      refine Nat.le_trans (List.length_filter_le _ _) ?_
      rw [List.length_range]; unfold big; omega)
  exact runP_ret (ex_ret_ok h10 rfl)
end LB

set_option linter.all false
namespace LB
open PySem TR
theorem eqvAll_map {α : Type} [DecidableEq α] (f : α → D) (h : ∀ a b, PyData.eqv (f a) (f b) = decide (a = b)) (xs : List α) : ∀ ys : List α, PyData.eqvAll (xs.map f) (ys.map f) = decide (xs = ys) := by
  induction xs with
  | nil => intro ys; cases ys <;> simp [PyData.eqvAll]
  | cons x xs ih =>
    intro ys
    cases ys with
    | nil => simp [PyData.eqvAll]
    | cons y ys =>
      simp only [List.map_cons, PyData.eqvAll, h, ih]
      by_cases h1 : x = y <;> by_cases h2 : xs = ys <;> simp [h1, h2]
theorem eqv_nat (a b : Nat) : PyData.eqv (.int (a : Nat)) (.int (b : Nat)) = decide (a = b) := by
  rw [eqv_ii]
  by_cases h : a = b
  · simp [h]
  · rw [decide_eq_false h, decide_eq_false]
    exact fun e => h (Int.ofNat.inj e)
theorem eqv_trD (t u : List Nat) : PyData.eqv (trD t) (trD u) = decide (t = u) := by
  simp only [trD, PyData.eqv]
  exact eqvAll_map (fun c : Nat => .int (c : Nat)) eqv_nat t u
theorem eqv_stD (t u : List (List Nat)) : PyData.eqv (stD t) (stD u) = decide (t = u) := by
  simp only [stD, PyData.eqv]
  exact eqvAll_map trD eqv_trD t u
theorem cmp_eq_ok (a b : D) (h1 : okD a = true) (h2 : okD b = true) : cmpD .eq (.pu a) (.pu b) = .ok (PyData.eqv a b) := by
  simp [M.toD, h1, h2]
theorem cmp_ne_ok (a b : D) (h1 : okD a = true) (h2 : okD b = true) : cmpD .ne (.pu a) (.pu b) = .ok (!PyData.eqv a b) := by
  simp [M.toD, h1, h2]
theorem cmp_st (t u : List (List Nat)) : cmpD .eq (.pu (stD t)) (.pu (stD u)) = .ok (decide (t = u)) := by
  rw [cmp_eq_ok _ _ (okD_stD t) (okD_stD u), eqv_stD]
theorem cmp_st_ne (t u : List (List Nat)) : cmpD .ne (.pu (stD t)) (.pu (stD u)) = .ok (!decide (t = u)) := by
  rw [cmp_ne_ok _ _ (okD_stD t) (okD_stD u), eqv_stD]
theorem cmp_tr (t u : List Nat) : cmpD .eq (.pu (trD t)) (.pu (trD u)) = .ok (decide (t = u)) := by
  rw [cmp_eq_ok _ _ (okD_trD t) (okD_trD u), eqv_trD]
theorem cmp_tr_ne (t u : List Nat) : cmpD .ne (.pu (trD t)) (.pu (trD u)) = .ok (!decide (t = u)) := by
  rw [cmp_ne_ok _ _ (okD_trD t) (okD_trD u), eqv_trD]
theorem cmp_n (a b : Nat) : cmpD .eq (.pu (.int a)) (.pu (.int b)) = .ok (decide (a = b)) := by
  rw [cmp_eq_ok _ _ (okD_int _) (okD_int _), eqv_nat]
theorem cmp_n_ne (a b : Nat) : cmpD .ne (.pu (.int a)) (.pu (.int b)) = .ok (!decide (a = b)) := by
  rw [cmp_ne_ok _ _ (okD_int _) (okD_int _), eqv_nat]
theorem cmp_b (a b : Bool) : cmpD .eq (.pu (.bool a)) (.pu (.bool b)) = .ok (a == b) := by
  rw [cmp_eq_ok _ _ (okD_bool _) (okD_bool _), eqv_bool]
theorem cmp_b_ne (a b : Bool) : cmpD .ne (.pu (.bool a)) (.pu (.bool b)) = .ok (!(a == b)) := by
  rw [cmp_ne_ok _ _ (okD_bool _) (okD_bool _), eqv_bool]
theorem ev_or_t {G : List Fn} {a b : E} {ra : List Nat} {env e1 : TR.Env} (h : ev G a env = .ok (.pu (.bool true), ra, e1)) : ev G (.or a b) env = .ok (.pu (.bool true), [], e1) := by
  rw [ev, h]
  simp only [bind, R.bind, boolR]
  rw [if_pos trivial]
theorem ev_or_same {G : List Fn} {a b : E} {c d : Bool} {ra rb : List Nat} {env : TR.Env} (h : ev G a env = .ok (.pu (.bool c), ra, env)) (h2 : ev G b env = .ok (.pu (.bool d), rb, env)) : ev G (.or a b) env = .ok (.pu (.bool (c || d)), [], env) := by
  cases c
  · exact ev_or_ff h h2
  · exact ev_or_t h
/-! ### where the cars stand -/
def ps (st : List (List Nat)) (k : Nat) : Nat := st.findIdx (hasT k)
theorem cl_ps (st : List (List Nat)) (k : Nat) : cl st k = mv st (ps st k) := rfl
theorem in_ps (c s : Nat) (st : List (List Nat)) (h : Good c s st) (k : Nat) (hk : k < c) : k ∈ st.getD (ps st k) [] := by
  have h1 := findIdx_lt c s k st h hk
  have h2 := List.findIdx_getElem (xs := st) (p := hasT k) (w := h1)
  rw [List.getD_eq_getElem?_getD, ps, List.getElem?_eq_getElem h1]
  simpa [hasT] using h2
theorem ps_uniq (c s : Nat) (st : List (List Nat)) (h : Good c s st) (k j : Nat) (hk : k < c) (hj : k ∈ st.getD j []) : j = ps st k := by
  have hn : st.flatten.Nodup := h.hc.nodup_iff.2 List.nodup_range
  have h1 := in_ps c s st h k hk
  have hl := findIdx_lt c s k st h hk
  have hjl : j < st.length := by
    rcases Nat.lt_or_ge j st.length with h2 | h2
    · exact h2
    · rw [List.getD_eq_getElem?_getD, List.getElem?_eq_none h2] at hj; simp at hj
  have hp := (List.pairwise_flatten.1 hn).2
  rw [List.getD_eq_getElem?_getD, List.getElem?_eq_getElem hjl] at hj
  rw [List.getD_eq_getElem?_getD, ps, List.getElem?_eq_getElem hl] at h1
  simp only [Option.getD_some] at hj h1
  rw [List.pairwise_iff_getElem] at hp
  rcases Nat.lt_trichotomy j (ps st k) with h3 | h3 | h3
  · exact absurd rfl (hp j (ps st k) hjl hl h3 k hj k h1)
  · exact h3
  · exact absurd rfl (hp (ps st k) j hl hjl h3 k h1 k hj)
theorem nxt_ne (s i : Nat) (h2 : 2 ≤ s) (hi : i < s) : (i + 1) % s ≠ i := by
  rcases Nat.lt_or_ge (i + 1) s with h3 | h3
  · rw [Nat.mod_eq_of_lt h3]; omega
  · have : i + 1 = s := by omega
    rw [this, Nat.mod_self]; omega
theorem nxt_inj (s i j : Nat) (hi : i < s) (hj : j < s) (h : (i + 1) % s = (j + 1) % s) : i = j := by
  rcases Nat.lt_or_ge (i + 1) s with h3 | h3 <;> rcases Nat.lt_or_ge (j + 1) s with h4 | h4
  · rw [Nat.mod_eq_of_lt h3, Nat.mod_eq_of_lt h4] at h; omega
  · have : j + 1 = s := by omega
    rw [Nat.mod_eq_of_lt h3, this, Nat.mod_self] at h; omega
  · have : i + 1 = s := by omega
    rw [Nat.mod_eq_of_lt h4, this, Nat.mod_self] at h; omega
  · omega
theorem mv_at (st : List (List Nat)) (i j : Nat) (h2 : 2 ≤ st.length) (hi : i < st.length) (hj : j < st.length) :
    (mv st i).getD j [] = if j = i then [] else if j = (i + 1) % st.length then st.getD j [] ++ st.getD i [] else st.getD j [] := by
  have hn : (i + 1) % st.length < st.length := Nat.mod_lt _ (by omega)
  have hne := nxt_ne st.length i h2 hi
  simp only [mv, nxt, List.getD_eq_getElem?_getD, List.getElem?_set, List.length_set]
  by_cases h : j = i
  · subst h; simp [hj]
  · have h' : ¬ i = j := fun e => h e.symm
    rw [if_neg h', if_neg h]
    by_cases h3 : j = (i + 1) % st.length
    · rw [if_pos h3, if_pos h3.symm]; rw [← h3, if_pos hj]; rfl
    · have h3' : ¬ (i + 1) % st.length = j := fun e => h3 e.symm
      rw [if_neg h3, if_neg h3']
theorem mv_len (st : List (List Nat)) (i : Nat) : (mv st i).length = st.length := by simp [mv]
theorem ps_mv (c s : Nat) (st : List (List Nat)) (hy : GoodY c s) (h : Good c s st) (i k : Nat) (hi : i < s) (hk : k < c) : ps (mv st i) k = if ps st k = i then (i + 1) % s else ps st k := by
  have hg := mv_good c s st hy h i hi
  have hs := h.hs
  have h2 := hy.s2
  have hp := fi_lt c s k st h hk
  have hin := in_ps c s st h k hk
  have hn : (i + 1) % s < s := Nat.mod_lt _ (by omega)
  have hne := nxt_ne s i h2 hi
  symm
  apply ps_uniq c s (mv st i) hg k _ hk
  by_cases h3 : ps st k = i
  · rw [if_pos h3, mv_at st i _ (by omega) (by omega) (by omega), hs, if_neg hne, if_pos rfl]
    rw [h3] at hin
    exact List.mem_append.2 (.inr hin)
  · rw [if_neg h3, mv_at st i _ (by omega) (by omega) (by unfold ps; omega), if_neg h3]
    split
    · exact List.mem_append.2 (.inl hin)
    · exact hin
theorem st_ext (x y : List (List Nat)) (hl : x.length = y.length) (h : ∀ j < x.length, x.getD j [] = y.getD j []) : x = y := by
  apply List.ext_getElem hl
  intro j h1 h2
  have := h j h1
  simpa [List.getD_eq_getElem?_getD, h1, h2] using this
theorem comm_far (s : Nat) (st : List (List Nat)) (hs : st.length = s) (h2 : 2 ≤ s) (a b : Nat) (ha : a < s) (hb : b < s) (hab : a ≠ b) (h3 : (a + 1) % s ≠ b) (h4 : (b + 1) % s ≠ a) : mv (mv st a) b = mv (mv st b) a := by
  have hn := fun e => hab (nxt_inj s a b ha hb e)
  apply st_ext
  · simp [mv_len]
  · intro j hj
    simp only [mv_len] at hj
    rw [mv_at (mv st a) b j (by rw [mv_len]; omega) (by rw [mv_len]; omega) (by rw [mv_len]; omega), mv_at (mv st b) a j (by rw [mv_len]; omega) (by rw [mv_len]; omega) (by rw [mv_len]; omega),
      mv_at st a j (by omega) (by omega) (by omega), mv_at st b j (by omega) (by omega) (by omega), mv_at st a b (by omega) (by omega) (by omega), mv_at st b a (by omega) (by omega) (by omega), mv_len, mv_len, hs]
    have h3' : ¬ b = (a + 1) % s := fun e => h3 e.symm
    have h4' : ¬ a = (b + 1) % s := fun e => h4 e.symm
    have hba : ¬ b = a := fun e => hab e.symm
    rw [if_neg hba, if_neg h3', if_neg hab, if_neg h4']
    by_cases j1 : j = a
    · subst j1; simp [hab, h4']
    · by_cases j2 : j = b
      · subst j2; simp [h3', j1]
      · by_cases j3 : j = (a + 1) % s
        · have : ¬ j = (b + 1) % s := fun e => hn (j3.symm.trans e)
          simp [j1, j2, ← j3, this]
        · simp [j1, j2, j3]
end LB

set_option linter.all false
namespace LB
open PySem TR
theorem ev_slc_hi {G : List Fn} {a b : E} {xs : List D} {i : Int} {rb : List Nat} {env : TR.Env} (h : ev G a env = .ok (.pu (.tuple xs), [], env)) (h2 : ev G b env = .ok (.pu (.int i), rb, env)) : ev G (.slc a none (some b)) env = .ok (.pu (.tuple (cutD xs none (some i))), [], env) := by
  rw [ev, h]
  simp only [bind, R.bind]
  rw [evO]
  simp only []
  rw [evO, h2]
  rfl
theorem ev_slc_lo {G : List Fn} {a b : E} {xs : List D} {i : Int} {rb : List Nat} {env : TR.Env} (h : ev G a env = .ok (.pu (.tuple xs), [], env)) (h2 : ev G b env = .ok (.pu (.int i), rb, env)) : ev G (.slc a (some b) none) env = .ok (.pu (.tuple (cutD xs (some i) none)), [], env) := by
  rw [ev, h]
  simp only [bind, R.bind]
  rw [evO, h2]
  rfl
theorem cut_take (xs : List D) (i : Nat) (h : i ≤ xs.length) : cutD xs none (some (i : Int)) = xs.take i := by
  simp [cutD, slIx, Nat.min_eq_left h]
theorem cut_drop (xs : List D) (i : Nat) (h : i ≤ xs.length) : cutD xs (some (i : Int)) none = xs.drop i := by
  simp only [cutD, slIx]
  rw [if_pos (by omega), Int.toNat_natCast, Nat.min_eq_left h]
  exact List.take_of_length_le (by rw [List.length_drop]; exact Nat.le_refl _)
theorem bd_tup (xs ys : List D) (h : xs.length + ys.length ≤ 1000) : binD .add (.pu (.tuple xs)) (.pu (.tuple ys)) = .ok (.pu (.tuple (xs ++ ys))) := by
  simp only [binD]
  rw [if_pos (by unfold big; omega)]
theorem without_ok (ks : List Nat) (i : Nat) (h : i < ks.length) (hl : ks.length ≤ 100) : d_f_without [trD ks, .int i] = .ok (.pu (trD (ks.eraseIdx i))) := by
  have hl2 : (itD ks).length = ks.length := by simp [itD]
  have h1 : cutD (itD ks) none (some (i : Int)) = itD (ks.take i) := by rw [cut_take _ _ (by omega)]; simp [itD]
  have h2 : cutD (itD ks) (some ((i : Int) + 1)) none = itD (ks.drop (i + 1)) := by
    have := cut_drop (itD ks) (i + 1) (by omega)
    rw [show ((i : Int) + 1) = ((i + 1 : Nat) : Int) from rfl, this]; simp [itD]
  have h3 : binD .add (.pu (.tuple (itD (ks.take i)))) (.pu (.tuple (itD (ks.drop (i + 1))))) = .ok (.pu (trD (ks.eraseIdx i))) := by
    rw [bd_tup _ _ (by simp [itD]; omega), List.eraseIdx_eq_take_drop_succ]
    simp [itD, trD]
  refine runP_ret (ex_ret_ok (ev_bin_ok (ev_slc_hi (xs := itD ks) (ev_var_ok rfl) (ev_var_ok rfl)) (ev_slc_lo (xs := itD ks) (ev_var_ok rfl) (ev_bin_ok (ev_var_ok rfl) ev_cst_ok (bd_add _ _))) ?_) rfl)
  rw [h1, h2]
  exact h3
def endOf (st : List (List Nat)) (ks : List Nat) : List (List Nat) := fin st ks
theorem last_ok (st : List (List Nat)) (ks : List Nat) : subD (.li ((stry st ks).map stD)) (.pu (.int (-1))) = .ok (.pu (stD (fin st ks))) := by
  obtain ⟨pre, hp⟩ := stry_last ks st
  rw [hp, List.map_append]; exact sub_last _ _
def needL (st : List (List Nat)) (ks : List Nat) : List Nat := (List.range ks.length).filter fun i => decide (fin st (ks.eraseIdx i) = fin st ks)
theorem filterMap_filter {α : Type} (f : α → D) (p : α → Bool) (l : List α) : (l.filterMap fun a => if p a = true then some (f a) else none) = (l.filter p).map f := by
  induction l with
  | nil => rfl
  | cons a l ih => cases h : p a <;> simp [h, ih]
theorem needless_ok (c s : Nat) (st : List (List Nat)) (ks : List Nat) (hy : GoodY c s) (h : Good c s st) (hk : ∀ k ∈ ks, k < c) (hl : ks.length ≤ 60) : d_f_needless [ydD c s, stD st, trD ks] = .ok (.pu (trD (needL st ks))) := by
  let E (a : Option M) : TR.Env := [some (.pu (ydD c s)), some (.pu (stD st)), some (.pu (trD ks)), some (.pu (stD (fin st ks))), a]
  let e0 : TR.Env := [some (.pu (ydD c s)), some (.pu (stD st)), some (.pu (trD ks)), none, none]
  have s0 := exs_do (G := g_f_needless) (e := .call 0 [(.var 0), (.var 1)]) (r := b_f_needless.tail) (ev_call_ok (k := 0) rfl (vs2 (i := 0) (j := 1) (env := e0) rfl rfl) (need_state_ok c s st hy h))
  have s1 := exs_do (G := g_f_needless) (e := .call 1 [(.var 0), (.var 2)]) (r := b_f_needless.drop 2) (ev_call_ok (k := 1) rfl (vs2 (i := 0) (j := 2) (env := e0) rfl rfl) (need_calls_ok c s ks hk hl))
  have s2 : ex g_f_needless (b_f_needless.getD 2 .pass) e0 = .ok (.nx (E none)) :=
    ex_asg_v (i := 3) (e2 := e0) (m := .pu (stD (fin st ks))) (ev_sub_ok (ev_call_ok (k := 2) rfl (vs2 (i := 1) (j := 2) (env := e0) rfl rfl) (story_in_ok c s st ks hy h hk hl)) (ev_neg_ok ev_cst_ok) rfl (last_ok st ks) rfl) rfl (by show 3 < 5; decide)
  have hr : ev g_f_needless (.rng [(.bi .len [(.var 2)])]) (E none) = .ok (.li (rngD 0 ks.length), [], E none) := by
    refine ev_rng_ok (ms := [.pu (.int ks.length)]) (rs := []) (e1 := E none) ?_ rfl (rgC_ok _ (by omega))
    have h2 : ev g_f_needless (.bi .len [(.var 2)]) (E none) = .ok (.pu (.int ks.length), [], E none) := ev_bi1_ok (b := .len) (ev_var_ok rfl) (by simp [trD])
    rw [evs, h2]
    simp only [bind, R.bind]
    rw [evs]
    rfl
  rw [rngD_nat] at hr
  obtain ⟨e2, h1, a2, rfl⟩ := lcLoop_g (f := lcB g_f_needless [4] (.var 4) (.v 4) [(.cmp .eq (.sub (.call 2 [(.var 1), (.call 3 [(.var 2), (.var 4)])]) (.neg (.cst (.int 1)))) (.var 3))]) (fun (i : Nat) => .int (i : Int)) (fun i => if decide (fin st (ks.eraseIdx i) = fin st ks) = true then some (.int (i : Int)) else none) (fun en => ∃ a, en = E a) (List.range ks.length) (by
    intro i hi en hen
    obtain ⟨a2, rfl⟩ := hen
    simp only [List.mem_range] at hi
    have h5 := without_ok ks i hi (by omega)
    have hk2 : ∀ k ∈ ks.eraseIdx i, k < c := fun k hk3 => hk k (List.mem_of_mem_eraseIdx hk3)
    have h6 := story_in_ok c s st (ks.eraseIdx i) hy h hk2 (by rw [List.length_eraseIdx]; split <;> omega)
    have h7 : ev g_f_needless (.cmp .eq (.sub (.call 2 [(.var 1), (.call 3 [(.var 2), (.var 4)])]) (.neg (.cst (.int 1)))) (.var 3)) (E (some (.pu (.int i)))) = .ok (.pu (.bool (decide (fin st (ks.eraseIdx i) = fin st ks))), [], E (some (.pu (.int i)))) :=
      ev_cmp_ok (o := .eq) (ev_sub_ok (ev_call_ok (k := 2) rfl (ev2 (ev_var_ok rfl) (ev_call_ok (k := 3) rfl (vs2 (i := 2) (j := 4) rfl rfl) h5)) h6) (ev_neg_ok ev_cst_ok) rfl (last_ok _ _) rfl) (ev_var_ok rfl) rfl (cmp_st _ _)
    refine ⟨E (some (.pu (.int i))), ?_, _, rfl⟩
    cases hd : decide (fin st (ks.eraseIdx i) = fin st ks)
    · rw [hd] at h7; rw [if_neg (by decide)]; exact lcB_n rfl (evCs1 h7)
    · rw [hd] at h7; rw [if_pos rfl]; exact lcB_y rfl (evCs1 h7) (ev_var_ok rfl)) (E none) ⟨_, rfl⟩
  rw [filterMap_filter (fun (i : Nat) => PyData.int (i : Int))] at h1
  have h10 : ev g_f_needless (.lc false [4] (.var 4) (.v 4) (.rng [(.bi .len [(.var 2)])]) [(.cmp .eq (.sub (.call 2 [(.var 1), (.call 3 [(.var 2), (.var 4)])]) (.neg (.cst (.int 1)))) (.var 3))]) (E none) = .ok (.li (itD (needL st ks)), [], E none) :=
    ev_lc_ok hr rfl rfl rfl rfl h1 (by
      rw [List.length_map]
      refine Nat.le_trans (List.length_filter_le _ _) ?_
      rw [List.length_range]; unfold big; omega)
  exact runP_ret (s0.trans (s1.trans ((exs_nx s2).trans (ex_ret_ok (ev_bi1_ok (b := .tuple) h10 rfl) rfl))))
end LB

set_option linter.all false
namespace LB
open PySem TR
def swp (ks : List Nat) (i : Nat) : List Nat := ks.take i ++ [ks.getD (i + 1) 0, ks.getD i 0] ++ ks.drop (i + 2)
def exchL (st : List (List Nat)) (ks : List Nat) : List Nat := (List.range (ks.length - 1)).filter fun i => decide (fin st (swp ks i) = fin st ks)
theorem sub_trD (ks : List Nat) (i : Nat) (h : i < ks.length) : subD (.pu (trD ks)) (.pu (.int (i : Nat))) = .ok (.pu (.int (ks.getD i 0 : Nat))) := by
  simp [trD, h, List.getD]
theorem swp_mem (ks : List Nat) (i c : Nat) (hi : i + 1 < ks.length) (hk : ∀ k ∈ ks, k < c) : ∀ k ∈ swp ks i, k < c := by
  intro k h
  simp only [swp, List.mem_append, List.mem_cons, List.not_mem_nil, or_false] at h
  rcases h with (h | h | h) | h
  · exact hk k (List.mem_of_mem_take h)
  · rw [h, List.getD_eq_getElem?_getD, List.getElem?_eq_getElem hi]; exact hk _ (List.getElem_mem hi)
  · rw [h, List.getD_eq_getElem?_getD, List.getElem?_eq_getElem (by omega : i < ks.length)]; exact hk _ (List.getElem_mem _)
  · exact hk k (List.mem_of_mem_drop h)
theorem swp_len (ks : List Nat) (i : Nat) (hi : i + 1 < ks.length) : (swp ks i).length = ks.length := by
  simp [swp]; omega
def bEx : List S := [(.asg (.v 6) (.bin .add (.bin .add (.slc (.var 2) none (some (.var 5))) (.tup [(.sub (.var 2) (.bin .add (.var 5) (.cst (.int 1)))), (.sub (.var 2) (.var 5))])) (.slc (.var 2) (some (.bin .add (.var 5) (.cst (.int 2)))) none))), (.ifs (.cmp .eq (.sub (.call 2 [(.var 1), (.var 6)]) (.neg (.cst (.int 1)))) (.var 3)) [(.app 4 (.var 5))] [])]
theorem exchanges_ok (c s : Nat) (st : List (List Nat)) (ks : List Nat) (hy : GoodY c s) (h : Good c s st) (hk : ∀ k ∈ ks, k < c) (hl : ks.length ≤ 60) (hl1 : 1 ≤ ks.length) : d_f_exchanges [ydD c s, stD st, trD ks] = .ok (.pu (trD (exchL st ks))) := by
  let E (fo : List D) (a b : Option M) : TR.Env := [some (.pu (ydD c s)), some (.pu (stD st)), some (.pu (trD ks)), some (.pu (stD (fin st ks))), some (.li fo), a, b]
  let e0 : TR.Env := [some (.pu (ydD c s)), some (.pu (stD st)), some (.pu (trD ks)), none, none, none, none]
  have s0 := exs_do (G := g_f_exchanges) (e := .call 0 [(.var 0), (.var 1)]) (r := b_f_exchanges.tail) (ev_call_ok (k := 0) rfl (vs2 (i := 0) (j := 1) (env := e0) rfl rfl) (need_state_ok c s st hy h))
  have s1 := exs_do (G := g_f_exchanges) (e := .call 1 [(.var 0), (.var 2)]) (r := b_f_exchanges.drop 2) (ev_call_ok (k := 1) rfl (vs2 (i := 0) (j := 2) (env := e0) rfl rfl) (need_calls_ok c s ks hk hl))
  have s2 : ex g_f_exchanges (b_f_exchanges.getD 2 .pass) e0 = .ok (.nx (E [] none none)) :=
    ex_par2 (ev_sub_ok (ev_call_ok (k := 2) rfl (vs2 (i := 1) (j := 2) (env := e0) rfl rfl) (story_in_ok c s st ks hy h hk hl)) (ev_neg_ok ev_cst_ok) rfl (last_ok st ks) rfl) rfl (ev_lst_ok evTs_nil (Nat.zero_le _)) rfl (by show 3 < 7; decide) (by show 4 < 7; decide)
  have hlen : ((ks.length : Int) - 1) = ((ks.length - 1 : Nat) : Int) := by omega
  have hr : ev g_f_exchanges (.rng [(.bin .sub (.bi .len [(.var 2)]) (.cst (.int 1)))]) (E [] none none) = .ok (.li (rngD 0 ((ks.length - 1 : Nat) : Int)), [], E [] none none) := by
    refine ev_rng_ok (ms := [.pu (.int ((ks.length - 1 : Nat) : Int))]) (rs := []) (e1 := E [] none none) ?_ rfl (rgC_ok _ (by omega))
    have h1 : ev g_f_exchanges (.bi .len [(.var 2)]) (E [] none none) = .ok (.pu (.int ks.length), [], E [] none none) := ev_bi1_ok (b := .len) (ev_var_ok rfl) (by simp [trD])
    have h2 : ev g_f_exchanges (.bin .sub (.bi .len [(.var 2)]) (.cst (.int 1))) (E [] none none) = .ok (.pu (.int ((ks.length - 1 : Nat) : Int)), [], E [] none none) := by
      rw [← hlen]; exact ev_bin_ok h1 ev_cst_ok (bd_sub _ _)
    rw [evs, h2]
    simp only [bind, R.bind]
    rw [evs]
    rfl
  obtain ⟨e2, h1, a5, a6, rfl⟩ := foLoop_g (f := forB g_f_exchanges (.v 5) bEx) (fun (i : Nat) => .int (i : Int)) (fun l1 en => ∃ a5 a6, en = E (itD (l1.filter fun i => decide (fin st (swp ks i) = fin st ks))) a5 a6) (List.range (ks.length - 1)) (by
    intro l1 i l2 he en hen
    obtain ⟨a5, a6, rfl⟩ := hen
    have hi : i < ks.length - 1 := by
      have : i ∈ List.range (ks.length - 1) := by rw [he]; simp
      simpa using this
    have hl1l : l1.length ≤ 100 := by
      have := congrArg List.length he
      simp at this; omega
    have hl2 : (itD ks).length = ks.length := by simp [itD]
    have c1 : cutD (itD ks) none (some (i : Int)) = itD (ks.take i) := by rw [cut_take _ _ (by omega)]; simp [itD]
    have c2 : cutD (itD ks) (some ((i : Int) + 2)) none = itD (ks.drop (i + 2)) := by
      have := cut_drop (itD ks) (i + 2) (by omega)
      rw [show ((i : Int) + 2) = ((i + 2 : Nat) : Int) from rfl, this]; simp [itD]
    have c3 : binD .add (.pu (.tuple (itD (ks.take i)))) (.pu (.tuple [.int (ks.getD (i + 1) 0 : Nat), .int (ks.getD i 0 : Nat)])) = .ok (.pu (.tuple (itD (ks.take i ++ [ks.getD (i + 1) 0, ks.getD i 0])))) := by
      rw [bd_tup _ _ (by simp [itD]; omega)]; simp [itD]
    have c4 : binD .add (.pu (.tuple (itD (ks.take i ++ [ks.getD (i + 1) 0, ks.getD i 0])))) (.pu (.tuple (itD (ks.drop (i + 2))))) = .ok (.pu (trD (swp ks i))) := by
      rw [bd_tup _ _ (by simp [itD]; omega)]; simp [itD, trD, swp]
    have m1 : subD (.pu (trD ks)) (.pu (.int ((i : Int) + 1))) = .ok (.pu (.int (ks.getD (i + 1) 0 : Nat))) := sub_trD ks (i + 1) (by omega)
    have m2 := sub_trD ks i (by omega)
    let fo := itD (l1.filter fun i => decide (fin st (swp ks i) = fin st ks))
    have t1 : ex g_f_exchanges (bEx.getD 0 .pass) (E fo (some (.pu (.int i))) a6) = .ok (.nx (E fo (some (.pu (.int i))) (some (.pu (trD (swp ks i)))))) := by
      refine ex_asg_v (i := 6) (e2 := E fo (some (.pu (.int i))) a6) (m := .pu (trD (swp ks i))) (ev_bin_ok (ev_bin_ok (ev_slc_hi (xs := itD ks) (i := i) (ev_var_ok rfl) (ev_var_ok rfl)) (ev_tup_ok (ev2 (ev_sub_ok (ev_var_ok rfl) (ev_bin_ok (ev_var_ok rfl) ev_cst_ok (bd_add _ _)) rfl m1 rfl) (ev_sub_ok (ev_var_ok rfl) (ev_var_ok rfl) rfl m2 rfl)) two_big) (by rw [c1]; exact c3)) (ev_slc_lo (xs := itD ks) (ev_var_ok rfl) (ev_bin_ok (ev_var_ok rfl) ev_cst_ok (bd_add _ _))) (by rw [c2]; exact c4)) rfl (by show 6 < 7; decide)
    have h6 := story_in_ok c s st (swp ks i) hy h (swp_mem ks i c (by omega) hk) (by rw [swp_len _ _ (by omega)]; exact hl)
    have h7 : ev g_f_exchanges (.cmp .eq (.sub (.call 2 [(.var 1), (.var 6)]) (.neg (.cst (.int 1)))) (.var 3)) (E fo (some (.pu (.int i))) (some (.pu (trD (swp ks i))))) = .ok (.pu (.bool (decide (fin st (swp ks i) = fin st ks))), [], E fo (some (.pu (.int i))) (some (.pu (trD (swp ks i))))) :=
      ev_cmp_ok (o := .eq) (ev_sub_ok (ev_call_ok (k := 2) rfl (vs2 (i := 1) (j := 6) rfl rfl) h6) (ev_neg_ok ev_cst_ok) rfl (last_ok _ _) rfl) (ev_var_ok rfl) rfl (cmp_st _ _)
    refine ⟨E (itD ((l1 ++ [i]).filter fun i => decide (fin st (swp ks i) = fin st ks))) (some (.pu (.int i))) (some (.pu (trD (swp ks i)))), ?_, _, _, rfl⟩
    have hfl : fo.length < big := by
      have := List.length_filter_le (fun i => decide (fin st (swp ks i) = fin st ks)) l1
      simp only [fo, itD, List.length_map]; unfold big; omega
    have t2 : ex g_f_exchanges (bEx.getD 1 .pass) (E fo (some (.pu (.int i))) (some (.pu (trD (swp ks i))))) = .ok (.nx (E (itD ((l1 ++ [i]).filter fun i => decide (fin st (swp ks i) = fin st ks))) (some (.pu (.int i))) (some (.pu (trD (swp ks i)))))) := by
      cases hd : decide (fin st (swp ks i) = fin st ks)
      · rw [hd] at h7
        have : ((l1 ++ [i]).filter fun i => decide (fin st (swp ks i) = fin st ks)) = (l1.filter fun i => decide (fin st (swp ks i) = fin st ks)) := by
          rw [List.filter_append]; simp only [List.filter_cons, List.filter_nil, hd]; simp
        rw [this]
        exact ex_if_ff h7 exs_nil
      · rw [hd] at h7
        have : ((l1 ++ [i]).filter fun i => decide (fin st (swp ks i) = fin st ks)) = (l1.filter fun i => decide (fin st (swp ks i) = fin st ks)) ++ [i] := by
          rw [List.filter_append]; simp only [List.filter_cons, List.filter_nil, hd]; simp
        rw [this]
        have h8 : itD ((l1.filter fun i => decide (fin st (swp ks i) = fin st ks)) ++ [i]) = fo ++ [.int (i : Nat)] := by simp [itD, fo]
        rw [h8]
        exact ex_if_tt h7 ((exs_nx (ex_app_ok (xs := fo) rfl (ev_var_ok rfl) rfl hfl)).trans exs_nil)
    have t3 : exs g_f_exchanges bEx (E fo (some (.pu (.int i))) a6) = _ := (exs_nx t1).trans ((exs_nx t2).trans exs_nil)
    exact t3) (E [] none none) ⟨_, _, rfl⟩
  rw [← rngD_nat] at h1
  have s3 : ex g_f_exchanges (b_f_exchanges.getD 3 .pass) (E [] none none) = .ok (.nx (E (itD (exchL st ks)) a5 a6)) :=
    ex_for_ok hr rfl rfl h1
  have s4 : exs g_f_exchanges (b_f_exchanges.drop 4) (E (itD (exchL st ks)) a5 a6) = .ok (.ret (.pu (trD (exchL st ks))) (E (itD (exchL st ks)) a5 a6)) :=
    ex_ret_ok (ev_bi1_ok (b := .tuple) (ev_ownvar rfl) rfl) rfl
  exact runP_ret (s0.trans (s1.trans ((exs_nx s2).trans ((exs_nx s3).trans s4))))
end LB

set_option linter.all false
namespace LB
open PySem TR
/-! a story by its steps -/
def cu (st : List (List Nat)) (ks : List Nat) (j : Nat) : List (List Nat) := fin st (ks.take j)
def kk (ks : List Nat) (j : Nat) : Nat := ks.getD j 0
def pp (st : List (List Nat)) (ks : List Nat) (j : Nat) : Nat := ps (cu st ks j) (kk ks j)
def ah (st : List (List Nat)) (ks : List Nat) (j : Nat) : List Nat := (cu st ks j).getD ((pp st ks j + 1) % st.length) []
def tr (st : List (List Nat)) (ks : List Nat) (j : Nat) : List Nat := (cu st ks j).getD (pp st ks j) []
theorem cu_zero (st : List (List Nat)) (ks : List Nat) : cu st ks 0 = st := by simp [cu, fin]
theorem cu_succ (st : List (List Nat)) (ks : List Nat) (j : Nat) (h : j < ks.length) : cu st ks (j + 1) = mv (cu st ks j) (pp st ks j) := by
  have e : ks.take (j + 1) = ks.take j ++ [ks[j]] := by rw [List.take_add_one, List.getElem?_eq_getElem h]; rfl
  have e2 : kk ks j = ks[j] := by rw [kk, List.getD_eq_getElem?_getD, List.getElem?_eq_getElem h]; rfl
  rw [cu, fin, e, List.foldl_append, pp, e2]
  rfl
theorem cu_full (st : List (List Nat)) (ks : List Nat) : cu st ks ks.length = fin st ks := by simp [cu]
theorem cu_good (c s : Nat) (hy : GoodY c s) (st : List (List Nat)) (h : Good c s st) (ks : List Nat) (hk : ∀ k ∈ ks, k < c) (j : Nat) : Good c s (cu st ks j) :=
  fin_good c s hy _ (fun k h2 => hk k (List.mem_of_mem_take h2)) st h
theorem kk_lt (c : Nat) (ks : List Nat) (hk : ∀ k ∈ ks, k < c) (j : Nat) (h : j < ks.length) : kk ks j < c := by
  rw [kk, List.getD_eq_getElem?_getD, List.getElem?_eq_getElem h]; exact hk _ (List.getElem_mem h)
theorem pp_lt (c s : Nat) (hy : GoodY c s) (st : List (List Nat)) (h : Good c s st) (ks : List Nat) (hk : ∀ k ∈ ks, k < c) (j : Nat) (hj : j < ks.length) : pp st ks j < s :=
  fi_lt c s _ _ (cu_good c s hy st h ks hk j) (kk_lt c ks hk j hj)
theorem tr_in (c s : Nat) (hy : GoodY c s) (st : List (List Nat)) (h : Good c s st) (ks : List Nat) (hk : ∀ k ∈ ks, k < c) (j : Nat) (hj : j < ks.length) : kk ks j ∈ tr st ks j :=
  in_ps c s _ (cu_good c s hy st h ks hk j) _ (kk_lt c ks hk j hj)
theorem stry_get (ks : List Nat) : ∀ (st : List (List Nat)) (j : Nat), j ≤ ks.length → (stry st ks)[j]? = some (cu st ks j) := by
  induction ks with
  | nil => intro st j h; have : j = 0 := by simpa using h
           subst this; simp [stry, cu, fin]
  | cons k ks ih =>
    intro st j h
    cases j with
    | zero => simp [stry, cu, fin]
    | succ j =>
      have := ih (cl st k) j (by simpa using h)
      simp only [stry, List.getElem?_cons_succ, this]
      simp [cu, fin]
theorem stry_eq (st : List (List Nat)) (ks : List Nat) : stry st ks = (List.range (ks.length + 1)).map (cu st ks) := by
  apply List.ext_getElem?
  intro j
  rcases Nat.lt_or_ge j (ks.length + 1) with h | h
  · rw [stry_get ks st j (by omega)]; simp [h]
  · rw [List.getElem?_eq_none (by rw [stry_len]; exact h), List.getElem?_eq_none (by simp; exact h)]
/-- how often each car goes on -/
def bump (acc : List Nat) (t : List Nat) : List Nat := t.foldl (fun a c => a.set c (a.getD c 0 + 1)) acc
def stp (st : List (List Nat)) (ks : List Nat) (c j : Nat) : List Nat := (List.range j).foldl (fun a i => bump a (tr st ks i)) (List.replicate c 0)
theorem stp_succ (st : List (List Nat)) (ks : List Nat) (c j : Nat) : stp st ks c (j + 1) = bump (stp st ks c j) (tr st ks j) := by
  simp [stp, List.range_succ]
theorem bump_len (t : List Nat) : ∀ acc, (bump acc t).length = acc.length := by
  induction t with
  | nil => intro acc; rfl
  | cons a t ih => intro acc; simp [bump] at ih ⊢; rw [ih]; simp
theorem stp_len (st : List (List Nat)) (ks : List Nat) (c j : Nat) : (stp st ks c j).length = c := by
  induction j with
  | zero => simp [stp]
  | succ j ih => rw [stp_succ, bump_len, ih]
theorem bump_get (t : List Nat) (x : Nat) : ∀ acc : List Nat, x < acc.length → (bump acc t).getD x 0 = acc.getD x 0 + t.count x := by
  induction t with
  | nil => intro acc h; simp [bump]
  | cons a t ih =>
    intro acc h
    have := ih (acc.set a (acc.getD a 0 + 1)) (by simpa using h)
    have h2 : bump acc (a :: t) = bump (acc.set a (acc.getD a 0 + 1)) t := rfl
    rw [h2, this, List.count_cons]
    by_cases e : a = x
    · subst e; simp [h]; omega
    · have e2 : ¬ (a == x) = true := by simpa using e
      rw [if_neg e2]
      simp [List.getD_eq_getElem?_getD, List.getElem?_set, e]
theorem tr_mem (c s : Nat) (hy : GoodY c s) (st : List (List Nat)) (h : Good c s st) (ks : List Nat) (hk : ∀ k ∈ ks, k < c) (j x : Nat) (hj : j < ks.length) (hx : x < c) : x ∈ tr st ks j ↔ ps (cu st ks j) x = pp st ks j := by
  have hg := cu_good c s hy st h ks hk j
  constructor
  · intro h1; exact (ps_uniq c s _ hg x _ hx h1).symm
  · intro h1; have := in_ps c s _ hg x hx; rw [h1] at this; exact this
theorem tr_nodup (c s : Nat) (hy : GoodY c s) (st : List (List Nat)) (h : Good c s st) (ks : List Nat) (hk : ∀ k ∈ ks, k < c) (j : Nat) : (tr st ks j).Nodup := by
  have hg := cu_good c s hy st h ks hk j
  have hn : (cu st ks j).flatten.Nodup := hg.hc.nodup_iff.2 List.nodup_range
  rcases Nat.lt_or_ge (pp st ks j) (cu st ks j).length with h2 | h2
  · rw [tr, List.getD_eq_getElem?_getD, List.getElem?_eq_getElem h2]
    exact hn.sublist (List.sublist_flatten_of_mem (List.getElem_mem h2))
  · rw [tr, List.getD_eq_getElem?_getD, List.getElem?_eq_none h2]; exact List.nodup_nil
theorem where_at (c s : Nat) (hy : GoodY c s) (st : List (List Nat)) (h : Good c s st) (ks : List Nat) (hk : ∀ k ∈ ks, k < c) (x : Nat) (hx : x < c) : ∀ j, j ≤ ks.length → (ps st x + (stp st ks c j).getD x 0) % s = ps (cu st ks j) x := by
  intro j
  have hs2 := hy.s2
  induction j with
  | zero =>
    intro _
    have h1 := fi_lt c s x st h hx
    change ps st x < s at h1
    rw [cu_zero]
    have : (stp st ks c 0).getD x 0 = 0 := by simp [stp, hx]
    rw [this, Nat.add_zero, Nat.mod_eq_of_lt h1]
  | succ j ih =>
    intro hj
    have ih := ih (by omega)
    have hg := cu_good c s hy st h ks hk j
    have hp := pp_lt c s hy st h ks hk j (by omega)
    rw [cu_succ st ks j (by omega), ps_mv c s _ hy hg _ x hp hx, stp_succ, bump_get _ _ _ (by rw [stp_len]; exact hx)]
    have hm := tr_mem c s hy st h ks hk j x (by omega) hx
    by_cases e : ps (cu st ks j) x = pp st ks j
    · have hin : x ∈ tr st ks j := hm.2 e
      rw [if_pos e, (tr_nodup c s hy st h ks hk j).count, if_pos hin, ← Nat.add_assoc, ← e, ← ih]
      rw [Nat.mod_add_mod]
    · have hin : ¬ x ∈ tr st ks j := fun z => e (hm.1 z)
      rw [if_neg e, List.count_eq_zero_of_not_mem hin, Nat.add_zero]
      exact ih
/-! how many trains stand -/
theorem trs_count (st : List (List Nat)) : (trsL st).length = st.countP fun t => decide (t ≠ []) := by
  suffices h : ∀ n, ((enmD (st.map trD) n).filterMap keepTr).length = st.countP fun t => decide (t ≠ []) from h 0
  induction st with
  | nil => intro n; rfl
  | cons t st ih =>
    intro n
    simp only [List.map_cons, enmD, List.filterMap_cons, List.countP_cons]
    cases t with
    | nil => simp [trD, keepTr] at ih ⊢; exact ih (n + 1)
    | cons a t => simp [trD, keepTr] at ih ⊢; exact ih (n + 1)
theorem mv_count (st : List (List Nat)) (i : Nat) (h2 : 2 ≤ st.length) (hi : i < st.length) (hne : st.getD i [] ≠ []) :
    (st.countP fun t => decide (t ≠ [])) = ((mv st i).countP fun t => decide (t ≠ [])) + (if st.getD ((i + 1) % st.length) [] ≠ [] then 1 else 0) := by
  have hn : (i + 1) % st.length < st.length := Nat.mod_lt _ (by omega)
  have hni := nxt_ne st.length i h2 hi
  have hpos : (if st.getD ((i + 1) % st.length) [] ≠ [] then 1 else 0) ≤ st.countP fun t => decide (t ≠ []) := by
    split
    · rename_i h3
      apply List.countP_pos_iff.2
      refine ⟨st.getD ((i + 1) % st.length) [], ?_, by simpa using h3⟩
      rw [List.getD_eq_getElem?_getD, List.getElem?_eq_getElem hn]; exact List.getElem_mem hn
    · exact Nat.zero_le _
  have e1 : (st.getD ((i + 1) % st.length) []) = st[(i + 1) % st.length] := by rw [List.getD_eq_getElem?_getD, List.getElem?_eq_getElem hn]; rfl
  have e2 : (st.getD i []) = st[i] := by rw [List.getD_eq_getElem?_getD, List.getElem?_eq_getElem hi]; rfl
  have key : mv st i = (st.set ((i + 1) % st.length) (st[(i + 1) % st.length] ++ st[i])).set i [] := by simp only [mv, nxt, e1, e2]
  rw [key, List.countP_set (h := by simpa using hi), List.countP_set (h := hn)]
  simp only [List.getElem_set_ne hni, e1]
  simp only [e1] at hpos
  rw [e2] at hne
  have a1 : decide (st[(i + 1) % st.length] ++ st[i] ≠ []) = true := by simp [hne]
  have a2 : decide (st[i] ≠ []) = true := by simpa using hne
  rw [a1, a2]
  simp only [if_true]
  have a3 : decide (([] : List Nat) ≠ []) = false := by simp
  rw [a3]
  generalize (st.countP fun t => decide (t ≠ [])) = N at hpos ⊢
  by_cases h3 : st[(i + 1) % st.length] = []
  · simp [h3]
  · rw [if_pos h3] at hpos
    have h4 : decide (st[(i + 1) % st.length] ≠ []) = true := by simpa using h3
    rw [h4, if_pos rfl, if_pos h3]
    simp
    omega
def cn (st : List (List Nat)) (ks : List Nat) (j : Nat) : Nat := (trsL (cu st ks j)).length
theorem cn_step (c s : Nat) (hy : GoodY c s) (st : List (List Nat)) (h : Good c s st) (ks : List Nat) (hk : ∀ k ∈ ks, k < c) (j : Nat) (hj : j < ks.length) : cn st ks j = cn st ks (j + 1) + (if ah st ks j ≠ [] then 1 else 0) := by
  have hg := cu_good c s hy st h ks hk j
  have hp := pp_lt c s hy st h ks hk j hj
  have hs := hg.hs
  have hs0 := h.hs
  have := mv_count (cu st ks j) (pp st ks j) (by have := hy.s2; omega) (by omega) (by
    intro e
    have := tr_in c s hy st h ks hk j hj
    rw [tr, e] at this; cases this)
  rw [cn, cn, cu_succ st ks j hj, trs_count, trs_count, this, hs, ah, hs0]
end LB

set_option linter.all false
namespace LB
open PySem TR
def lastN (t : List Nat) : Nat := t.getLastD 0
def cplI (st : List (List Nat)) (ks : List Nat) (j : Nat) : Option D := if ah st ks j ≠ [] then some (.tuple [.int (j : Nat), .int (lastN (ah st ks j) : Nat), .int ((tr st ks j).getD 0 0 : Nat)]) else none
def cplL (st : List (List Nat)) (ks : List Nat) (n : Nat) : List D := (List.range n).filterMap (cplI st ks)
theorem cplL_succ (st : List (List Nat)) (ks : List Nat) (n : Nat) : cplL st ks (n + 1) = cplL st ks n ++ (cplI st ks n).toList := by
  rw [cplL, List.range_succ, List.filterMap_append]
  cases h : cplI st ks n <;> simp [cplL, h]
theorem cplL_len (st : List (List Nat)) (ks : List Nat) (n : Nat) : (cplL st ks n).length ≤ n := by
  refine Nat.le_trans (List.length_filterMap_le _ _) ?_
  rw [List.length_range]; exact Nat.le_refl _
theorem sub_tr_last (t : List Nat) (h : t ≠ []) : subD (.pu (trD t)) (.pu (.int (-1))) = .ok (.pu (.int (lastN t : Nat))) := by
  have e : t = t.dropLast ++ [t.getLast h] := (List.dropLast_concat_getLast h).symm
  have e2 : lastN t = t.getLast h := by
    rw [lastN, List.getLastD_eq_getLast?, List.getLast?_eq_some_getLast h]; rfl
  rw [e2]
  generalize t.getLast h = x at e
  generalize t.dropLast = p at e
  subst e
  have h1 := sub_last (itD p) (.int (x : Nat))
  simp only [trD, List.map_append, List.map_cons, List.map_nil]
  exact h1
theorem sub_st_at (c s : Nat) (st : List (List Nat)) (ks : List Nat) (j : Nat) (hj : j ≤ ks.length) : subD (.li ((stry st ks).map stD)) (.pu (.int (j : Nat))) = .ok (.pu (stD (cu st ks j))) := by
  have h1 : ((stry st ks).map stD)[j]? = some (stD (cu st ks j)) := by rw [List.getElem?_map, stry_get ks st j hj]; rfl
  have h2 : ixOf ((stry st ks).map stD).length (j : Nat) = some j := ixOf_nat _ _ (by rw [List.length_map, stry_len]; omega)
  simp only [subD, M.seq, bind, R.bind, atD]
  rw [h2]
  simp only [Option.bind_some]
  rw [h1]
  rfl
theorem mod_nx (p s : Nat) (hs : 2 ≤ s) : binD .mod (.pu (.int ((p : Int) + 1))) (.pu (.int s)) = .ok (.pu (.int (((p + 1) % s : Nat) : Int))) := by
  rw [bd_mod _ _ (by omega), fmod_nat]
theorem cmp_tr_nil (t : List Nat) : cmpD .ne (.pu (trD t)) (.pu (.tuple [])) = .ok (decide (t ≠ [])) := by
  have := cmp_tr_ne t []
  rw [show PyData.tuple [] = trD [] from rfl, this]
  by_cases h : t = [] <;> simp [h]
def bCp : List S := [(.asg (.v 7) (.call 3 [(.sub (.var 4) (.var 5)), (.var 6)])), (.asg (.v 8) (.sub (.sub (.var 4) (.var 5)) (.bin .mod (.bin .add (.var 7) (.cst (.int 1))) (.sub (.var 0) (.cst (.int 1)))))), (.ifs (.cmp .ne (.var 8) (.tup [])) [(.app 3 (.tup [(.var 5), (.sub (.var 8) (.neg (.cst (.int 1)))), (.sub (.sub (.sub (.var 4) (.var 5)) (.var 7)) (.cst (.int 0)))]))] [])]
theorem couplings_ok (c s : Nat) (st : List (List Nat)) (ks : List Nat) (hy : GoodY c s) (h : Good c s st) (hk : ∀ k ∈ ks, k < c) (hl : ks.length ≤ 60) : d_f_couplings [ydD c s, stD st, trD ks] = .ok (.pu (.tuple (cplL st ks ks.length))) := by
  have hs2 := hy.s2
  let E (fo : List D) (a5 a6 a7 a8 : Option M) : TR.Env := [some (.pu (ydD c s)), some (.pu (stD st)), some (.pu (trD ks)), some (.li fo), some (.li ((stry st ks).map stD)), a5, a6, a7, a8]
  let e0 : TR.Env := [some (.pu (ydD c s)), some (.pu (stD st)), some (.pu (trD ks)), none, none, none, none, none, none]
  have s0 := exs_do (G := g_f_couplings) (e := .call 0 [(.var 0), (.var 1)]) (r := b_f_couplings.tail) (ev_call_ok (k := 0) rfl (vs2 (i := 0) (j := 1) (env := e0) rfl rfl) (need_state_ok c s st hy h))
  have s1 := exs_do (G := g_f_couplings) (e := .call 1 [(.var 0), (.var 2)]) (r := b_f_couplings.drop 2) (ev_call_ok (k := 1) rfl (vs2 (i := 0) (j := 2) (env := e0) rfl rfl) (need_calls_ok c s ks hk hl))
  have s2 : ex g_f_couplings (b_f_couplings.getD 2 .pass) e0 = .ok (.nx (E [] none none none none)) :=
    ex_par2 (ev_lst_ok evTs_nil (Nat.zero_le _)) rfl (ev_call_ok (k := 2) rfl (vs2 (i := 1) (j := 2) (env := e0) rfl rfl) (story_in_ok c s st ks hy h hk hl)) rfl (by show 3 < 9; decide) (by show 4 < 9; decide)
  obtain ⟨e2, h2, a5, a6, a7, a8, rfl⟩ := foLoop_g (f := forB g_f_couplings (.t [(.v 5), (.v 6)]) bCp) (fun p : Nat × Nat => .tuple [.int (p.2 : Nat), .int (p.1 : Nat)]) (fun l1 en => ∃ a5 a6 a7 a8, en = E (cplL st ks l1.length) a5 a6 a7 a8) ks.zipIdx (by
    intro l1 p l2 he en hen
    obtain ⟨a5, a6, a7, a8, rfl⟩ := hen
    have hj : l1.length < ks.length := by
      have := congrArg List.length he
      simp at this; omega
    have hp : p = (kk ks l1.length, l1.length) := by
      have h3 : ks.zipIdx[l1.length]? = some p := by rw [he]; simp
      rw [List.getElem?_zipIdx, List.getElem?_eq_getElem hj] at h3
      simp at h3
      rw [← h3, kk, List.getD_eq_getElem?_getD, List.getElem?_eq_getElem hj]; rfl
    subst hp
    generalize hjj : l1.length = j at *
    have hg := cu_good c s hy st h ks hk j
    have hpl := pp_lt c s hy st h ks hk j hj
    have hkj := kk_lt c ks hk j hj
    let E1 (a7 a8 : Option M) : TR.Env := E (cplL st ks j) (some (.pu (.int j))) (some (.pu (.int (kk ks j)))) a7 a8
    have hat : ∀ a7 a8, ev g_f_couplings (.sub (.var 4) (.var 5)) (E1 a7 a8) = .ok (.pu (stD (cu st ks j)), [], E1 a7 a8) := fun a7 a8 =>
      ev_sub_ok (ev_ownvar rfl) (ev_var_ok rfl) (by simp) (sub_st_at c s st ks j (by omega)) rfl
    have t1 : ex g_f_couplings (bCp.getD 0 .pass) (E1 a7 a8) = .ok (.nx (E1 (some (.pu (.int (pp st ks j)))) a8)) :=
      ex_asg_v (i := 7) (m := .pu (.int (pp st ks j))) (e2 := E1 a7 a8) (ev_call_ok (k := 3) rfl (ev2 (hat _ _) (ev_var_ok rfl)) (st_in c s (kk ks j) _ hy hg hkj)) rfl (by show 7 < 9; decide)
    have hls : (cu st ks j).length = s := hg.hs
    have m1 : subD (.pu (stD (cu st ks j))) (.pu (.int (((pp st ks j + 1) % s : Nat) : Int))) = .ok (.pu (trD (ah st ks j))) := by
      rw [ah, h.hs]; exact sub_stD _ _ (by rw [hls]; exact Nat.mod_lt _ (by omega))
    have t2 : ex g_f_couplings (bCp.getD 1 .pass) (E1 (some (.pu (.int (pp st ks j)))) a8) = .ok (.nx (E1 (some (.pu (.int (pp st ks j)))) (some (.pu (trD (ah st ks j)))))) :=
      ex_asg_v (i := 8) (m := .pu (trD (ah st ks j))) (e2 := E1 (some (.pu (.int (pp st ks j)))) a8) (ev_sub_ok (hat _ _) (ev_bin_ok (ev_bin_ok (ev_var_ok rfl) ev_cst_ok (bd_add _ _)) (ev_sub_ok (m := .pu (.int s)) (ev_var_ok rfl) ev_cst_ok rfl rfl rfl) (mod_nx _ _ hs2)) rfl m1 rfl) rfl (by show 8 < 9; decide)
    let E2 := E1 (some (.pu (.int (pp st ks j)))) (some (.pu (trD (ah st ks j))))
    have hc : ev g_f_couplings (.cmp .ne (.var 8) (.tup [])) E2 = .ok (.pu (.bool (decide (ah st ks j ≠ []))), [], E2) :=
      ev_cmp_ok (o := .ne) (ev_var_ok rfl) (ev_tup_ok evTs_nil (Nat.zero_le _)) rfl (cmp_tr_nil _)
    have t3 : ex g_f_couplings (bCp.getD 2 .pass) E2 = .ok (.nx (E (cplL st ks (j + 1)) (some (.pu (.int j))) (some (.pu (.int (kk ks j)))) (some (.pu (.int (pp st ks j)))) (some (.pu (trD (ah st ks j)))))) := by
      rw [cplL_succ]
      by_cases hx : ah st ks j = []
      · have : cplI st ks j = none := by rw [cplI, if_neg (by simp [hx])]
        rw [this]
        rw [decide_eq_false (by simp [hx])] at hc
        rw [Option.toList_none, List.append_nil]
        exact ex_if_ff hc exs_nil
      · have h5 : cplI st ks j = some (.tuple [.int (j : Nat), .int (lastN (ah st ks j) : Nat), .int ((tr st ks j).getD 0 0 : Nat)]) := by rw [cplI, if_pos hx]
        rw [h5]
        rw [decide_eq_true hx] at hc
        have m2 : subD (.pu (stD (cu st ks j))) (.pu (.int (pp st ks j))) = .ok (.pu (trD (tr st ks j))) := sub_stD _ _ (by rw [hls]; exact hpl)
        have m3 := sub_trD (tr st ks j) 0 (List.length_pos_of_mem (tr_in c s hy st h ks hk j hj))
        refine ex_if_tt hc ((exs_nx (ex_app_ok (xs := cplL st ks j) rfl (ev_tup_ok (evTs_pu (ev_var_ok rfl) (evTs_pu (ev_sub_ok (ev_var_ok rfl) (ev_neg_ok ev_cst_ok) rfl (sub_tr_last _ hx) rfl) (evTs_pu (ev_sub_ok (ev_sub_ok (hat _ _) (ev_var_ok rfl) rfl m2 rfl) ev_cst_ok rfl m3 rfl) evTs_nil))) (by simp; unfold big; omega)) rfl (by have := cplL_len st ks j; unfold big; omega))).trans exs_nil)
    refine ⟨_, ?_, some (.pu (.int j)), some (.pu (.int (kk ks j))), some (.pu (.int (pp st ks j))), some (.pu (trD (ah st ks j))), by rw [List.length_append, hjj]⟩
    exact (exs_nx t1).trans ((exs_nx t2).trans ((exs_nx t3).trans exs_nil))) (E [] none none none none) ⟨_, _, _, _, rfl⟩
  rw [← enmD_zip (fun (k : Nat) => PyData.int (k : Nat)), List.length_zipIdx] at h2
  have hen : ev g_f_couplings (.enm (.var 2)) (E [] none none none none) = .ok (.li (enmD (itD ks) 0), [], E [] none none none none) := by
    rw [ev, ev_var_ok rfl]
    rfl
  have s3 : ex g_f_couplings (b_f_couplings.getD 3 .pass) (E [] none none none none) = .ok (.nx (E (cplL st ks ks.length) a5 a6 a7 a8)) :=
    ex_for_ok hen rfl rfl h2
  have s4 : exs g_f_couplings (b_f_couplings.drop 4) (E (cplL st ks ks.length) a5 a6 a7 a8) = .ok (.ret (.pu (.tuple (cplL st ks ks.length))) (E (cplL st ks ks.length) a5 a6 a7 a8)) :=
    ex_ret_ok (ev_bi1_ok (b := .tuple) (ev_ownvar rfl) rfl) rfl
  exact runP_ret (s0.trans (s1.trans ((exs_nx s2).trans ((exs_nx s3).trans s4))))
end LB

set_option linter.all false
namespace LB
open PySem TR
theorem zip_stry (st : List (List Nat)) (ks : List Nat) : zipD ((stry st ks).map stD) (itD ks) = (List.range ks.length).map fun j => .tuple [stD (cu st ks j), .int (kk ks j : Nat)] := by
  apply List.ext_getElem?
  intro j
  rw [zipD, List.getElem?_zipWith, List.getElem?_map, List.getElem?_map]
  rcases Nat.lt_or_ge j ks.length with h | h
  · rw [stry_get ks st j (by omega)]
    have h1 : (itD ks)[j]? = some (.int (kk ks j : Nat)) := by
      rw [itD, List.getElem?_map, List.getElem?_eq_getElem h, kk, List.getD_eq_getElem?_getD, List.getElem?_eq_getElem h]; rfl
    rw [h1]
    simp [h]
  · have h1 : (itD ks)[j]? = none := by rw [itD, List.getElem?_map, List.getElem?_eq_none h]; rfl
    have h2 : (List.range ks.length)[j]? = none := by rw [List.getElem?_eq_none]; simpa using h
    rw [h1, h2]
    cases Option.map stD (stry st ks)[j]? <;> rfl
theorem itD_len (t : List Nat) : (itD t).length = t.length := by simp [itD]
theorem itD_set (t : List Nat) (i x : Nat) : (itD t).set i (.int (x : Nat)) = itD (t.set i x) := by simp [itD, List.map_set]
theorem sub_itD (t : List Nat) (i : Nat) (h : i < t.length) : subD (.li (itD t)) (.pu (.int (i : Nat))) = .ok (.pu (.int (t.getD i 0 : Nat))) := by
  have h1 : (itD t)[i]? = some (.int (t.getD i 0 : Nat)) := by
    rw [itD, List.getElem?_map, List.getElem?_eq_getElem h, List.getD_eq_getElem?_getD, List.getElem?_eq_getElem h]; rfl
  have h2 : ixOf (itD t).length (i : Nat) = some i := ixOf_nat _ _ (by rw [itD_len]; exact h)
  simp only [subD, M.seq, bind, R.bind, atD]
  rw [h2]
  simp only [Option.bind_some]
  rw [h1]
  rfl
theorem bump_loop (f : D → TR.Env → R Out) (E : List D → Option M → TR.Env) (n : Nat)
    (step : ∀ (acc : List Nat) (o : Nat) a, acc.length = n → o < n → f (.int o) (E (itD acc) a) = .ok (.nx (E (itD (acc.set o (acc.getD o 0 + 1))) (some (.pu (.int o)))))) (t : List Nat) :
    ∀ acc a, acc.length = n → (∀ o ∈ t, o < n) → ∃ a', foLoop f (itD t) (E (itD acc) a) = .ok (.nx (E (itD (bump acc t)) a')) := by
  induction t with
  | nil => intro acc a _ _; exact ⟨a, by rw [itD, List.map_nil, foLoop]; rfl⟩
  | cons o t ih =>
    intro acc a hl ht
    obtain ⟨a', h2⟩ := ih (acc.set o (acc.getD o 0 + 1)) (some (.pu (.int o))) (by simpa using hl) (fun x hx => ht x (by simp [hx]))
    refine ⟨a', ?_⟩
    have h3 := step acc o a hl (ht o (by simp))
    show foLoop f (.int o :: itD t) _ = _
    rw [foLoop, h3]
    simp only [bind, R.bind]
    rw [h2]
    rfl
theorem ex_augI_ok {G : List Fn} {y j : Nat} {b : Int} {env : TR.Env} {m m2 : M} {a i : Int} (h1 : env.get j = .ok (.pu (.int i))) (h2 : env.get y = .ok m) (h3 : subD m (.pu (.int i)) = .ok (.pu (.int a))) (h4 : putI m (.pu (.int i)) (.int (a + b)) = .ok m2) :
    ex G (.augI y (.var j) .add (.cst (.int b))) env = .ok (.nx (env.set y (some m2))) := by
  rw [ex, ev_var_ok h1]
  simp only [bind, R.bind]
  rw [h2]
  simp only
  rw [h3]
  simp only
  rw [ev_cst_ok]
  simp only
  rw [h2]
  simp only [bd_add, pureR]
  rw [h4]
theorem rep_ok (c : Nat) (hc : c ≤ 7) : binD .mul (.li [.int 0]) (.pu (.int (c : Nat))) = .ok (.li (itD (List.replicate c 0))) := by
  simp only [binD]
  rw [if_pos (by refine ⟨by omega, by omega, by simp⟩)]
  congr 2
  simp [itD]
theorem tr_lt (c s : Nat) (hy : GoodY c s) (st : List (List Nat)) (h : Good c s st) (ks : List Nat) (hk : ∀ k ∈ ks, k < c) (j : Nat) : ∀ o ∈ tr st ks j, o < c := by
  intro o ho
  have hg := cu_good c s hy st h ks hk j
  rcases Nat.lt_or_ge (pp st ks j) (cu st ks j).length with h2 | h2
  · rw [tr, List.getD_eq_getElem?_getD, List.getElem?_eq_getElem h2] at ho
    have := (hg.hc.mem_iff (a := o)).1 (List.mem_flatten.2 ⟨_, List.getElem_mem h2, ho⟩)
    simpa using this
  · rw [tr, List.getD_eq_getElem?_getD, List.getElem?_eq_none h2] at ho; cases ho
theorem steps_of_ok (c s : Nat) (st : List (List Nat)) (ks : List Nat) (hy : GoodY c s) (h : Good c s st) (hk : ∀ k ∈ ks, k < c) (hl : ks.length ≤ 60) : d_f_steps_of [ydD c s, stD st, trD ks] = .ok (.pu (trD (stp st ks c ks.length))) := by
  let E (fo : List D) (a4 a5 a6 : Option M) : TR.Env := [some (.pu (ydD c s)), some (.pu (stD st)), some (.pu (trD ks)), some (.li fo), a4, a5, a6]
  let e0 : TR.Env := [some (.pu (ydD c s)), some (.pu (stD st)), some (.pu (trD ks)), none, none, none, none]
  have s0 := exs_do (G := g_f_steps_of) (e := .call 0 [(.var 0), (.var 1)]) (r := b_f_steps_of.tail) (ev_call_ok (k := 0) rfl (vs2 (i := 0) (j := 1) (env := e0) rfl rfl) (need_state_ok c s st hy h))
  have s1 := exs_do (G := g_f_steps_of) (e := .call 1 [(.var 0), (.var 2)]) (r := b_f_steps_of.drop 2) (ev_call_ok (k := 1) rfl (vs2 (i := 0) (j := 2) (env := e0) rfl rfl) (need_calls_ok c s ks hk hl))
  have s2 : ex g_f_steps_of (b_f_steps_of.getD 2 .pass) e0 = .ok (.nx (E (itD (List.replicate c 0)) none none none)) :=
    ex_asg_v (i := 3) (m := .li (itD (List.replicate c 0))) (e2 := e0) (ev_bin_ok (ev_lst_ok (evTs_pu ev_cst_ok evTs_nil) one_big) (ev_sub_ok (m := .pu (.int c)) (ev_var_ok rfl) ev_cst_ok rfl rfl rfl) (rep_ok c hy.c7)) rfl (by show 3 < 7; decide)
  obtain ⟨e2, h2, a4, a5, a6, rfl⟩ := foLoop_all (f := forB g_f_steps_of (.t [(.v 4), (.v 5)]) [(.for_ (.v 6) (.sub (.var 4) (.call 3 [(.var 4), (.var 5)])) [(.augI 3 (.var 6) .add (.cst (.int 1)))])]) (fun j en => ∃ a4 a5 a6, en = E (itD (stp st ks c j)) a4 a5 a6)
    ((List.range ks.length).map fun j => .tuple [stD (cu st ks j), .int (kk ks j : Nat)]) (E (itD (List.replicate c 0)) none none none) ⟨none, none, none, rfl⟩ (by
      intro j hj en hen
      obtain ⟨a4, a5, a6, rfl⟩ := hen
      have hj : j < ks.length := by simpa using hj
      simp only [List.getElem_map, List.getElem_range]
      have hg := cu_good c s hy st h ks hk j
      have hpl := pp_lt c s hy st h ks hk j hj
      have hkj := kk_lt c ks hk j hj
      let E1 (fo : List D) (a6 : Option M) : TR.Env := E fo (some (.pu (stD (cu st ks j)))) (some (.pu (.int (kk ks j)))) a6
      have m2 : subD (.pu (stD (cu st ks j))) (.pu (.int (pp st ks j))) = .ok (.pu (trD (tr st ks j))) := sub_stD _ _ (by rw [hg.hs]; exact hpl)
      obtain ⟨a', h3⟩ := bump_loop (forB g_f_steps_of (.v 6) [(.augI 3 (.var 6) .add (.cst (.int 1)))]) E1 c (by
        intro acc o a hl ho
        have h4 : ex g_f_steps_of (.augI 3 (.var 6) .add (.cst (.int 1))) (E1 (itD acc) (some (.pu (.int o)))) = .ok (.nx (E1 (itD (acc.set o (acc.getD o 0 + 1))) (some (.pu (.int o))))) := by
          rw [← itD_set]
          exact ex_augI_ok rfl rfl (sub_itD acc o (by omega)) (put_li _ _ _ (by rw [itD_len]; omega))
        exact (exs_nx h4).trans exs_nil) (tr st ks j) (stp st ks c j) a6 (stp_len _ _ _ _) (tr_lt c s hy st h ks hk j)
      rw [← stp_succ] at h3
      have h5 : ex g_f_steps_of (.for_ (.v 6) (.sub (.var 4) (.call 3 [(.var 4), (.var 5)])) [(.augI 3 (.var 6) .add (.cst (.int 1)))]) (E1 (itD (stp st ks c j)) a6) = .ok (.nx (E1 (itD (stp st ks c (j + 1))) a')) :=
        ex_for_ok (m := .pu (trD (tr st ks j))) (rs := []) (e1 := E1 (itD (stp st ks c j)) a6) (ev_sub_ok (ev_var_ok rfl) (ev_call_ok (k := 3) rfl (vs2 (i := 4) (j := 5) rfl rfl) (st_in c s (kk ks j) _ hy hg hkj)) rfl m2 rfl) rfl rfl h3
      exact ⟨_, (exs_nx h5).trans exs_nil, _, _, _, rfl⟩)
  rw [← zip_stry] at h2
  have hlz : (zipD ((stry st ks).map stD) (itD ks)).length = ks.length := by rw [zip_stry]; simp
  rw [hlz] at h2
  have hz : ev g_f_steps_of (.zip (.call 2 [(.var 1), (.var 2)]) (.var 2)) (E (itD (List.replicate c 0)) none none none) = .ok (.li (zipD ((stry st ks).map stD) (itD ks)), [], E (itD (List.replicate c 0)) none none none) := by
    rw [ev, ev_call_ok (k := 2) rfl (vs2 (i := 1) (j := 2) rfl rfl) (story_in_ok c s st ks hy h hk hl)]
    simp only [bind, R.bind]
    rw [ev_var_ok rfl]
    rfl
  have s3 : ex g_f_steps_of (b_f_steps_of.getD 3 .pass) (E (itD (List.replicate c 0)) none none none) = .ok (.nx (E (itD (stp st ks c ks.length)) a4 a5 a6)) :=
    ex_for_ok hz rfl rfl h2
  have s4 : exs g_f_steps_of (b_f_steps_of.drop 4) (E (itD (stp st ks c ks.length)) a4 a5 a6) = .ok (.ret (.pu (trD (stp st ks c ks.length))) (E (itD (stp st ks c ks.length)) a4 a5 a6)) :=
    ex_ret_ok (ev_bi1_ok (b := .tuple) (ev_ownvar rfl) rfl) rfl
  exact runP_ret (s0.trans (s1.trans ((exs_nx s2).trans ((exs_nx s3).trans s4))))
end LB

set_option linter.all false
namespace LB
open PySem TR
theorem ev_ite_t {G : List Fn} {c a b : E} {d : D} {rc ra : List Nat} {env e1 e2 : TR.Env} (h : ev G c env = .ok (.pu (.bool true), rc, e1)) (h2 : ev G a e1 = .ok (.pu d, ra, e2)) : ev G (.ite c a b) env = .ok (.pu d, [], e2) := by
  rw [ev, h]
  simp only [bind, R.bind, boolR]
  rw [if_pos trivial, h2]
  rfl
theorem ev_ite_f {G : List Fn} {c a b : E} {d : D} {rc ra : List Nat} {env e1 e2 : TR.Env} (h : ev G c env = .ok (.pu (.bool false), rc, e1)) (h2 : ev G b e1 = .ok (.pu d, ra, e2)) : ev G (.ite c a b) env = .ok (.pu d, [], e2) := by
  rw [ev, h]
  simp only [bind, R.bind, boolR]
  rw [if_neg (by decide), h2]
  rfl
theorem okD_lst (xs : List D) : okD (.list xs) = okD (.tuple xs) := by simp [okD, PyData.plain, PyData.depth]
theorem okD_items (xs : List D) (h : ∀ x ∈ xs, x.plain = true ∧ x.depth ≤ 20) : okD (.tuple xs) = true := by
  have h1 := plainAll_of xs (fun x hx => (h x hx).1)
  have h2 := depthAll_of 20 xs (fun x hx => (h x hx).2)
  simp [okD, PyData.plain, PyData.depth, h1]; omega
theorem cpl_item (st : List (List Nat)) (ks : List Nat) (n : Nat) : ∀ x ∈ cplL st ks n, ∃ a b d : Nat, x = .tuple [.int a, .int b, .int d] := by
  intro x hx
  rw [cplL, List.mem_filterMap] at hx
  obtain ⟨j, _, h⟩ := hx
  rw [cplI] at h
  split at h
  · cases h; exact ⟨_, _, _, rfl⟩
  · cases h
theorem okD_cpl (st : List (List Nat)) (ks : List Nat) (n : Nat) : okD (.tuple (cplL st ks n)) = true := by
  refine okD_items _ (fun x hx => ?_)
  obtain ⟨a, b, d, rfl⟩ := cpl_item st ks n x hx
  simp [PyData.plain, PyData.plainAll, PyData.depth, PyData.depthAll]
theorem tup_cpl (st : List (List Nat)) (ks : List Nat) (n : Nat) (hn : n ≤ 1000) : tupN 8 (.tuple (cplL st ks n)) = true := by
  refine tup_all 7 _ (by have := cplL_len st ks n; omega) (fun x hx => ?_)
  obtain ⟨a, b, d, rfl⟩ := cpl_item st ks n x hx
  exact tup_all 6 _ (by simp) (fun y hy => by simp at hy; rcases hy with rfl | rfl | rfl <;> exact tup_int _ _)
def fcD : List D → D
  | .tuple (x :: _) :: _ => x
  | _ => .none
theorem cmp_cpl (st : List (List Nat)) (ks : List Nat) (n : Nat) : cmpD .ne (.pu (.tuple (cplL st ks n))) (.pu (.tuple [])) = .ok (!(cplL st ks n).isEmpty) := by
  have hnil : okD (.tuple []) = true := okD_trD []
  rw [cmp_ne_ok _ _ (okD_cpl st ks n) hnil]
  congr 2
  simp only [PyData.eqv]
  cases cplL st ks n <;> rfl
theorem cmp_cpl_li (st : List (List Nat)) (ks : List Nat) (n : Nat) : cmpD .ne (.li (cplL st ks n)) (.li []) = .ok (!(cplL st ks n).isEmpty) := by
  have h1 : okD (.list (cplL st ks n)) = true := by rw [okD_lst]; exact okD_cpl st ks n
  have h2 : okD (.list []) = true := okD_nil
  simp only [cmpD, M.toD]
  simp [h1, h2]
  simp only [PyData.eqv]
  cases cplL st ks n <;> rfl
theorem first_sub (l : List D) (a b d : Nat) : subD (.pu (.tuple (.tuple [.int a, .int b, .int d] :: l))) (.pu (.int 0)) = .ok (.pu (.tuple [.int a, .int b, .int d])) := by
  simp
theorem first_sub_li (l : List D) (a b d : Nat) : subD (.li (.tuple [.int a, .int b, .int d] :: l)) (.pu (.int 0)) = .ok (.pu (.tuple [.int a, .int b, .int d])) := by
  simp
theorem first_sub2 (a b d : Nat) : subD (.pu (.tuple [.int a, .int b, .int d])) (.pu (.int 0)) = .ok (.pu (.int a)) := rfl
theorem first_coupling_ok (c s : Nat) (st : List (List Nat)) (ks : List Nat) (hy : GoodY c s) (h : Good c s st) (hk : ∀ k ∈ ks, k < c) (hl : ks.length ≤ 60) : d_f_first_coupling [ydD c s, stD st, trD ks] = .ok (.pu (fcD (cplL st ks ks.length))) := by
  let e0 : TR.Env := [some (.pu (ydD c s)), some (.pu (stD st)), some (.pu (trD ks)), none]
  let e1 : TR.Env := [some (.pu (ydD c s)), some (.pu (stD st)), some (.pu (trD ks)), some (.pu (.tuple (cplL st ks ks.length)))]
  have s1 : ex g_f_first_coupling (b_f_first_coupling.getD 0 .pass) e0 = .ok (.nx e1) :=
    ex_asg_v (i := 3) (m := .pu (.tuple (cplL st ks ks.length))) (e2 := e0) (ev_call_ok (k := 0) rfl (vs3 (i := 0) (j := 1) (k := 2) rfl rfl rfl) (couplings_ok c s st ks hy h hk hl)) rfl (by show 3 < 4; decide)
  have hc : ev g_f_first_coupling (.cmp .ne (.var 3) (.tup [])) e1 = .ok (.pu (.bool (!(cplL st ks ks.length).isEmpty)), [], e1) :=
    ev_cmp_ok (o := .ne) (ev_var_ok rfl) (ev_tup_ok evTs_nil (Nat.zero_le _)) rfl (cmp_cpl st ks _)
  have s2 : ev g_f_first_coupling (.ite (.cmp .ne (.var 3) (.tup [])) (.sub (.sub (.var 3) (.cst (.int 0))) (.cst (.int 0))) (.cst .none)) e1 = .ok (.pu (fcD (cplL st ks ks.length)), [], e1) := by
    have hi := cpl_item st ks ks.length
    have hv : ev g_f_first_coupling (.var 3) e1 = .ok (.pu (.tuple (cplL st ks ks.length)), [], e1) := ev_var_ok rfl
    generalize e1 = e at *
    generalize cplL st ks ks.length = l at *
    cases l with
    | nil => exact ev_ite_f hc ev_cst_ok
    | cons x l =>
      obtain ⟨a, b, d, rfl⟩ := hi x (by simp)
      exact ev_ite_t hc (ev_sub_ok (ev_sub_ok hv ev_cst_ok rfl (first_sub l a b d) rfl) ev_cst_ok rfl (first_sub2 a b d) rfl)
  exact runP_ret ((exs_nx s1).trans (ex_ret_ok s2 rfl))
theorem cn_sum (c s : Nat) (hy : GoodY c s) (st : List (List Nat)) (h : Good c s st) (ks : List Nat) (hk : ∀ k ∈ ks, k < c) : ∀ j, j ≤ ks.length → cn st ks 0 = cn st ks j + (cplL st ks j).length := by
  intro j
  induction j with
  | zero => intro _; rfl
  | succ j ih =>
    intro hj
    have h1 := cn_step c s hy st h ks hk j (by omega)
    rw [ih (by omega), h1, cplL_succ, List.length_append, cplI]
    by_cases hx : ah st ks j = []
    · simp [hx]
    · simp [hx]; omega
theorem cnts_eq (st : List (List Nat)) (ks : List Nat) : cnts st ks = (List.range (ks.length + 1)).map (cn st ks) := by
  rw [cnts, stry_eq, List.map_map]; rfl
theorem cnts_len (st : List (List Nat)) (ks : List Nat) : (cnts st ks).length = ks.length + 1 := by rw [cnts_eq]; simp
theorem cnts_get (st : List (List Nat)) (ks : List Nat) (j : Nat) (h : j ≤ ks.length) : (cnts st ks).getD j 0 = cn st ks j := by
  rw [cnts_eq, List.getD_eq_getElem?_getD, List.getElem?_map, List.getElem?_range (by omega)]; rfl
theorem cnts_last (st : List (List Nat)) (ks : List Nat) : lastN (cnts st ks) = cn st ks ks.length := by
  rw [lastN, cnts_eq, List.range_succ, List.map_append, List.getLastD_eq_getLast?]
  simp
end LB

set_option linter.all false
namespace LB
open PySem TR
/-- closed stations -/
structure CS (cs : List Nat) (s : Nat) : Prop where
  pw : cs.Pairwise (· < ·)
  lt : ∀ x ∈ cs, x < s
  len : cs.length ≤ s
  ne : cs ≠ []
theorem in_cs (cs : List Nat) (x : Nat) : cmpD .inn (.pu (.int (x : Nat))) (.pu (trD cs)) = .ok (decide (x ∈ cs)) := by
  have h1 : okD (.tuple (itD cs)) = true := okD_trD cs
  have h2 := any_trD cs x
  have hs : M.seq (.pu (trD cs)) = .ok (itD cs) := rfl
  simp only [cmpD]
  show (M.seq (.pu (trD cs)) >>= fun xs => if (okD (.int (x : Nat)) && okD (.tuple xs)) = true then R.ok (xs.any fun z => PyData.eqv z (.int (x : Nat))) else .bad) = _
  rw [hs]
  show (if (okD (.int (x : Nat)) && okD (.tuple (itD cs))) = true then R.ok ((itD cs).any fun z => PyData.eqv z (.int (x : Nat))) else .bad) = _
  rw [if_pos (by rw [okD_int, h1]; rfl)]
  congr 1
theorem nin_cs (cs : List Nat) (x : Nat) : cmpD .nin (.pu (.int (x : Nat))) (.pu (trD cs)) = .ok (!decide (x ∈ cs)) := by
  have h1 : okD (.tuple (itD cs)) = true := okD_trD cs
  have h2 := any_trD cs x
  have hs : M.seq (.pu (trD cs)) = .ok (itD cs) := rfl
  simp only [cmpD]
  show (M.seq (.pu (trD cs)) >>= fun xs => if (okD (.int (x : Nat)) && okD (.tuple xs)) = true then R.ok (!(xs.any fun z => PyData.eqv z (.int (x : Nat)))) else .bad) = _
  rw [hs]
  show (if (okD (.int (x : Nat)) && okD (.tuple (itD cs))) = true then R.ok (!((itD cs).any fun z => PyData.eqv z (.int (x : Nat)))) else .bad) = _
  rw [if_pos (by rw [okD_int, h1]; rfl)]
  congr 2
theorem all_true (n : Nat) (l : List Nat) : bi1 .all (.li (l.map fun _ => PyData.bool true)) = .ok (.pu (.bool true)) := by
  have h5 := boolsD_map (l.map fun _ => true)
  simp only [List.map_map, Function.comp_def] at h5
  simp only [bi1, quaM, M.lst, bind, R.bind]
  rw [h5]
  simp
theorem intsD_itD (cs : List Nat) : intsD (itD cs) = some (cs.map fun (c : Nat) => (c : Int)) := by
  induction cs with
  | nil => rfl
  | cons c cs ih =>
    show intsD (.int (c : Nat) :: itD cs) = _
    rw [intsD, ih]; rfl
theorem sortU_cs (cs : List Nat) (h : cs.Pairwise (· < ·)) : sortU (cs.map fun (c : Nat) => (c : Int)) = cs.map fun (c : Nat) => (c : Int) := by
  refine pw_uniq _ _ (sortU_pw _) ?_ fun k => sortU_mem k _
  rw [List.pairwise_map]
  exact h.imp fun hab => by omega
theorem set_cs (cs : List Nat) (h : cs.Pairwise (· < ·)) (hl : cs.length < 64) : biD .set [.pu (trD cs), .pu .none] = .ok (.li (itD cs)) := by
  have h1 : intsD (itD cs) = some (cs.map fun (c : Nat) => (c : Int)) := intsD_itD cs
  have h2 : setM (.pu (trD cs)) = .ok (.st (itD cs)) := by
    show (match intsD (itD cs) with | some ns => if ns.length < 64 then R.ok (M.st (itD cs)) else .bad | none => .bad) = _
    rw [h1]
    show (if (cs.map fun (c : Nat) => (c : Int)).length < 64 then R.ok (M.st (itD cs)) else .bad) = _
    rw [if_pos (by simpa using hl)]
  have h3 : sortM (.st (itD cs)) = .ok (.li (itD cs)) := by
    show (match intsD (itD cs) with | some ns => R.ok (M.li ((sortU ns).map .int)) | none => .bad) = _
    rw [h1]
    show R.ok (M.li ((sortU (cs.map fun (c : Nat) => (c : Int))).map .int)) = _
    rw [sortU_cs cs h]
    simp [itD]
  show (setM (.pu (trD cs)) >>= fun z => sortM z) = _
  rw [h2]
  exact h3
theorem eqv_li (cs : List Nat) : cmpD .eq (.li (itD cs)) (.li (itD cs)) = .ok true := by
  have h1 : okD (.list (itD cs)) = true := by rw [okD_lst]; exact okD_trD cs
  have h2 : PyData.eqv (.list (itD cs)) (.list (itD cs)) = true := by
    simp only [PyData.eqv]
    have := eqvAll_map (fun c : Nat => PyData.int (c : Nat)) eqv_nat cs cs
    rw [decide_eq_true rfl] at this
    exact this
  simp only [cmpD, M.toD]
  simp [h1, h2]
theorem set_loop (c s : Nat) (cs : List Nat) (hi : ∀ k ∈ cs, k < s) (a1 : Option M) : ∃ a2, lcLoop (lcB g_f_is_set [2] (.call 0 [(.var 2), (.cst (.int 0)), (.bin .sub (.sub (.var 0) (.cst (.int 1))) (.cst (.int 1)))]) (.v 2) []) (itD cs) [some (.pu (ydD c s)), a1, none] = .ok (cs.map fun _ => .bool true, [some (.pu (ydD c s)), a1, a2]) := by
  obtain ⟨e2, h1, a2, rfl⟩ := lcLoop_g (f := lcB g_f_is_set [2] (.call 0 [(.var 2), (.cst (.int 0)), (.bin .sub (.sub (.var 0) (.cst (.int 1))) (.cst (.int 1)))]) (.v 2) []) (fun (k : Nat) => .int (k : Nat)) (fun x => some (.bool true)) (fun en => ∃ a2, en = [some (.pu (ydD c s)), a1, a2]) cs (by
    intro k hk en hen
    obtain ⟨a2, rfl⟩ := hen
    have hks := hi k hk
    have h3 : d_f_is_in [.int (k : Nat), .int 0, .int ((s : Int) - 1)] = .ok (.pu (.bool true)) := is_in_int _ _ _ (by omega) (by omega)
    have h4 : ev g_f_is_set (.call 0 [(.var 2), (.cst (.int 0)), (.bin .sub (.sub (.var 0) (.cst (.int 1))) (.cst (.int 1)))]) [some (.pu (ydD c s)), a1, some (.pu (.int k))] = .ok (.pu (.bool true), [], [some (.pu (ydD c s)), a1, some (.pu (.int k))]) :=
      ev_call_ok (k := 0) rfl (evTs_pu (d := .int k) (ev_var_ok rfl) (evTs_pu (d := .int 0) ev_cst_ok (evTs_pu (ev_bin_ok (ev_sub_ok (m := .pu (.int s)) (ev_var_ok rfl) ev_cst_ok rfl rfl rfl) ev_cst_ok (bd_sub _ _)) evTs_nil))) h3
    exact ⟨[some (.pu (ydD c s)), a1, some (.pu (.int k))], lcB_nc rfl h4, _, rfl⟩) [some (.pu (ydD c s)), a1, none] ⟨_, rfl⟩
  refine ⟨a2, ?_⟩
  rw [filterMap_some] at h1
  exact h1
theorem is_set_ok (c s : Nat) (cs : List Nat) (hs8 : s ≤ 8) (h : CS cs s) : d_f_is_set [ydD c s, trD cs] = .ok (.pu (.bool true)) := by
  have hlen := h.len
  let E (a : Option M) : TR.Env := [some (.pu (ydD c s)), some (.pu (trD cs)), a]
  have h1 : d_f_is_list [trD cs, .int 0, .int s] = .ok (.pu (.bool true)) := is_list_tup _ _ _ (by simp) (by simp; omega)
  obtain ⟨a2, h2⟩ := set_loop c s cs h.lt (some (.pu (trD cs)))
  have h3 : ev g_f_is_set (.lc false [2] (.call 0 [(.var 2), (.cst (.int 0)), (.bin .sub (.sub (.var 0) (.cst (.int 1))) (.cst (.int 1)))]) (.v 2) (.var 1) []) (E none) = .ok (.li (cs.map fun _ => .bool true), [], E none) :=
    ev_lc_ok (m := .pu (trD cs)) (rs := []) (e1 := E none) (ev_var_ok rfl) rfl rfl rfl rfl h2 (by rw [List.length_map]; unfold big; omega)
  have s1 : ex g_f_is_set (b_f_is_set.getD 0 .pass) (E none) = .ok (.nx (E none)) :=
    ex_if_ff (ev_or_ff (ev_not_ok (ev_call_ok (k := 1) rfl (evTs_pu (d := trD cs) (ev_var_ok rfl) (evTs_pu (d := .int 0) ev_cst_ok (evTs_pu (ev_sub_ok (m := .pu (.int s)) (ev_var_ok rfl) ev_cst_ok rfl rfl rfl) evTs_nil))) h1)) (ev_not_ok (ev_bi1_ok (b := .all) h3 (all_true 0 cs)))) exs_nil
  have h4 : ev g_f_is_set (.bi .set [(.var 1), (.cst .none)]) (E none) = .ok (.li (itD cs), [], E none) := by
    have h5 : evs g_f_is_set [(.var 1), (.cst .none)] (E none) = .ok ([.pu (trD cs), .pu .none], [], E none) := by
      rw [evs, ev_var_ok (G := g_f_is_set) (env := E none) (i := 1) (d := trD cs) rfl]
      simp only [bind, R.bind]
      rw [evs, ev_cst_ok]
      simp only [bind, R.bind]
      rw [evs]
      rfl
    rw [ev, h5]
    simp only [bind, R.bind]
    rw [set_cs cs h.pw (by omega)]
  exact runP_ret ((exs_nx s1).trans (ex_ret_ok (ev_cmp_ok (o := .eq) (ev_bi1_ok (b := .list) (ev_var_ok rfl) rfl) h4 rfl (eqv_li cs)) rfl))
theorem need_closed_ok (c s : Nat) (cs : List Nat) (hs8 : s ≤ 8) (h : CS cs s) : d_f_need_closed [ydD c s, trD cs] = .ok (.pu .none) := by
  have h1 : cmpD .eq (.pu (trD cs)) (.pu (.tuple [])) = .ok false := by
    have := cmp_tr cs []
    rw [decide_eq_false h.ne] at this
    exact this
  exact runP_nx ((exs_nx (ex_if_ff (ev_or_ff (ev_not_ok (ev_call_ok (k := 0) rfl (vs2 (i := 0) (j := 1) rfl rfl) (is_set_ok c s cs hs8 h))) (ev_cmp_ok (o := .eq) (ev_var_ok rfl) (ev_tup_ok evTs_nil (Nat.zero_le _)) rfl h1)) exs_nil)).trans exs_nil)
/-- a move that closed stations may stop -/
def cmv (cs : List Nat) (st : List (List Nat)) (i : Nat) : List (List Nat) := if (i + 1) % st.length ∈ cs then st else mv st i
theorem cmv_good (c s : Nat) (st : List (List Nat)) (hy : GoodY c s) (h : Good c s st) (cs : List Nat) (i : Nat) (hi : i < s) : Good c s (cmv cs st i) := by
  unfold cmv; split
  · exact h
  · exact mv_good c s st hy h i hi
theorem closed_move_ok (c s i : Nat) (st : List (List Nat)) (hy : GoodY c s) (h : Good c s st) (cs : List Nat) (hi : i < s) : d_f_closed_move [stD st, trD cs, .int i] = .ok (.pu (stD (cmv cs st i))) := by
  have hs2 := hy.s2
  have hs := h.hs
  let e0 : TR.Env := [some (.pu (stD st)), some (.pu (trD cs)), some (.pu (.int i))]
  have hlen : bi1 .len (.pu (stD st)) = .ok (.pu (.int st.length)) := by simp [stD]
  have hc : ev g_f_closed_move (.cmp .inn (.bin .mod (.bin .add (.var 2) (.cst (.int 1))) (.bi .len [(.var 0)])) (.var 1)) e0 = .ok (.pu (.bool (decide ((i + 1) % st.length ∈ cs))), [], e0) :=
    ev_cmp_ok (o := .inn) (ev_bin_ok (ev_bin_ok (ev_var_ok rfl) ev_cst_ok (bd_add _ _)) (ev_bi1_ok (b := .len) (ev_var_ok rfl) hlen) (mod_nx i st.length (by omega))) (ev_var_ok rfl) rfl (in_cs _ _)
  by_cases hx : (i + 1) % st.length ∈ cs
  · rw [decide_eq_true hx] at hc
    rw [cmv, if_pos hx]
    exact runP_ret (exs_ret (ex_if_tt hc (ex_ret_ok (ev_var_ok rfl) rfl)))
  · rw [decide_eq_false hx] at hc
    rw [cmv, if_neg hx]
    exact runP_ret ((exs_nx (ex_if_ff hc exs_nil)).trans (ex_ret_ok (ev_call_ok (k := 0) rfl (vs2 (i := 0) (j := 2) rfl rfl) (move_in_ok c s i st hy h hi)) rfl))
def ccl (cs : List Nat) (st : List (List Nat)) (k : Nat) : List (List Nat) := cmv cs st (ps st k)
theorem ccl_good (c s : Nat) (st : List (List Nat)) (hy : GoodY c s) (h : Good c s st) (cs : List Nat) (k : Nat) (hk : k < c) : Good c s (ccl cs st k) :=
  cmv_good c s st hy h cs _ (fi_lt c s k st h hk)
theorem closed_call_ok (c s k : Nat) (st : List (List Nat)) (hy : GoodY c s) (h : Good c s st) (cs : List Nat) (hcs : CS cs s) (hk : k < c) : d_f_closed_call [ydD c s, stD st, trD cs, .int k] = .ok (.pu (stD (ccl cs st k))) :=
  runP_ret ((exs_do (ev_call_ok (k := 0) rfl (vs2 (i := 0) (j := 1) rfl rfl) (need_state_ok c s st hy h))).trans ((exs_do (ev_call_ok (k := 1) rfl (vs2 (i := 0) (j := 2) rfl rfl) (need_closed_ok c s cs hy.s8 hcs))).trans ((exs_do (ev_call_ok (k := 2) rfl (vs2 (i := 0) (j := 3) rfl rfl) (need_car_ok c s k (by omega) (by omega)))).trans (ex_ret_ok (ev_call_ok (k := 3) rfl (evTs_pu (ev_var_ok rfl) (evTs_pu (ev_var_ok rfl) (evTs_pu (ev_call_ok (k := 4) rfl (vs2 (i := 1) (j := 3) rfl rfl) (st_in c s k st hy h hk)) evTs_nil))) (closed_move_ok c s _ st hy h cs (fi_lt c s k st h hk))) rfl))))
theorem ccl_loop (c s : Nat) (hy : GoodY c s) (cs : List Nat) (f : D → TR.Env → R Out) (E : D → Option M → TR.Env)
    (step : ∀ cur (i : Nat) a, Good c s cur → i < c → f (.int i) (E (stD cur) a) = .ok (.nx (E (stD (ccl cs cur i)) (some (.pu (.int i)))))) (is : List Nat) :
    ∀ cur a, Good c s cur → (∀ k ∈ is, k < c) → ∃ a', foLoop f (itD is) (E (stD cur) a) = .ok (.nx (E (stD (is.foldl (ccl cs) cur)) a')) ∧ Good c s (is.foldl (ccl cs) cur) := by
  induction is with
  | nil => intro cur a h _; exact ⟨a, by rw [itD, List.map_nil, foLoop]; rfl, h⟩
  | cons k ks ih =>
    intro cur a h hk
    have hk0 := hk k (by simp)
    obtain ⟨a', h2, h4⟩ := ih (ccl cs cur k) (some (.pu (.int k))) (ccl_good c s cur hy h cs k hk0) (fun j hj => hk j (by simp [hj]))
    refine ⟨a', ?_, h4⟩
    have h3 := step cur k a h hk0
    show foLoop f (.int k :: itD ks) _ = _
    rw [foLoop, h3]
    simp only [bind, R.bind]
    rw [h2]
    rfl
theorem closed_after_ok (c s : Nat) (st : List (List Nat)) (hy : GoodY c s) (h : Good c s st) (cs : List Nat) (hcs : CS cs s) (ks : List Nat) (hk : ∀ k ∈ ks, k < c) (hl : ks.length ≤ 60) : d_f_closed_after [ydD c s, stD st, trD cs, trD ks] = .ok (.pu (stD (ks.foldl (ccl cs) st))) := by
  let E (d : D) (a : Option M) : TR.Env := [some (.pu (ydD c s)), some (.pu d), some (.pu (trD cs)), some (.pu (trD ks)), a]
  have s0 := exs_do (G := g_f_closed_after) (e := .call 0 [(.var 0), (.var 1)]) (r := b_f_closed_after.tail) (ev_call_ok (k := 0) rfl (vs2 (i := 0) (j := 1) (env := E (stD st) none) rfl rfl) (need_state_ok c s st hy h))
  have s1 := exs_do (G := g_f_closed_after) (e := .call 1 [(.var 0), (.var 2)]) (r := b_f_closed_after.drop 2) (ev_call_ok (k := 1) rfl (vs2 (i := 0) (j := 2) (env := E (stD st) none) rfl rfl) (need_closed_ok c s cs hy.s8 hcs))
  have s2 := exs_do (G := g_f_closed_after) (e := .call 2 [(.var 0), (.var 3)]) (r := b_f_closed_after.drop 3) (ev_call_ok (k := 2) rfl (vs2 (i := 0) (j := 3) (env := E (stD st) none) rfl rfl) (need_calls_ok c s ks hk hl))
  obtain ⟨a', h6, _⟩ := ccl_loop c s hy cs (forB g_f_closed_after (.v 4) [(.asg (.v 1) (.call 3 [(.var 1), (.var 2), (.call 4 [(.var 1), (.var 4)])]))]) E (by
    intro cur i a hg hi2
    have h7 : ex g_f_closed_after (.asg (.v 1) (.call 3 [(.var 1), (.var 2), (.call 4 [(.var 1), (.var 4)])])) (E (stD cur) (some (.pu (.int i)))) = .ok (.nx (E (stD (ccl cs cur i)) (some (.pu (.int i))))) :=
      ex_asg_v (i := 1) (m := .pu (stD (ccl cs cur i))) (e2 := E (stD cur) (some (.pu (.int i)))) (ev_call_ok (k := 3) rfl (evTs_pu (ev_var_ok rfl) (evTs_pu (ev_var_ok rfl) (evTs_pu (ev_call_ok (k := 4) rfl (vs2 (i := 1) (j := 4) rfl rfl) (st_in c s i cur hy hg hi2)) evTs_nil))) (closed_move_ok c s _ cur hy hg cs (fi_lt c s i cur hg hi2))) rfl (by show 1 < 5; decide)
    exact (exs_nx h7).trans exs_nil) ks st none h hk
  have s3 : ex g_f_closed_after (b_f_closed_after.getD 3 .pass) (E (stD st) none) = .ok (.nx (E (stD (ks.foldl (ccl cs) st)) a')) :=
    ex_for_ok (m := .pu (trD ks)) (rs := []) (e1 := E (stD st) none) (ev_var_ok rfl) rfl rfl h6
  have s4 : exs g_f_closed_after (b_f_closed_after.drop 4) (E (stD (ks.foldl (ccl cs) st)) a') = .ok (.ret (.pu (stD (ks.foldl (ccl cs) st))) (E (stD (ks.foldl (ccl cs) st)) a')) := ex_ret_ok (ev_var_ok rfl) rfl
  exact runP_ret (s0.trans (s1.trans (s2.trans ((exs_nx s3).trans s4))))
end LB

set_option linter.all false
namespace LB
open PySem TR
def rm (cs : List Nat) (s i : Nat) : Nat := ((List.range s).find? fun d => decide ((i + d + 1) % s ∈ cs)).getD 0
theorem rm_find (cs : List Nat) (s i : Nat) (h : CS cs s) (hi : i < s) : ((List.range s).find? fun d => decide ((i + d + 1) % s ∈ cs)) = some (rm cs s i) := by
  cases hf : (List.range s).find? fun d => decide ((i + d + 1) % s ∈ cs) with
  | some d => rw [rm, hf]; rfl
  | none =>
    exfalso
    obtain ⟨x, hx⟩ := List.exists_mem_of_ne_nil _ h.ne
    have hxs := h.lt x hx
    rw [List.find?_eq_none] at hf
    have := hf ((x + (s - 1 - i)) % s) (by rw [List.mem_range]; exact Nat.mod_lt _ (by omega))
    apply this
    have e : i + (x + (s - 1 - i)) % s + 1 = (i + 1) + (x + (s - 1 - i)) % s := by omega
    rw [e, Nat.add_mod_mod, show i + 1 + (x + (s - 1 - i)) = x + s by omega, Nat.add_mod_right, Nat.mod_eq_of_lt hxs]
    simpa using hx
theorem rm_spec (cs : List Nat) (s i : Nat) (h : CS cs s) (hi : i < s) : (i + rm cs s i + 1) % s ∈ cs ∧ rm cs s i < s ∧ ∀ d < rm cs s i, (i + d + 1) % s ∉ cs := by
  have hf := rm_find cs s i h hi
  have h1 := List.find?_some hf
  have h2 := List.mem_of_find?_eq_some hf
  refine ⟨by simpa using h1, by simpa using h2, fun d hd hin => ?_⟩
  rw [List.find?_eq_some_iff_append] at hf
  obtain ⟨_, as, bs, he, hno⟩ := hf
  have hlen : as.length = rm cs s i := by
    have h3 : (List.range s)[as.length]? = some (rm cs s i) := by rw [he]; simp
    rw [List.getElem?_eq_some_iff] at h3
    obtain ⟨h4, h5⟩ := h3
    simpa using h5
  have hda : d ∈ as := by
    have h3 : (List.range s)[d]? = some d := by rw [List.getElem?_range]; have : rm cs s i < s := by simpa using h2
                                                omega
    rw [he, List.getElem?_append_left (by omega)] at h3
    exact List.mem_of_getElem? h3
  have := hno d hda
  simp [hin] at this
theorem ex_augN_ok {G : List Fn} {y : Nat} {env : TR.Env} {a b : Int} (h1 : env.get y = .ok (.pu (.int a))) : ex G (.augN y .add (.cst (.int b))) env = .ok (.nx (env.set y (some (.pu (.int (a + b)))))) := by
  rw [ex, h1]
  simp only [bind, R.bind]
  rw [ev_cst_ok]
  simp only [bd_add]
theorem wh_ok (C : TR.Env → R (Bool × TR.Env)) (B : TR.Env → R Out) (E : Nat → TR.Env) (N : Nat) (hC : ∀ m ≤ N, C (E m) = .ok (decide (m ≠ N), E m)) (hB : ∀ m < N, B (E m) = .ok (.nx (E (m + 1)))) :
    ∀ n m, m ≤ N → N - m < n → whLoop C B n (E m) = .ok (.nx (E N)) := by
  intro n
  induction n with
  | zero => intro m h1 h2; omega
  | succ n ih =>
    intro m h1 h2
    rw [whLoop, hC m h1]
    simp only [bind, R.bind]
    by_cases e : m = N
    · subst e; simp
    · rw [decide_eq_true e, if_pos rfl, hB m (by omega)]
      exact ih (m + 1) (by omega) (by omega)
theorem room_in_ok (c s i : Nat) (st : List (List Nat)) (hy : GoodY c s) (h : Good c s st) (cs : List Nat) (hcs : CS cs s) (hi : i < s) : d_f_room_in [stD st, trD cs, .int i] = .ok (.pu (.int (rm cs s i : Nat))) := by
  have hs := h.hs
  have hs2 := hy.s2
  have hs8 := hy.s8
  obtain ⟨r1, r2, r3⟩ := rm_spec cs s i hcs hi
  let E (m : Nat) : TR.Env := [some (.pu (stD st)), some (.pu (trD cs)), some (.pu (.int i)), some (.pu (.int m))]
  let e0 : TR.Env := [some (.pu (stD st)), some (.pu (trD cs)), some (.pu (.int i)), none]
  have hlen : bi1 .len (.pu (stD st)) = .ok (.pu (.int s)) := by simp [stD, hs]
  have hc : ∀ m, ev g_f_room_in (.cmp .nin (.bin .mod (.bin .add (.bin .add (.var 2) (.var 3)) (.cst (.int 1))) (.bi .len [(.var 0)])) (.var 1)) (E m) = .ok (.pu (.bool (!decide ((i + m + 1) % s ∈ cs))), [], E m) := fun m =>
    ev_cmp_ok (o := .nin) (ev_bin_ok (ev_bin_ok (ev_bin_ok (ev_var_ok rfl) (ev_var_ok rfl) (bd_add _ _)) ev_cst_ok (bd_add _ _)) (ev_bi1_ok (b := .len) (ev_var_ok rfl) hlen) (mod_nx (i + m) s hs2)) (ev_var_ok rfl) rfl (nin_cs _ _)
  have s1 : ex g_f_room_in (b_f_room_in.getD 0 .pass) e0 = .ok (.nx (E 0)) :=
    ex_asg_v (i := 3) (m := .pu (.int (0 : Nat))) (e2 := e0) ev_cst_ok rfl (by show 3 < 4; decide)
  have s2 : ∀ n, rm cs s i < n → ex g_f_room_in (.whl n (.cmp .nin (.bin .mod (.bin .add (.bin .add (.var 2) (.var 3)) (.cst (.int 1))) (.bi .len [(.var 0)])) (.var 1)) [(.augN 3 .add (.cst (.int 1)))]) (E 0) = .ok (.nx (E (rm cs s i))) := by
    intro n hn
    rw [ex]
    refine wh_ok _ _ E (rm cs s i) (fun m hm => ?_) (fun m hm => ?_) n 0 (Nat.zero_le _) (by omega)
    · rw [hc m]
      simp only [bind, R.bind, boolR]
      rcases Nat.lt_or_ge m (rm cs s i) with h1 | h1
      · rw [decide_eq_false (r3 m h1), decide_eq_true (by omega : m ≠ rm cs s i)]; rfl
      · have : m = rm cs s i := by omega
        rw [this, decide_eq_true r1, decide_eq_false (by simp)]; rfl
    · exact (exs_nx (ex_augN_ok rfl)).trans exs_nil
  exact runP_ret ((exs_nx s1).trans ((exs_nx (s2 1000000 (by omega))).trans (ex_ret_ok (ev_var_ok rfl) rfl)))
def rmP (cs : List Nat) (s : Nat) (st : List (List Nat)) (i : Nat) : Int × Int := ((((st.getD i []).getD 0 0 : Nat) : Int), ((rm cs s i : Nat) : Int))
def rmL (cs : List Nat) (s : Nat) (st : List (List Nat)) (l : List Nat) : List D := (l.map (rmP cs s st)).map pD
theorem trsL_take (st : List (List Nat)) : trsL st = (takS st).map fun i => .tuple [.int (i : Nat), trD (st.getD i [])] := by
  rw [trsL_range, takS, ← filterMap_filter (fun i => PyData.tuple [.int (i : Nat), trD (st.getD i [])])]
  congr 1
  funext i
  by_cases h : st.getD i [] = [] <;> simp [h, -List.getD_eq_getElem?_getD]
theorem takS_mem (st : List (List Nat)) (i : Nat) (h : i ∈ takS st) : i < st.length ∧ st.getD i [] ≠ [] := by
  rw [takS, List.mem_filter] at h
  exact ⟨by simpa using h.1, by simpa using h.2⟩
theorem takS_le (st : List (List Nat)) : (takS st).length ≤ st.length := by
  rw [takS]
  refine Nat.le_trans (List.length_filter_le _ _) ?_
  rw [List.length_range]; exact Nat.le_refl _
theorem sort_pairs (l : List (Int × Int)) (h : l.length ≤ 1000) : bi1 .sorted (.li (l.map pD)) = .ok (.li (sortD (l.map pD))) := by
  have h1 := cmpAll_prs l
  have h2 : sortAll (l.map pD) = true := by
    have h3 : ((l.map pD).all fullTup) = true := by
      rw [List.all_eq_true]; intro x hx; obtain ⟨p, _, rfl⟩ := List.mem_map.1 hx; rfl
    rw [sortAll, h1, h3]
    simp; omega
  show (if sortAll (l.map pD) = true then R.ok (M.li (sortD (l.map pD))) else .bad) = _
  rw [if_pos h2]
theorem rooms_ok (c s : Nat) (st : List (List Nat)) (hy : GoodY c s) (h : Good c s st) (cs : List Nat) (hcs : CS cs s) : d_f_rooms [ydD c s, stD st, trD cs] = .ok (.pu (.tuple (sortD (rmL cs s st (takS st))))) := by
  have hs := h.hs
  have hs8 := hy.s8
  let E (fo : List D) (a4 a5 : Option M) : TR.Env := [some (.pu (ydD c s)), some (.pu (stD st)), some (.pu (trD cs)), some (.li fo), a4, a5]
  let e0 : TR.Env := [some (.pu (ydD c s)), some (.pu (stD st)), some (.pu (trD cs)), none, none, none]
  have s0 := exs_do (G := g_f_rooms) (e := .call 0 [(.var 0), (.var 1)]) (r := b_f_rooms.tail) (ev_call_ok (k := 0) rfl (vs2 (i := 0) (j := 1) (env := e0) rfl rfl) (need_state_ok c s st hy h))
  have s1 := exs_do (G := g_f_rooms) (e := .call 1 [(.var 0), (.var 2)]) (r := b_f_rooms.drop 2) (ev_call_ok (k := 1) rfl (vs2 (i := 0) (j := 2) (env := e0) rfl rfl) (need_closed_ok c s cs hy.s8 hcs))
  have s2 : ex g_f_rooms (b_f_rooms.getD 2 .pass) e0 = .ok (.nx (E [] none none)) :=
    ex_asg_v (i := 3) (m := .li []) (e2 := e0) (ev_lst_ok evTs_nil (Nat.zero_le _)) rfl (by show 3 < 6; decide)
  obtain ⟨e2, h2, a4, a5, rfl⟩ := foLoop_g (f := forB g_f_rooms (.t [(.v 4), (.v 5)]) [(.app 3 (.tup [(.sub (.var 5) (.cst (.int 0))), (.call 3 [(.var 1), (.var 2), (.var 4)])]))]) (fun i : Nat => .tuple [.int (i : Nat), trD (st.getD i [])]) (fun l1 en => ∃ a4 a5, en = E (rmL cs s st l1) a4 a5) (takS st) (by
    intro l1 i l2 he en hen
    obtain ⟨a4, a5, rfl⟩ := hen
    have hmem : i ∈ takS st := by rw [he]; simp
    obtain ⟨hil, hne⟩ := takS_mem st i hmem
    have hl1 : l1.length ≤ s := by
      have := congrArg List.length he
      have h3 := takS_le st
      simp at this; omega
    let E1 : TR.Env := E (rmL cs s st l1) (some (.pu (.int i))) (some (.pu (trD (st.getD i []))))
    have m1 := sub_trD (st.getD i []) 0 (List.length_pos_iff.2 hne)
    have t1 : ex g_f_rooms (.app 3 (.tup [(.sub (.var 5) (.cst (.int 0))), (.call 3 [(.var 1), (.var 2), (.var 4)])])) E1 = .ok (.nx (E (rmL cs s st (l1 ++ [i])) (some (.pu (.int i))) (some (.pu (trD (st.getD i [])))))) := by
      have h3 : rmL cs s st (l1 ++ [i]) = rmL cs s st l1 ++ [.tuple [.int ((st.getD i []).getD 0 0 : Nat), .int (rm cs s i : Nat)]] := by simp [rmL, rmP, pD]
      rw [h3]
      exact ex_app_ok (xs := rmL cs s st l1) rfl (ev_tup_ok (ev2 (ev_sub_ok (ev_var_ok rfl) ev_cst_ok rfl m1 rfl) (ev_call_ok (k := 3) rfl (vs3 rfl rfl rfl) (room_in_ok c s i st hy h cs hcs (by omega)))) two_big) rfl (by simp [rmL]; unfold big; omega)
    exact ⟨_, (exs_nx t1).trans exs_nil, _, _, rfl⟩) (E [] none none) ⟨_, _, rfl⟩
  have htr : ev g_f_rooms (.call 2 [(.var 1)]) (E [] none none) = .ok (.li ((takS st).map fun i : Nat => .tuple [.int (i : Nat), trD (st.getD i [])]), [], E [] none none) := by
    rw [← trsL_take]
    exact ev_call_ok (k := 2) rfl (vs1 rfl) (trains_in_ok st (by omega))
  have s3 : ex g_f_rooms (b_f_rooms.getD 3 .pass) (E [] none none) = .ok (.nx (E (rmL cs s st (takS st)) a4 a5)) :=
    ex_for_ok htr rfl rfl h2
  have hso : bi1 .sorted (.li (rmL cs s st (takS st))) = .ok (.li (sortD (rmL cs s st (takS st)))) :=
    sort_pairs _ (by rw [List.length_map]; have := takS_le st; omega)
  have s4 : exs g_f_rooms (b_f_rooms.drop 4) (E (rmL cs s st (takS st)) a4 a5) = .ok (.ret (.pu (.tuple (sortD (rmL cs s st (takS st))))) (E (rmL cs s st (takS st)) a4 a5)) :=
    ex_ret_ok (ev_bi1_ok (b := .tuple) (ev_bi1_ok (b := .sorted) (ev_ownvar rfl) hso) rfl) rfl
  exact runP_ret (s0.trans (s1.trans ((exs_nx s2).trans ((exs_nx s3).trans s4))))
def carR (cs : List Nat) (s : Nat) (st : List (List Nat)) (c : Nat) : List Nat := (List.range c).map fun k => rm cs s (ps st k)
theorem car_rooms_ok (c s : Nat) (st : List (List Nat)) (hy : GoodY c s) (h : Good c s st) (cs : List Nat) (hcs : CS cs s) : d_f_car_rooms [ydD c s, stD st, trD cs] = .ok (.pu (trD (carR cs s st c))) := by
  have hc7 := hy.c7
  let E (a : Option M) : TR.Env := [some (.pu (ydD c s)), some (.pu (stD st)), some (.pu (trD cs)), a]
  have s0 := exs_do (G := g_f_car_rooms) (e := .call 0 [(.var 0), (.var 1)]) (r := b_f_car_rooms.tail) (ev_call_ok (k := 0) rfl (vs2 (i := 0) (j := 1) (env := E none) rfl rfl) (need_state_ok c s st hy h))
  have s1 := exs_do (G := g_f_car_rooms) (e := .call 1 [(.var 0), (.var 2)]) (r := b_f_car_rooms.drop 2) (ev_call_ok (k := 1) rfl (vs2 (i := 0) (j := 2) (env := E none) rfl rfl) (need_closed_ok c s cs hy.s8 hcs))
  have hr : ev g_f_car_rooms (.rng [(.sub (.var 0) (.cst (.int 0)))]) (E none) = .ok (.li (rngD 0 (c : Nat)), [], E none) := by
    refine ev_rng_ok (ms := [.pu (.int c)]) (rs := []) (e1 := E none) ?_ rfl (rgC_ok _ (by omega))
    rw [evs, ev_sub_ok (m := .pu (.int c)) (e2 := E none) (ev_var_ok rfl) ev_cst_ok rfl rfl rfl]
    simp only [bind, R.bind]
    rw [evs]
    rfl
  rw [rngD_nat] at hr
  obtain ⟨e2, h4, y, rfl⟩ := lcLoop_g (f := lcB g_f_car_rooms [3] (.call 2 [(.var 1), (.var 2), (.call 3 [(.var 1), (.var 3)])]) (.v 3) []) (fun (i : Nat) => .int (i : Int)) (fun k => some (.int (rm cs s (ps st k) : Nat))) (fun en => ∃ y, en = E y) (List.range c) (by
    intro k hk en hen
    obtain ⟨y, rfl⟩ := hen
    have hk : k < c := by simpa using hk
    exact ⟨E (some (.pu (.int k))), lcB_nc rfl (ev_call_ok (k := 2) rfl (evTs_pu (ev_var_ok rfl) (evTs_pu (ev_var_ok rfl) (evTs_pu (ev_call_ok (k := 3) rfl (vs2 (i := 1) (j := 3) rfl rfl) (st_in c s k st hy h hk)) evTs_nil))) (room_in_ok c s _ st hy h cs hcs (fi_lt c s k st h hk))), _, rfl⟩) (E none) ⟨_, rfl⟩
  have h5 : ((List.range c).filterMap fun k => some (PyData.int (rm cs s (ps st k) : Nat))) = itD (carR cs s st c) := by rw [filterMap_some]; simp [itD, carR]
  rw [h5] at h4
  have h6 : ev g_f_car_rooms (.lc false [3] (.call 2 [(.var 1), (.var 2), (.call 3 [(.var 1), (.var 3)])]) (.v 3) (.rng [(.sub (.var 0) (.cst (.int 0)))]) []) (E none) = .ok (.li (itD (carR cs s st c)), [], E none) :=
    ev_lc_ok hr rfl rfl rfl rfl h4 (by simp [itD, carR]; unfold big; omega)
  exact runP_ret (s0.trans (s1.trans (ex_ret_ok (ev_bi1_ok (b := .tuple) h6 rfl) rfl)))
theorem is_shut_ok (c s : Nat) (st : List (List Nat)) (hy : GoodY c s) (h : Good c s st) (cs : List Nat) (hcs : CS cs s) : d_f_is_shut [ydD c s, stD st, trD cs] = .ok (.pu (.bool ((takS st).all fun i => decide ((i + 1) % s ∈ cs)))) := by
  have hs2 := hy.s2
  have hs8 := hy.s8
  have hs := h.hs
  let E (a b : Option M) : TR.Env := [some (.pu (ydD c s)), some (.pu (stD st)), some (.pu (trD cs)), a, b]
  have s0 := exs_do (G := g_f_is_shut) (e := .call 0 [(.var 0), (.var 1)]) (r := b_f_is_shut.tail) (ev_call_ok (k := 0) rfl (vs2 (i := 0) (j := 1) (env := E none none) rfl rfl) (need_state_ok c s st hy h))
  have s1 := exs_do (G := g_f_is_shut) (e := .call 1 [(.var 0), (.var 2)]) (r := b_f_is_shut.drop 2) (ev_call_ok (k := 1) rfl (vs2 (i := 0) (j := 2) (env := E none none) rfl rfl) (need_closed_ok c s cs hy.s8 hcs))
  obtain ⟨e2, h4, a, b, rfl⟩ := lcLoop_g (f := lcB g_f_is_shut [3, 4] (.cmp .inn (.bin .mod (.bin .add (.var 3) (.cst (.int 1))) (.sub (.var 0) (.cst (.int 1)))) (.var 2)) (.t [(.v 3), (.v 4)]) []) (fun i : Nat => .tuple [.int (i : Nat), trD (st.getD i [])]) (fun i => some (.bool (decide ((i + 1) % s ∈ cs)))) (fun en => ∃ a b, en = E a b) (takS st) (by
    intro i hi en hen
    obtain ⟨a, b, rfl⟩ := hen
    let e1 : TR.Env := E (some (.pu (.int i))) (some (.pu (trD (st.getD i []))))
    exact ⟨e1, lcB_nc (e2 := e1) rfl (ev_cmp_ok (o := .inn) (ev_bin_ok (ev_bin_ok (ev_var_ok rfl) ev_cst_ok (bd_add _ _)) (ev_sub_ok (m := .pu (.int s)) (ev_var_ok rfl) ev_cst_ok rfl rfl rfl) (mod_nx i s hs2)) (ev_var_ok rfl) rfl (in_cs _ _)), _, _, rfl⟩) (E none none) ⟨_, _, rfl⟩
  rw [filterMap_some] at h4
  have htr : ev g_f_is_shut (.call 2 [(.var 1)]) (E none none) = .ok (.li ((takS st).map fun i : Nat => .tuple [.int (i : Nat), trD (st.getD i [])]), [], E none none) := by
    rw [← trsL_take]
    exact ev_call_ok (k := 2) rfl (vs1 rfl) (trains_in_ok st (by omega))
  have h6 : ev g_f_is_shut (.lc false [3, 4] (.cmp .inn (.bin .mod (.bin .add (.var 3) (.cst (.int 1))) (.sub (.var 0) (.cst (.int 1)))) (.var 2)) (.t [(.v 3), (.v 4)]) (.call 2 [(.var 1)]) []) (E none none) = .ok (.li ((takS st).map fun i => .bool (decide ((i + 1) % s ∈ cs))), [], E none none) :=
    ev_lc_ok htr rfl rfl rfl rfl h4 (by rw [List.length_map]; have := takS_le st; unfold big; omega)
  have h7 : bi1 .all (.li ((takS st).map fun i => .bool (decide ((i + 1) % s ∈ cs)))) = .ok (.pu (.bool ((takS st).all fun i => decide ((i + 1) % s ∈ cs)))) := by
    have h5 := boolsD_map ((takS st).map fun i => decide ((i + 1) % s ∈ cs))
    simp only [List.map_map, Function.comp_def] at h5
    simp only [bi1, quaM, M.lst, bind, R.bind]
    rw [h5]
    simp
  exact runP_ret (s0.trans (s1.trans (ex_ret_ok (ev_bi1_ok (b := .all) h6 h7) rfl)))
end LB

set_option linter.all false
namespace LB
open PySem TR
theorem ev_lc2_ok {G : List Fn} {vs vs1 : List Nat} {elt it it1 : E} {p p1 : P} {cs1 : List E} {env e1 e2 : TR.Env} {m : M} {rs : List Nat} {xs ys : List D} (h : ev G it env = .ok (m, rs, e1)) (hs : itR m = .ok xs)
    (hd : (den e1 vs && subs p.slots vs && subs vs1 vs && subs p1.slots vs1 && apart rs (muE it1 ++ muT elt ++ muEs cs1 ++ vs)) = true) (h2 : lc2Loop (lc2F G vs vs1 elt p it1 p1 cs1) xs e1 = .ok (ys, e2)) (hb : ys.length ≤ big) : ev G (.lc2 vs vs1 elt p it p1 it1 cs1) env = .ok (.li ys, [], backE e2 e1 vs) := by
  rw [ev, h]
  simp only [bind, R.bind]
  rw [hs]
  simp only
  rw [if_pos hd]
  have h3 : lc2Loop (lc2F G vs vs1 elt p it1 p1 cs1) xs e1 = _ := h2
  unfold lc2F lcF at h3
  simp only [bind, R.bind] at h3
  rw [h3]
  simp only
  rw [if_pos hb]
theorem lcF_eq (G : List Fn) (vs : List Nat) (elt : E) (p : P) (cs : List E) : lcF G vs elt p cs = lcB G vs elt p cs := rfl
theorem lc2F_ok {G : List Fn} {vs vs1 : List Nat} {elt it1 : E} {p p1 : P} {cs1 : List E} {x : D} {en e2 e3 e4 : TR.Env} {m : M} {rs : List Nat} {xs ys : List D} (hb : bindP p x (wipeE en vs) = .ok e2) (h : ev G it1 e2 = .ok (m, rs, e3)) (hs : itR m = .ok xs)
    (hd : (den e3 vs1 && apart rs (muT elt ++ muEs cs1 ++ vs1)) = true) (h2 : lcLoop (lcB G vs1 elt p1 cs1) xs e3 = .ok (ys, e4)) : lc2F G vs vs1 elt p it1 p1 cs1 x en = .ok (ys, e4) := by
  rw [lc2F, hb]
  simp only [bind, R.bind]
  rw [h]
  simp only
  rw [hs]
  simp only
  rw [if_pos hd, lcF_eq]
  exact h2
theorem lc2Loop_g {α : Type} {f : D → TR.Env → R (List D × TR.Env)} (h : α → D) (g : α → List D) (I : TR.Env → Prop) (l : List α)
    (H : ∀ a ∈ l, ∀ en, I en → ∃ e2, f (h a) en = .ok (g a, e2) ∧ I e2) : ∀ env, I env → ∃ e2, lc2Loop f (l.map h) env = .ok (l.flatMap g, e2) ∧ I e2 := by
  induction l with
  | nil => intro env h0; exact ⟨env, by simp [lc2Loop], h0⟩
  | cons x xs ih =>
    intro env h0
    obtain ⟨e2, h1, h2⟩ := H x (by simp) env h0
    obtain ⟨e3, h3, h4⟩ := ih (fun y hy => H y (by simp [hy])) e2 h2
    exact ⟨e3, by simp [lc2Loop, h1, h3], h4⟩
theorem ev_rvd_ok {G : List Fn} {a : E} {env e1 : TR.Env} {m : M} {rs : List Nat} {xs : List D} (h : ev G a env = .ok (m, rs, e1)) (h2 : m.seq = .ok xs) : ev G (.rvd a) env = .ok (.li xs.reverse, rs, e1) := by
  rw [ev, h]
  simp only [bind, R.bind]
  rw [h2]
theorem ev_rev_ok {G : List Fn} {a : E} {env e1 : TR.Env} {m m2 : M} {rs : List Nat} (h : ev G a env = .ok (m, rs, e1)) (h2 : revD m = .ok m2) : ev G (.rev a) env = .ok (m2, [], e1) := by
  rw [ev, h]
  simp only [bind, R.bind]
  rw [h2]
theorem shaped_int (i : Int) : SeqAt.shaped (.int i) = true := by
  simp [SeqAt.shaped, PyData.canLay0, PyData.depth]
theorem shaped_bool (i : Bool) : SeqAt.shaped (.bool i) = true := by
  simp [SeqAt.shaped, PyData.canLay0, PyData.depth]
theorem shaped_flat (xs : List D) (h : ∀ x ∈ xs, x.canLay0 = true ∧ x.depth ≤ 3) : SeqAt.shaped (.list xs) = true := by
  have h1 : PyData.canLayAll0 xs = true := by
    induction xs with
    | nil => simp [PyData.canLayAll0]
    | cons a l ih => simp [PyData.canLayAll0, (h a (by simp)).1, ih fun x hx => h x (by simp [hx])]
  have h2 : PyData.depthAll xs ≤ 3 := depthAll_of 3 _ fun x hx => (h x hx).2
  simp [SeqAt.shaped, PyData.canLay0, h1, PyData.depth]
  omega
theorem shaped_itD (l : List Nat) : SeqAt.shaped (.list (itD l)) = true := shaped_flat _ fun x hx => by
  obtain ⟨p, _, rfl⟩ := List.mem_map.1 hx
  simp [PyData.canLay0, PyData.depth]
theorem shaped_bools (l : List Bool) : SeqAt.shaped (.list (l.map .bool)) = true := shaped_flat _ fun x hx => by
  obtain ⟨p, _, rfl⟩ := List.mem_map.1 hx
  simp [PyData.canLay0, PyData.depth]
theorem idx_itD (l : List Nat) (k : Nat) (h : k ∈ l) : mtD .index (.li (itD l)) [.pu (.int (k : Nat))] = .ok (.pu (.int (l.findIdx (· == k) : Nat))) := by
  have h1 : idxD (itD l) (.int (k : Nat)) = some (l.findIdx (· == k)) := by
    rw [idxD, itD, List.findIdx?_map]
    have e : ((fun y => PyData.eqv y (.int (k : Nat))) ∘ fun (c : Nat) => PyData.int (c : Nat)) = fun c => c == k := by
      funext c
      simp only [Function.comp, eqv_nat]
      rw [Bool.eq_iff_iff]; simp
    rw [e, List.findIdx?_eq_some_iff_findIdx_eq]
    exact ⟨List.findIdx_lt_length_of_exists ⟨k, h, by simp⟩, rfl⟩
  simp only [mtD, idxM, M.lst, bind, R.bind]
  rw [shaped_int, shaped_itD, h1]
  rfl
theorem idx_bools (l : List Bool) (h : true ∈ l) : mtD .index (.li (l.map .bool)) [.pu (.bool true)] = .ok (.pu (.int (l.findIdx (· == true) : Nat))) := by
  have h1 : idxD (l.map .bool) (.bool true) = some (l.findIdx (· == true)) := by
    rw [idxD, List.findIdx?_map]
    have e : ((fun y => PyData.eqv y (.bool true)) ∘ PyData.bool) = fun c => c == true := by
      funext c
      simp only [Function.comp, eqv_bool]
    rw [e, List.findIdx?_eq_some_iff_findIdx_eq]
    exact ⟨List.findIdx_lt_length_of_exists ⟨true, h, by simp⟩, rfl⟩
  simp only [mtD, idxM, M.lst, bind, R.bind]
  rw [shaped_bool, shaped_bools, h1]
  rfl
theorem ev_slc_hi_li {G : List Fn} {a b : E} {xs : List D} {i : Int} {ra rb : List Nat} {env : TR.Env} (h : ev G a env = .ok (.li xs, ra, env)) (h2 : ev G b env = .ok (.pu (.int i), rb, env)) (ha : apart ra (muO none ++ muO (some b)) = true) : ev G (.slc a none (some b)) env = .ok (.li (cutD xs none (some i)), [], env) := by
  rw [ev, h]
  simp only [bind, R.bind]
  rw [evO]
  simp only []
  rw [evO, h2]
  simp only [bind, R.bind, intR]
  rw [if_pos ha]
  rfl
theorem ev_slc_lo_li {G : List Fn} {a b : E} {xs : List D} {i : Int} {ra rb : List Nat} {env : TR.Env} (h : ev G a env = .ok (.li xs, ra, env)) (h2 : ev G b env = .ok (.pu (.int i), rb, env)) (ha : apart ra (muO (some b) ++ muO none) = true) : ev G (.slc a (some b) none) env = .ok (.li (cutD xs (some i) none), [], env) := by
  rw [ev, h]
  simp only [bind, R.bind]
  rw [evO, h2]
  simp only [bind, R.bind, intR]
  rw [evO]
  simp only []
  rw [if_pos ha]
  rfl
theorem bd_li (xs ys : List D) (h : xs.length + ys.length ≤ 1000) : binD .add (.li xs) (.li ys) = .ok (.li (xs ++ ys)) := by
  simp only [binD]
  rw [if_pos (by unfold big; omega)]
/-- a list turned to a place -/
def trn {α : Type} (l : List α) (i : Nat) : List α := l.drop i ++ l.take i
/-- y[at:] + y[:at] -/
theorem ev_turn {G : List Fn} {y z : Nat} {xs : List D} {i : Nat} {env : TR.Env} (h : env.get y = .ok (.li xs)) (h2 : env.get z = .ok (.pu (.int (i : Nat)))) (hi : i ≤ xs.length) (hl : xs.length ≤ 900) :
    ev G (.bin .add (.slc (.var y) (some (.var z)) none) (.slc (.var y) none (some (.var z)))) env = .ok (.li (trn xs i), [], env) := by
  have h3 := ev_slc_lo_li (G := G) (a := .var y) (b := .var z) (ev_ownvar h) (ev_var_ok h2) (by simp [apart, muO, muE])
  have h4 := ev_slc_hi_li (G := G) (a := .var y) (b := .var z) (ev_ownvar h) (ev_var_ok h2) (by simp [apart, muO, muE])
  rw [cut_drop _ _ hi] at h3
  rw [cut_take _ _ hi] at h4
  exact ev_bin_ok h3 h4 (bd_li _ _ (by rw [List.length_drop, List.length_take]; omega))
theorem trn_map {α β : Type} (f : α → β) (l : List α) (i : Nat) : trn (l.map f) i = (trn l i).map f := by
  simp [trn, List.map_drop, List.map_take]
/-- all cars from station to station against their way -/
def fl (st : List (List Nat)) : List Nat := st.reverse.flatten
/-- from car 0 on -/
def rot0 (l : List Nat) : List Nat := trn l (l.findIdx (· == 0))
def wrd (st : List (List Nat)) : List Nat := rot0 (fl st)
theorem fl_perm (c s : Nat) (st : List (List Nat)) (h : Good c s st) : (fl st).Perm (List.range c) :=
  ((List.reverse_perm st).flatten).trans h.hc
theorem fl_len (c s : Nat) (st : List (List Nat)) (h : Good c s st) : (fl st).length = c := by
  have := (fl_perm c s st h).length_eq
  simpa using this
theorem fl_zero (c s : Nat) (st : List (List Nat)) (hy : GoodY c s) (h : Good c s st) : 0 ∈ fl st :=
  (fl_perm c s st h).mem_iff.2 (List.mem_range.2 hy.c1)
theorem rot0_D (l : List Nat) : trn (itD l) (l.findIdx (· == 0)) = itD (rot0 l) := trn_map _ _ _
theorem fi0_le (l : List Nat) : l.findIdx (· == 0) ≤ l.length := List.findIdx_le_length
theorem word_read (st : List (List Nat)) (hb : (fl st).length ≤ 900) (a1 a4 : Option M) : ev g_f_word_in (.lc2 [2, 3] [3] (.var 3) (.v 2) (.rvd (.var 0)) (.v 3) (.var 2) []) [some (.pu (stD st)), a1, none, none, a4] = .ok (.li (itD (fl st)), [], [some (.pu (stD st)), a1, none, none, a4]) := by
  let E (a b : Option M) : TR.Env := [some (.pu (stD st)), a1, a, b, a4]
  have hin : ∀ t : List Nat, ∀ b, ∃ b', lcLoop (lcB g_f_word_in [3] (.var 3) (.v 3) []) (itD t) (E (some (.pu (trD t))) b) = .ok (itD t, E (some (.pu (trD t))) b') := by
    intro t b
    obtain ⟨e2, h1, b', rfl⟩ := lcLoop_g (f := lcB g_f_word_in [3] (.var 3) (.v 3) []) (fun (k : Nat) => .int (k : Nat)) (fun k => some (.int (k : Nat))) (fun en => ∃ b, en = E (some (.pu (trD t))) b) t (by
      intro k hk en hen
      obtain ⟨b, rfl⟩ := hen
      exact ⟨E (some (.pu (trD t))) (some (.pu (.int (k : Nat)))), lcB_nc rfl (ev_var_ok rfl), _, rfl⟩) _ ⟨b, rfl⟩
    refine ⟨b', ?_⟩
    rw [filterMap_some] at h1
    exact h1
  obtain ⟨e2, h1, a', b', rfl⟩ := lc2Loop_g (f := lc2F g_f_word_in [2, 3] [3] (.var 3) (.v 2) (.var 2) (.v 3) []) trD itD (fun en => ∃ a b, en = E a b) st.reverse (by
    intro t ht en hen
    obtain ⟨a, b, rfl⟩ := hen
    obtain ⟨b', h2⟩ := hin t none
    exact ⟨E (some (.pu (trD t))) b', lc2F_ok (e2 := E (some (.pu (trD t))) none) (e3 := E (some (.pu (trD t))) none) rfl (ev_var_ok rfl) rfl rfl h2, _, _, rfl⟩) (E none none) ⟨_, _, rfl⟩
  have e : st.reverse.flatMap itD = itD (fl st) := by
    rw [fl, itD, List.map_flatten, List.flatMap]
    rfl
  rw [e, List.map_reverse] at h1
  exact ev_lc2_ok (m := .li (st.map trD).reverse) (rs := []) (e1 := E none none) (ev_rvd_ok (ev_var_ok rfl) rfl) rfl rfl h1 (by rw [itD_len]; unfold big; omega)
theorem word_in_ok (c s : Nat) (st : List (List Nat)) (hy : GoodY c s) (h : Good c s st) : d_f_word_in [stD st] = .ok (.pu (trD (wrd st))) := by
  have hc7 := hy.c7
  have hl := fl_len c s st h
  let E (a b : Option M) : TR.Env := [some (.pu (stD st)), a, none, none, b]
  have s1 : ex g_f_word_in (b_f_word_in.getD 0 .pass) (E none none) = .ok (.nx (E (some (.li (itD (fl st)))) none)) :=
    ex_asg_v (i := 1) (m := .li (itD (fl st))) (e2 := E none none) (word_read st (by omega) none none) rfl (by show 1 < 5; decide)
  have s2 : ex g_f_word_in (b_f_word_in.getD 1 .pass) (E (some (.li (itD (fl st)))) none) = .ok (.nx (E (some (.li (itD (fl st)))) (some (.pu (.int ((fl st).findIdx (· == 0) : Nat)))))) :=
    ex_asg_v (i := 4) (m := .pu (.int ((fl st).findIdx (· == 0) : Nat))) (e2 := E (some (.li (itD (fl st)))) none) (ev_mt1_ok (k := .index) (ev_ownvar rfl) ev_cst_ok (by simp [apart, muEs, muE]) (idx_itD _ 0 (fl_zero c s st hy h))) rfl (by show 4 < 5; decide)
  have h3 := ev_turn (G := g_f_word_in) (y := 1) (z := 4) (xs := itD (fl st)) (i := (fl st).findIdx (· == 0)) (env := E (some (.li (itD (fl st)))) (some (.pu (.int ((fl st).findIdx (· == 0) : Nat))))) rfl rfl (by rw [itD_len]; exact fi0_le _) (by rw [itD_len]; omega)
  rw [rot0_D] at h3
  exact runP_ret ((exs_nx s1).trans ((exs_nx s2).trans (ex_ret_ok (ev_bi1_ok (b := .tuple) h3 rfl) rfl)))
theorem rd_loop (f : D → TR.Env → R Out) (E : List D → Option M → TR.Env)
    (step : ∀ (acc : List Nat) (t : List Nat) a, acc.length + t.length ≤ 900 → f (trD t) (E (itD acc) a) = .ok (.nx (E (itD (acc ++ t)) (some (.pu (trD t)))))) (ts : List (List Nat)) :
    ∀ (acc : List Nat) a, acc.length + ts.flatten.length ≤ 900 → ∃ a', foLoop f (ts.map trD) (E (itD acc) a) = .ok (.nx (E (itD (acc ++ ts.flatten)) a')) := by
  induction ts with
  | nil => intro acc a _; exact ⟨a, by rw [List.map_nil, foLoop, List.flatten_nil, List.append_nil]⟩
  | cons t ts ih =>
    intro acc a hl
    rw [List.flatten_cons, List.length_append] at hl
    obtain ⟨a', h2⟩ := ih (acc ++ t) (some (.pu (trD t))) (by rw [List.length_append]; omega)
    refine ⟨a', ?_⟩
    rw [List.map_cons, foLoop, step acc t a (by omega)]
    simp only [bind, R.bind]
    rw [h2, List.flatten_cons, List.append_assoc]
theorem L_word_ok (c s : Nat) (st : List (List Nat)) (hy : GoodY c s) (h : Good c s st) : d_L_word [stD st] = .ok (.pu (trD (wrd st))) := by
  have hc7 := hy.c7
  have hl := fl_len c s st h
  let E (x : List D) (a b : Option M) : TR.Env := [some (.pu (stD st)), some (.li x), a, b]
  have s1 : ex g_L_word (b_L_word.getD 0 .pass) [some (.pu (stD st)), none, none, none] = .ok (.nx (E [] none none)) :=
    ex_asg_v (i := 1) (m := .li []) (e2 := [some (.pu (stD st)), none, none, none]) (ev_lst_ok evTs_nil (Nat.zero_le _)) rfl (by show 1 < 4; decide)
  obtain ⟨a', h2⟩ := rd_loop (forB g_L_word (.v 2) [(.asg (.v 1) (.bin .add (.var 1) (.bi .list [(.var 2)])))]) (fun x a => E x a none) (by
    intro acc t a hl
    have h3 : ex g_L_word (.asg (.v 1) (.bin .add (.var 1) (.bi .list [(.var 2)]))) (E (itD acc) (some (.pu (trD t))) none) = .ok (.nx (E (itD (acc ++ t)) (some (.pu (trD t))) none)) := by
      refine ex_asg_v (i := 1) (m := .li (itD (acc ++ t))) (e2 := E (itD acc) (some (.pu (trD t))) none) (ev_bin_ok' (m := .li (itD (acc ++ t))) (ev_ownvar rfl) (ev_bi1_ok (b := .list) (m := .li (itD t)) (ev_var_ok rfl) rfl) (by simp [apart, muEs, muE]) ?_) rfl (by show 1 < 4; decide)
      rw [bd_li _ _ (by rw [itD_len, itD_len]; omega)]
      simp [itD]
    exact (exs_nx h3).trans exs_nil) st.reverse [] none (by simp only [List.length_nil]; have : (fl st).length = st.reverse.flatten.length := rfl; omega)
  have s2 : ex g_L_word (b_L_word.getD 1 .pass) (E [] none none) = .ok (.nx (E (itD (fl st)) a' none)) := by
    rw [List.map_reverse] at h2
    exact ex_for_ok (m := .pu (.tuple (st.map trD).reverse)) (rs := []) (e1 := E [] none none) (ev_rev_ok (ev_var_ok rfl) rfl) rfl rfl h2
  have s3 : ex g_L_word (b_L_word.getD 2 .pass) (E (itD (fl st)) a' none) = .ok (.nx (E (itD (fl st)) a' (some (.pu (.int ((fl st).findIdx (· == 0) : Nat)))))) :=
    ex_asg_v (i := 3) (m := .pu (.int ((fl st).findIdx (· == 0) : Nat))) (e2 := E (itD (fl st)) a' none) (ev_mt1_ok (k := .index) (ev_ownvar rfl) ev_cst_ok (by simp [apart, muEs, muE]) (idx_itD _ 0 (fl_zero c s st hy h))) rfl (by show 3 < 4; decide)
  have h3 := ev_turn (G := g_L_word) (y := 1) (z := 3) (xs := itD (fl st)) (i := (fl st).findIdx (· == 0)) (env := E (itD (fl st)) a' (some (.pu (.int ((fl st).findIdx (· == 0) : Nat))))) rfl rfl (by rw [itD_len]; exact fi0_le _) (by rw [itD_len]; omega)
  rw [rot0_D] at h3
  exact runP_ret ((exs_nx s1).trans ((exs_nx s2).trans ((exs_nx s3).trans (ex_ret_ok (ev_bi1_ok (b := .tuple) h3 rfl) rfl))))
theorem ring_word_ok (c s : Nat) (st : List (List Nat)) (hy : GoodY c s) (h : Good c s st) : d_f_ring_word [ydD c s, stD st] = .ok (.pu (trD (wrd st))) :=
  runP_ret ((exs_do (ev_call_ok (k := 0) rfl (vs2 (i := 0) (j := 1) rfl rfl) (need_state_ok c s st hy h))).trans (ex_ret_ok (ev_call_ok (k := 1) rfl (vs1 (i := 1) rfl) (word_in_ok c s st hy h)) rfl))
theorem same_ring_ok (c s : Nat) (st st2 : List (List Nat)) (hy : GoodY c s) (h : Good c s st) (h2 : Good c s st2) : d_f_same_ring [ydD c s, stD st, stD st2] = .ok (.pu (.bool (decide (wrd st = wrd st2)))) := by
  have hc7 := hy.c7
  exact runP_ret ((exs_do (ev_call_ok (k := 0) rfl (vs2 (i := 0) (j := 1) rfl rfl) (need_state_ok c s st hy h))).trans ((exs_do (ev_call_ok (k := 1) rfl (vs2 (i := 0) (j := 2) rfl rfl) (need_trains_ok c s st2 hc7 h2))).trans
    (ex_ret_ok (ev_cmp_ok (o := .eq) (ev_call_ok (k := 2) rfl (vs1 (i := 1) rfl) (word_in_ok c s st hy h)) (ev_call_ok (k := 2) rfl (vs1 (i := 2) rfl) (word_in_ok c s st2 hy h2)) rfl (cmp_tr _ _)) rfl)))
end LB

set_option linter.all false
namespace LB
open PySem TR
theorem forB_v {G : List Fn} {i : Nat} {body : List S} {x : D} {en : TR.Env} (h : i < en.length) : forB G (.v i) body x en = exs G body (en.set i (some (.pu x))) := by
  rw [forB, bindP, if_pos h]
  rfl
theorem fi_app (t r : List Nat) (p : Nat → Bool) (h : ∃ x ∈ t, p x = true) : (t ++ r).findIdx p = t.findIdx p := by
  rw [List.findIdx_append, if_pos (List.findIdx_lt_length_of_exists h)]
theorem fi_app2 (t r : List Nat) (p : Nat → Bool) (h : ∀ x ∈ t, p x = false) : (t ++ r).findIdx p = r.findIdx p + t.length := by
  have h1 : ¬ t.findIdx p < t.length := by
    intro hh
    have := List.findIdx_getElem (w := hh)
    rw [h _ (List.getElem_mem _)] at this
    cases this
  rw [List.findIdx_append, if_neg h1]
/-- where 0 stands once, a list and the list turned read alike from 0 on -/
theorem rot0_swap (t r : List Nat) (hn : (t ++ r).Nodup) (h0 : 0 ∈ t ++ r) : rot0 (r ++ t) = rot0 (t ++ r) := by
  have key : ∀ t r : List Nat, (t ++ r).Nodup → 0 ∈ t → rot0 (r ++ t) = rot0 (t ++ r) := by
    intro t r hn h0
    have hr : ∀ x ∈ r, (x == 0) = false := by
      intro x hx
      have := (List.nodup_append.1 hn).2.2 0 h0 x hx
      simp; exact fun e => this e.symm
    have hk : t.findIdx (· == 0) ≤ t.length := List.findIdx_le_length
    unfold rot0 trn
    rw [fi_app t r _ ⟨0, h0, rfl⟩, fi_app2 r t _ hr, List.drop_append_of_le_length hk, List.take_append_of_le_length hk]
    rw [Nat.add_comm, List.drop_append, List.take_append]
    rw [List.drop_of_length_le (l := r) (by omega), List.take_of_length_le (l := r) (by omega)]
    simp
  rcases List.mem_append.1 h0 with h | h
  · exact key t r hn h
  · refine (key r t ?_ h).symm
    exact (List.perm_append_comm.nodup_iff).1 hn
theorem split_at (st : List (List Nat)) (i : Nat) (hi : i + 1 < st.length) : ∃ A x y B, st = A ++ [x, y] ++ B ∧ A.length = i := by
  refine ⟨st.take i, st[i], st[i + 1], st.drop (i + 2), ?_, by rw [List.length_take]; omega⟩
  rw [List.append_assoc]
  show st = st.take i ++ (st[i] :: st[i + 1] :: st.drop (i + 2))
  rw [← List.drop_eq_getElem_cons, ← List.drop_eq_getElem_cons, List.take_append_drop]
theorem mv_mid (A : List (List Nat)) (x y : List Nat) (B : List (List Nat)) : mv (A ++ [x, y] ++ B) A.length = A ++ [[], y ++ x] ++ B := by
  have hl : (A ++ [x, y] ++ B).length = A.length + 2 + B.length := by simp; omega
  have hn : nxt (A ++ [x, y] ++ B) A.length = A.length + 1 := by
    rw [nxt, hl, Nat.mod_eq_of_lt (by omega)]
  have g1 : (A ++ [x, y] ++ B).getD (A.length + 1) [] = y := by
    simp [List.getD_eq_getElem?_getD]
  have g2 : (A ++ [x, y] ++ B).getD A.length [] = x := by
    simp [List.getD_eq_getElem?_getD]
  rw [mv, hn, g1, g2]
  simp
theorem mv_end (y : List Nat) (A : List (List Nat)) (x : List Nat) : mv (y :: A ++ [x]) (A.length + 1) = (y ++ x) :: A ++ [[]] := by
  have hl : (y :: A ++ [x]).length = A.length + 2 := by simp
  have hn : nxt (y :: A ++ [x]) (A.length + 1) = 0 := by
    rw [nxt, hl, Nat.mod_self]
  have g2 : (y :: A ++ [x]).getD (A.length + 1) [] = x := by
    simp [List.getD_eq_getElem?_getD]
  rw [mv, hn, g2]
  simp
theorem wrd_mv (c s : Nat) (st : List (List Nat)) (hy : GoodY c s) (h : Good c s st) (i : Nat) (hi : i < s) : wrd (mv st i) = wrd st := by
  have hs := h.hs
  have hs2 := hy.s2
  have hnd : (fl st).Nodup := (fl_perm c s st h).nodup_iff.2 List.nodup_range
  have h0 := fl_zero c s st hy h
  by_cases h1 : i + 1 < st.length
  · obtain ⟨A, x, y, B, e, rfl⟩ := split_at st i h1
    subst e
    rw [mv_mid]
    simp [wrd, fl]
  · have e : ∃ y A x, st = y :: A ++ [x] ∧ i = A.length + 1 := by
      cases st with
      | nil => simp at hs; omega
      | cons y st2 =>
        have hne : st2 ≠ [] := by intro e; subst e; simp at hs; omega
        refine ⟨y, st2.dropLast, st2.getLast hne, by rw [List.cons_append, List.dropLast_concat_getLast], ?_⟩
        rw [List.length_dropLast]
        simp at h1 hs
        have := List.length_pos_iff.2 hne
        omega
    obtain ⟨y, A, x, rfl, rfl⟩ := e
    rw [mv_end]
    have e1 : fl (y :: A ++ [x]) = x ++ (A.reverse.flatten ++ y) := by simp [fl]
    have e2 : fl ((y ++ x) :: A ++ [[]]) = (A.reverse.flatten ++ y) ++ x := by simp [fl]
    rw [wrd, wrd, e1, e2]
    rw [e1] at hnd h0
    exact rot0_swap _ _ hnd h0
theorem wrd_cl (c s : Nat) (st : List (List Nat)) (hy : GoodY c s) (h : Good c s st) (k : Nat) (hk : k < c) : wrd (cl st k) = wrd st := wrd_mv c s st hy h _ (fi_lt c s k st h hk)
theorem wrd_fin (c s : Nat) (hy : GoodY c s) (ks : List Nat) (hk : ∀ k ∈ ks, k < c) : ∀ st, Good c s st → wrd (fin st ks) = wrd st := by
  induction ks with
  | nil => intro st h; rfl
  | cons k ks ih =>
    intro st h
    show wrd (fin (cl st k) ks) = _
    rw [ih (fun j hj => hk j (by simp [hj])) _ (cl_good c s k st hy h (hk k (by simp))), wrd_cl c s st hy h k (hk k (by simp))]
theorem cl_loop (c s : Nat) (hy : GoodY c s) (f : D → TR.Env → R Out) (E : D → Option M → TR.Env)
    (step : ∀ cur (i : Nat) a, Good c s cur → i < c → f (.int i) (E (stD cur) a) = .ok (.nx (E (stD (cl cur i)) (some (.pu (.int i)))))) (is : List Nat) :
    ∀ cur a, Good c s cur → (∀ k ∈ is, k < c) → ∃ a', foLoop f (itD is) (E (stD cur) a) = .ok (.nx (E (stD (fin cur is)) a')) := by
  induction is with
  | nil => intro cur a _ _; exact ⟨a, by rw [itD, List.map_nil, foLoop]; rfl⟩
  | cons k ks ih =>
    intro cur a h hk
    have hk0 := hk k (by simp)
    obtain ⟨a', h2⟩ := ih (cl cur k) (some (.pu (.int k))) (cl_good c s k cur hy h hk0) (fun j hj => hk j (by simp [hj]))
    refine ⟨a', ?_⟩
    have h3 := step cur k a h hk0
    show foLoop f (.int k :: itD ks) _ = _
    rw [foLoop, h3]
    simp only [bind, R.bind]
    rw [h2]
    rfl
theorem L_done_ok (c s : Nat) (st : List (List Nat)) (ks : List Nat) (hy : GoodY c s) (h : Good c s st) (hk : ∀ k ∈ ks, k < c) : d_L_done [stD st, trD ks] = .ok (.pu (stD (fin st ks))) := by
  let E (d : D) (a : Option M) : TR.Env := [some (.pu d), some (.pu (trD ks)), a]
  obtain ⟨a', h2⟩ := cl_loop c s hy (forB g_L_done (.v 2) [(.asg (.v 0) (.call 0 [(.var 0), (.var 2)]))]) E (by
    intro cur i a hg hi
    have h3 : ex g_L_done (.asg (.v 0) (.call 0 [(.var 0), (.var 2)])) (E (stD cur) (some (.pu (.int i)))) = .ok (.nx (E (stD (cl cur i)) (some (.pu (.int i))))) :=
      ex_asg_v (i := 0) (m := .pu (stD (cl cur i))) (e2 := E (stD cur) (some (.pu (.int i)))) (ev_call_ok (k := 0) rfl (vs2 rfl rfl) (L_call_ok c s i cur hy hg hi)) rfl (by show 0 < 3; decide)
    exact (forB_v (by show 2 < 3; decide)).trans ((exs_nx h3).trans exs_nil)) ks st none h hk
  have s1 : ex g_L_done (b_L_done.getD 0 .pass) (E (stD st) none) = .ok (.nx (E (stD (fin st ks)) a')) :=
    ex_for_ok (m := .pu (trD ks)) (rs := []) (e1 := E (stD st) none) (ev_var_ok rfl) rfl rfl h2
  exact runP_ret ((exs_nx s1).trans (ex_ret_ok (ev_var_ok rfl) rfl))
end LB

set_option linter.all false
namespace LB
open PySem TR
/-- ascending -/
def srt (l : List Nat) : List Nat := l.mergeSort fun a b => decide (a ≤ b)
theorem dataLe_int (a b : Nat) : W.dataLe false id (.int (a : Nat)) (.int (b : Nat)) = decide (a ≤ b) := by
  simp [W.dataLe, W.sortLe, W.keyToks, PyProof.Rows.listOrd, PyProof.Rows.lexLt, PyProof.Rows.itemOrd, PyProof.Rows.itemLt]
  rw [Bool.eq_iff_iff]; simp
theorem sortD_itD (l : List Nat) : sortD (itD l) = itD (srt l) := by
  rw [sortD, itD, itD, srt]
  refine (List.map_mergeSort fun a _ b _ => ?_).symm
  exact (dataLe_int a b).symm
theorem srt_perm (a b : List Nat) (h : a.Perm b) : srt a = srt b := by
  have tr : ∀ a b c : Nat, decide (a ≤ b) = true → decide (b ≤ c) = true → decide (a ≤ c) = true := by
    intro a b c; simp only [decide_eq_true_eq]; omega
  have to : ∀ a b : Nat, (decide (a ≤ b) || decide (b ≤ a)) = true := by
    intro a b; simp only [Bool.or_eq_true, decide_eq_true_eq]; omega
  refine List.Perm.eq_of_pairwise (le := fun a b => decide (a ≤ b) = true) ?_ (List.pairwise_mergeSort tr to _) (List.pairwise_mergeSort tr to _) (((List.mergeSort_perm a _).trans h).trans (List.mergeSort_perm b _).symm)
  intro x y _ _; simp only [decide_eq_true_eq]; omega
theorem sort_ints (l : List Nat) (h : l.length ≤ 1000) : bi1 .sorted (.li (itD l)) = .ok (.li (itD (srt l))) := by
  have h1 : cmpAll (itD l) = true := by
    have := cmpAll_ints (l.map fun (c : Nat) => (c : Int))
    rw [List.map_map] at this
    exact this
  have h2 : sortAll (itD l) = true := by
    have h3 : ((itD l).all fun x => !isTup x) = true := by
      rw [List.all_eq_true]; intro x hx; obtain ⟨p, _, rfl⟩ := List.mem_map.1 hx; rfl
    rw [sortAll, h1, h3, itD_len]
    simp; omega
  show (if sortAll (itD l) = true then R.ok (M.li (sortD (itD l))) else .bad) = _
  rw [if_pos h2, sortD_itD]
theorem srt_len (l : List Nat) : (srt l).length = l.length := List.length_mergeSort _
/-- a train with its station -/
def pfD (p : List Nat × Nat) : D := .tuple [.int (p.2 : Nat), trD p.1]
theorem trsL_pf (st : List (List Nat)) : trsL st = (trP st).map pfD := trsL_P st
theorem trP_len (st : List (List Nat)) : (trP st).length ≤ st.length := by
  rw [trP]
  refine Nat.le_trans (List.length_filter_le _ _) ?_
  rw [List.length_zipIdx]; exact Nat.le_refl _
theorem trP_fst (st : List (List Nat)) : (trP st).map (·.1) = st.filter fun t => decide (t ≠ []) := by
  have : ∀ n, ((st.zipIdx n).filter fun p => decide (p.1 ≠ [])).map (·.1) = st.filter fun t => decide (t ≠ []) := by
    induction st with
    | nil => intro n; rfl
    | cons t st ih =>
      intro n
      rw [List.zipIdx_cons, List.filter_cons, List.filter_cons]
      by_cases h : t = []
      · simpa [h] using ih (n + 1)
      · simpa [h] using ih (n + 1)
  exact this 0
/-- all trains against their way -/
def trR (st : List (List Nat)) : List (List Nat × Nat) := (trP st).reverse
def at0 (st : List (List Nat)) : Nat := ((trR st).map fun p => decide (0 ∈ p.1)).findIdx (· == true)
def arP (st : List (List Nat)) : List (List Nat × Nat) := trn (trR st) (at0 st)
theorem mem_trR (c s : Nat) (st : List (List Nat)) (hy : GoodY c s) (h : Good c s st) : true ∈ (trR st).map fun p => decide (0 ∈ p.1) := by
  obtain ⟨t, ht, h0⟩ := has_car c s 0 st h (by have := hy.c1; omega)
  have h1 : t ∈ (trP st).map (·.1) := by
    rw [trP_fst, List.mem_filter]
    exact ⟨ht, by simpa using List.ne_nil_of_mem h0⟩
  obtain ⟨p, hp, rfl⟩ := List.mem_map.1 h1
  exact List.mem_map.2 ⟨p, by rw [trR, List.mem_reverse]; exact hp, by simpa using h0⟩
theorem in_tr0 (t : List Nat) : cmpD .inn (.pu (.int 0)) (.pu (trD t)) = .ok (decide (0 ∈ t)) := in_cs t 0
/-- [0 in train for station, train in y].index(True) -/
theorem ev_at0 {G : List Fn} (E : Option M → Option M → TR.Env) (y v1 v2 : Nat) (ps : List (List Nat × Nat)) (hmem : true ∈ ps.map fun p => decide (0 ∈ p.1)) (hl : ps.length ≤ 900) (h1 : ev G (.var y) (E none none) = .ok (.li (ps.map pfD), [y], E none none))
    (hd : (den (E none none) [v1, v2] && subs (P.slots (.t [.v v1, .v v2])) [v1, v2]) = true) (ha : apart [y] (muT (.cmp .inn (.cst (.int 0)) (.var v2)) ++ muEs [] ++ [v1, v2]) = true)
    (hb : ∀ a b p, bindP (.t [.v v1, .v v2]) (pfD p) (wipeE (E a b) [v1, v2]) = .ok (E (some (.pu (.int (p.2 : Nat)))) (some (.pu (trD p.1))))) (hv : ∀ a d, ev G (.var v2) (E a (some (.pu d))) = .ok (.pu d, [], E a (some (.pu d)))) (hk : ∀ a b, backE (E a b) (E none none) [v1, v2] = E none none) :
    ev G (.mt .index (.lc false [v1, v2] (.cmp .inn (.cst (.int 0)) (.var v2)) (.t [.v v1, .v v2]) (.var y) []) [.cst (.bool true)]) (E none none) = .ok (.pu (.int ((ps.map fun p => decide (0 ∈ p.1)).findIdx (· == true) : Nat)), [], E none none) := by
  obtain ⟨e2, h2, a, b, rfl⟩ := lcLoop_g (f := lcB G [v1, v2] (.cmp .inn (.cst (.int 0)) (.var v2)) (.t [.v v1, .v v2]) []) pfD (fun p => some (.bool (decide (0 ∈ p.1)))) (fun en => ∃ a b, en = E a b) ps (by
    intro p hp en hen
    obtain ⟨a, b, rfl⟩ := hen
    exact ⟨_, lcB_nc (hb a b p) (ev_cmp_ok (o := .inn) ev_cst_ok (hv _ _) rfl (in_tr0 _)), _, _, rfl⟩) (E none none) ⟨_, _, rfl⟩
  rw [filterMap_some] at h2
  have h3 := ev_lc_ok (G := G) (vs := [v1, v2]) (elt := .cmp .inn (.cst (.int 0)) (.var v2)) (p := .t [.v v1, .v v2]) (it := .var y) (cs := []) (m := .li (ps.map pfD)) h1 hd rfl rfl ha h2 (by rw [List.length_map]; unfold big; omega)
  rw [hk] at h3
  have h4 := idx_bools _ hmem
  rw [List.map_map] at h4
  exact ev_mt1_ok (k := .index) h3 ev_cst_ok rfl h4
theorem arcs_in_ok (c s : Nat) (st : List (List Nat)) (hy : GoodY c s) (h : Good c s st) : d_f_arcs_in [stD st] = .ok (.li ((arP st).map pfD)) := by
  have hs8 := hy.s8
  have hs := h.hs
  have hl := trP_len st
  have hlR : (trR st).length ≤ 900 := by rw [trR, List.length_reverse]; omega
  let E (a b c d e : Option M) : TR.Env := [some (.pu (stD st)), a, b, c, d, e]
  have hti : d_f_trains_in [stD st] = .ok (.li ((trP st).map pfD)) := by
    rw [trains_in_ok st (by omega), ← trsL_pf]; rfl
  obtain ⟨e2, h2, a, rfl⟩ := lcLoop_g (f := lcB g_f_arcs_in [2] (.var 2) (.v 2) []) pfD (fun p => some (pfD p)) (fun en => ∃ a, en = E none a none none none) (trR st) (by
    intro p hp en hen
    obtain ⟨a, rfl⟩ := hen
    exact ⟨E none (some (.pu (pfD p))) none none none, lcB_nc rfl (ev_var_ok rfl), _, rfl⟩) (E none none none none none) ⟨_, rfl⟩
  rw [filterMap_some] at h2
  have hr : ((trP st).map pfD).reverse = (trR st).map pfD := by rw [trR, List.map_reverse]
  have h3 : ev g_f_arcs_in (.rvd (.call 0 [(.var 0)])) (E none none none none none) = .ok (.li ((trR st).map pfD), [], E none none none none none) := by
    rw [← hr]
    exact ev_rvd_ok (ev_call_ok (k := 0) rfl (vs1 (i := 0) rfl) hti) rfl
  have s1 : ex g_f_arcs_in (b_f_arcs_in.getD 0 .pass) (E none none none none none) = .ok (.nx (E (some (.li ((trR st).map pfD))) none none none none)) :=
    ex_asg_v (i := 1) (m := .li ((trR st).map pfD)) (e2 := E none none none none none) (ev_lc_ok (m := .li ((trR st).map pfD)) (rs := []) (e1 := E none none none none none) h3 rfl rfl rfl rfl h2 (by rw [List.length_map]; unfold big; omega)) rfl (by show 1 < 6; decide)
  have h4 := ev_at0 (G := g_f_arcs_in) (fun d e => E (some (.li ((trR st).map pfD))) none none d e) 1 4 5 (trR st) (mem_trR c s st hy h) hlR (ev_ownvar rfl) rfl (by simp [apart, muT, muE, muEs]) (fun a b p => rfl) (fun a d => ev_var_ok rfl) (fun a b => rfl)
  have s2 : ex g_f_arcs_in (b_f_arcs_in.getD 1 .pass) (E (some (.li ((trR st).map pfD))) none none none none) = .ok (.nx (E (some (.li ((trR st).map pfD))) none (some (.pu (.int (at0 st : Nat)))) none none)) :=
    ex_asg_v (i := 3) (m := .pu (.int (at0 st : Nat))) (e2 := E (some (.li ((trR st).map pfD))) none none none none) h4 rfl (by show 3 < 6; decide)
  have hat : at0 st ≤ (trR st).length := by
    have := List.findIdx_le_length (xs := (trR st).map fun p => decide (0 ∈ p.1)) (p := (· == true))
    rwa [List.length_map] at this
  have h5 := ev_turn (G := g_f_arcs_in) (y := 1) (z := 3) (xs := (trR st).map pfD) (i := at0 st) (env := E (some (.li ((trR st).map pfD))) none (some (.pu (.int (at0 st : Nat)))) none none) rfl rfl (by rw [List.length_map]; exact hat) (by rw [List.length_map]; exact hlR)
  rw [trn_map] at h5
  exact runP_ret ((exs_nx s1).trans ((exs_nx s2).trans (ex_ret_ok h5 rfl)))
theorem arP_len (st : List (List Nat)) : (arP st).length ≤ st.length := by
  have := trP_len st
  rw [arP, trn, List.length_append, List.length_drop, List.length_take, trR, List.length_reverse]; omega
/-- the loop over (station, train): something of each train -/
theorem ar_loop {G : List Fn} {elt : E} (E : Option M → Option M → TR.Env) (v1 v2 : Nat) (f : List Nat → D) (ps : List (List Nat × Nat))
    (hb : ∀ a b p, bindP (.t [.v v1, .v v2]) (pfD p) (wipeE (E a b) [v1, v2]) = .ok (E (some (.pu (.int (p.2 : Nat)))) (some (.pu (trD p.1))))) (he : ∀ a p, p ∈ ps → ev G elt (E a (some (.pu (trD p.1)))) = .ok (.pu (f p.1), [], E a (some (.pu (trD p.1))))) :
    ∃ a b, lcLoop (lcB G [v1, v2] elt (.t [.v v1, .v v2]) []) (ps.map pfD) (E none none) = .ok (ps.map fun p => f p.1, E a b) := by
  obtain ⟨e2, h2, a, b, rfl⟩ := lcLoop_g (f := lcB G [v1, v2] elt (.t [.v v1, .v v2]) []) pfD (fun p => some (f p.1)) (fun en => ∃ a b, en = E a b) ps (by
    intro p hp en hen
    obtain ⟨a, b, rfl⟩ := hen
    exact ⟨_, lcB_nc (hb a b p) (he _ p hp), _, _, rfl⟩) (E none none) ⟨_, _, rfl⟩
  rw [filterMap_some] at h2
  exact ⟨a, b, h2⟩
theorem arcs_ok (c s : Nat) (st : List (List Nat)) (hy : GoodY c s) (h : Good c s st) : d_f_arcs [ydD c s, stD st] = .ok (.pu (.tuple ((arP st).map fun p => trD p.1))) := by
  have hs8 := hy.s8
  have hs := h.hs
  have hl := arP_len st
  let E (a b : Option M) : TR.Env := [some (.pu (ydD c s)), some (.pu (stD st)), a, b]
  have s0 := exs_do (G := g_f_arcs) (e := .call 0 [(.var 0), (.var 1)]) (r := b_f_arcs.tail) (ev_call_ok (k := 0) rfl (vs2 (i := 0) (j := 1) (env := E none none) rfl rfl) (need_state_ok c s st hy h))
  obtain ⟨a, b, h2⟩ := ar_loop (G := g_f_arcs) (elt := .var 3) E 2 3 trD (arP st) (fun a b p => rfl) (fun a p hp => ev_var_ok rfl)
  have h3 : ev g_f_arcs (.lc false [2, 3] (.var 3) (.t [(.v 2), (.v 3)]) (.call 1 [(.var 1)]) []) (E none none) = .ok (.li ((arP st).map fun p => trD p.1), [], E none none) :=
    ev_lc_ok (m := .li ((arP st).map pfD)) (rs := []) (e1 := E none none) (ev_call_ok (k := 1) rfl (vs1 (i := 1) rfl) (arcs_in_ok c s st hy h)) rfl rfl rfl rfl h2 (by rw [List.length_map]; unfold big; omega)
  exact runP_ret (s0.trans (ex_ret_ok (ev_bi1_ok (b := .tuple) h3 rfl) rfl))
def hdL (st : List (List Nat)) : List Nat := (trP st).map fun p => p.1.getD 0 0
def ctL (st : List (List Nat)) : List Nat := (trP st).map fun p => lastN p.1
theorem trP_ne (st : List (List Nat)) : ∀ p ∈ trP st, p.1 ≠ [] := by
  intro p hp
  have := (List.mem_filter.1 hp).2
  simpa using this
theorem heads_ok (c s : Nat) (st : List (List Nat)) (hy : GoodY c s) (h : Good c s st) : d_f_heads [ydD c s, stD st] = .ok (.pu (trD (srt (hdL st)))) := by
  have hs8 := hy.s8
  have hs := h.hs
  have hl := trP_len st
  let E (a b : Option M) : TR.Env := [some (.pu (ydD c s)), some (.pu (stD st)), a, b]
  have s0 := exs_do (G := g_f_heads) (e := .call 0 [(.var 0), (.var 1)]) (r := b_f_heads.tail) (ev_call_ok (k := 0) rfl (vs2 (i := 0) (j := 1) (env := E none none) rfl rfl) (need_state_ok c s st hy h))
  have hti : d_f_trains_in [stD st] = .ok (.li ((trP st).map pfD)) := by
    rw [trains_in_ok st (by omega), ← trsL_pf]; rfl
  obtain ⟨a, b, h2⟩ := ar_loop (G := g_f_heads) (elt := .sub (.var 3) (.cst (.int 0))) E 2 3 (fun t => .int (t.getD 0 0 : Nat)) (trP st) (fun a b p => rfl) (fun a p hp => ev_sub_ok (ev_var_ok rfl) ev_cst_ok rfl (sub_trD p.1 0 (List.length_pos_iff.2 (trP_ne st p hp))) rfl)
  have e : ((trP st).map fun p => PyData.int (p.1.getD 0 0 : Nat)) = itD (hdL st) := by rw [itD, hdL, List.map_map]; rfl
  rw [e] at h2
  have h3 : ev g_f_heads (.lc false [2, 3] (.sub (.var 3) (.cst (.int 0))) (.t [(.v 2), (.v 3)]) (.call 1 [(.var 1)]) []) (E none none) = .ok (.li (itD (hdL st)), [], E none none) :=
    ev_lc_ok (m := .li ((trP st).map pfD)) (rs := []) (e1 := E none none) (ev_call_ok (k := 1) rfl (vs1 (i := 1) rfl) hti) rfl rfl rfl rfl h2 (by rw [itD_len, hdL, List.length_map]; unfold big; omega)
  exact runP_ret (s0.trans (ex_ret_ok (ev_bi1_ok (b := .tuple) (ev_bi1_ok (b := .sorted) h3 (sort_ints _ (by rw [hdL, List.length_map]; omega))) rfl) rfl))
theorem cuts_ok (c s : Nat) (st : List (List Nat)) (hy : GoodY c s) (h : Good c s st) : d_f_cuts [ydD c s, stD st] = .ok (.pu (trD (srt (ctL st)))) := by
  have hs8 := hy.s8
  have hs := h.hs
  have hl := trP_len st
  let E (a b : Option M) : TR.Env := [some (.pu (ydD c s)), some (.pu (stD st)), a, b]
  have s0 := exs_do (G := g_f_cuts) (e := .call 0 [(.var 0), (.var 1)]) (r := b_f_cuts.tail) (ev_call_ok (k := 0) rfl (vs2 (i := 0) (j := 1) (env := E none none) rfl rfl) (need_state_ok c s st hy h))
  have hti : d_f_trains_in [stD st] = .ok (.li ((trP st).map pfD)) := by
    rw [trains_in_ok st (by omega), ← trsL_pf]; rfl
  obtain ⟨a, b, h2⟩ := ar_loop (G := g_f_cuts) (elt := .sub (.var 3) (.neg (.cst (.int 1)))) E 2 3 (fun t => .int (lastN t : Nat)) (trP st) (fun a b p => rfl) (fun a p hp => ev_sub_ok (ev_var_ok rfl) (ev_neg_ok ev_cst_ok) rfl (sub_tr_last p.1 (trP_ne st p hp)) rfl)
  have e : ((trP st).map fun p => PyData.int (lastN p.1 : Nat)) = itD (ctL st) := by rw [itD, ctL, List.map_map]; rfl
  rw [e] at h2
  have h3 : ev g_f_cuts (.lc false [2, 3] (.sub (.var 3) (.neg (.cst (.int 1)))) (.t [(.v 2), (.v 3)]) (.call 1 [(.var 1)]) []) (E none none) = .ok (.li (itD (ctL st)), [], E none none) :=
    ev_lc_ok (m := .li ((trP st).map pfD)) (rs := []) (e1 := E none none) (ev_call_ok (k := 1) rfl (vs1 (i := 1) rfl) hti) rfl rfl rfl rfl h2 (by rw [itD_len, ctL, List.length_map]; unfold big; omega)
  exact runP_ret (s0.trans (ex_ret_ok (ev_bi1_ok (b := .tuple) (ev_bi1_ok (b := .sorted) h3 (sort_ints _ (by rw [ctL, List.length_map]; omega))) rfl) rfl))
end LB

set_option linter.all false
/-! rules for the walk by goal: comprehensions, loops, typed values -/
namespace TR
open PySem
abbrev nD (n : Nat) : D := .int (n : Int)
theorem ev_cst_eq {G : List Fn} {d d2 : D} {env : TR.Env} (h : d = d2) : ev G (.cst d) env = .ok (.pu d2, [], env) := by subst h; exact ev_cst_ok
theorem ev_glb_eq {G : List Fn} {k : Nat} {d d2 : D} {env : TR.Env} (h : d = d2) : ev G (.glb k d) env = .ok (.pu d2, [], env) := by subst h; rw [ev]
theorem lit_nat (n : Nat) : PyData.int (Int.ofNat n) = PyData.int (n : Int) := rfl
theorem backG_get (old : TR.Env) (vs : List Nat) : ∀ (en : TR.Env) (i : Nat), (backE en old vs)[i]? = if i ∈ vs ∧ i < en.length then some (old[i]?.getD none) else en[i]? := by
  induction vs with
  | nil => intro en i; simp [backE]
  | cons v vs ih =>
    intro en i
    have hl : ∀ (vs : List Nat), (backE en old vs).length = en.length := by
      intro vs; induction vs with
      | nil => rfl
      | cons a vs ih => simp [backE, ih]
    rw [backE, List.getElem?_set, hl, ih]
    by_cases h : v = i
    · subst h
      by_cases h2 : v < en.length
      · simp [h2]
      · simp [h2]
    · rw [if_neg h]
      have : i ≠ v := fun e => h e.symm
      simp [this]
theorem wipeG_get (vs : List Nat) : ∀ (en : TR.Env) (i : Nat), (wipeE en vs)[i]? = if i ∈ vs ∧ i < en.length then some none else en[i]? := by
  induction vs with
  | nil => intro en i; simp [wipeE]
  | cons v vs ih =>
    intro en i
    have hl : ∀ (vs : List Nat), (wipeE en vs).length = en.length := by
      intro vs; induction vs with
      | nil => rfl
      | cons a vs ih => simp [wipeE, ih]
    rw [wipeE, List.getElem?_set, hl, ih]
    by_cases h : v = i
    · subst h
      by_cases h2 : v < en.length
      · simp [h2]
      · simp [h2]
    · rw [if_neg h]
      have : i ≠ v := fun e => h e.symm
      simp [this]
theorem wipeE_len (en : TR.Env) (vs : List Nat) : (wipeE en vs).length = en.length := by
  induction vs with
  | nil => rfl
  | cons a vs ih => simp [wipeE, ih]
theorem backE_same (en env : TR.Env) (vs : List Nat) (h : wipeE en vs = wipeE env vs) : backE en env vs = env := by
  have hl : en.length = env.length := by rw [← wipeE_len en vs, h, wipeE_len]
  apply List.ext_getElem?
  intro i
  rw [backG_get]
  by_cases hi : i ∈ vs
  · by_cases h2 : i < en.length
    · rw [if_pos ⟨hi, h2⟩]
      have h3 : i < env.length := by omega
      rw [List.getElem?_eq_getElem h3]
      rfl
    · rw [if_neg (fun z => h2 z.2), List.getElem?_eq_none (by omega), List.getElem?_eq_none (by omega)]
  · rw [if_neg (fun z => hi z.1)]
    have := congrArg (fun l : TR.Env => l[i]?) h
    simpa [wipeG_get, hi] using this
theorem wipe_0 {env : TR.Env} : wipeE env [] = env := rfl
theorem wipe_S {env e1 e2 : TR.Env} {v : Nat} {vs : List Nat} (h : wipeE env vs = e1) (h2 : List.set e1 v none = e2) : wipeE env (v :: vs) = e2 := by rw [wipeE, h, h2]
theorem ev_lc_go {α : Type} {G : List Fn} {vs : List Nat} {elt : E} {p : P} {it : E} {cs : List E} {env0 env W : TR.Env} {m : M} {rs : List Nat} {emb : α → D} {xs : List α} {q : α → Bool} {g : α → D} {B : α → TR.Env} {mf : α → M} {rf : α → List Nat}
    (hit : ev G it env0 = .ok (m, rs, env)) (hs : itR m = .ok (xs.map emb)) (hn : nlAt m it = none) (hd : (den env vs && subs p.slots vs) = true) (ha : apart rs (muT elt ++ muEs cs ++ vs) = true)
    (hW : wipeE env vs = W) (hb : ∀ x, bindP p (emb x) W = .ok (B x)) (hw : ∀ x, wipeE (B x) vs = W) (hl : xs.length ≤ 1000)
    (hc : ∀ x ∈ xs, evCs G cs (B x) = .ok (q x, B x))
    (he : ∀ x ∈ xs, q x = true → ev G elt (B x) = .ok (mf x, rf x, B x)) (ht : ∀ x, takeR elt (mf x, rf x, B x) = .ok (g x, B x)) :
    ev G (.lc false vs elt p it cs) env0 = .ok (.li ((xs.filter q).map g), [], env) := by
  subst hW
  obtain ⟨e2, h1, h2⟩ := lcLoop_g (f := lcB G vs elt p cs) emb (fun x => if q x = true then some (g x) else none) (fun en => wipeE en vs = wipeE env vs) xs (by
    intro x hx en hen
    refine ⟨B x, ?_, hw x⟩
    have hb2 : bindP p (emb x) (wipeE en vs) = .ok (B x) := by rw [hen]; exact hb x
    cases hq : q x with
    | true =>
      rw [lcB, hb2]
      simp only [bind, R.bind]
      rw [hc x hx, hq]
      simp only
      rw [if_pos trivial, he x hx hq]
      simp only
      rw [ht x]
      simp only
      rw [if_pos trivial]
    | false =>
      rw [lcB, hb2]
      simp only [bind, R.bind]
      rw [hc x hx, hq]
      simp only
      rw [if_neg (by decide), if_neg (by decide)]) env rfl
  have e3 : (xs.filterMap fun x => if q x = true then some (g x) else none) = (xs.filter q).map g := by
    clear hs hl hc he h1
    induction xs with
    | nil => rfl
    | cons a xs ih =>
      rw [List.filterMap_cons, List.filter_cons]
      cases hq : q a <;> simp [ih]
  rw [e3] at h1
  have h3 := ev_lc_ok (G := G) hit hd hn hs ha h1 (by
    have h5 := List.length_filter_le q xs
    rw [List.length_map]
    have : (1000 : Nat) ≤ big := by unfold big; omega
    omega)
  rw [backE_same e2 env vs h2] at h3
  exact h3
/-- .. without a test -/
theorem ev_lc_go0 {α : Type} {G : List Fn} {vs : List Nat} {elt : E} {p : P} {it : E} {env0 env W : TR.Env} {m : M} {rs : List Nat} {emb : α → D} {xs : List α} {g : α → D} {B : α → TR.Env} {mf : α → M} {rf : α → List Nat}
    (hit : ev G it env0 = .ok (m, rs, env)) (hs : itR m = .ok (xs.map emb)) (hn : nlAt m it = none) (hd : (den env vs && subs p.slots vs) = true) (ha : apart rs (muT elt ++ muEs [] ++ vs) = true)
    (hW : wipeE env vs = W) (hb : ∀ x, bindP p (emb x) W = .ok (B x)) (hw : ∀ x, wipeE (B x) vs = W) (hl : xs.length ≤ 1000)
    (he : ∀ x ∈ xs, ev G elt (B x) = .ok (mf x, rf x, B x)) (ht : ∀ x, takeR elt (mf x, rf x, B x) = .ok (g x, B x)) :
    ev G (.lc false vs elt p it []) env0 = .ok (.li (xs.map g), [], env) := by
  have h := ev_lc_go (q := fun _ => true) hit hs hn hd ha hW hb hw hl (fun x _ => by rw [evCs]) (fun x hx _ => he x hx) ht
  rw [List.filter_eq_self.2 (fun _ _ => rfl)] at h
  exact h
/-- a test that is read in any case -/
theorem ev_and_go {G : List Fn} {a b : E} {p q : Bool} {ra rb : List Nat} {env : TR.Env} (h : ev G a env = .ok (.pu (.bool p), ra, env)) (h2 : p = true → ev G b env = .ok (.pu (.bool q), rb, env)) : ev G (.and a b) env = .ok (.pu (.bool (p && q)), [], env) := by
  rw [ev, h]
  simp only [bind, R.bind, boolR]
  cases p with
  | true => rw [if_pos rfl, h2 rfl]; rfl
  | false => rw [if_neg (by decide)]; rfl
theorem ev_or_go {G : List Fn} {a b : E} {p q : Bool} {ra rb : List Nat} {env : TR.Env} (h : ev G a env = .ok (.pu (.bool p), ra, env)) (h2 : p = false → ev G b env = .ok (.pu (.bool q), rb, env)) : ev G (.or a b) env = .ok (.pu (.bool (p || q)), [], env) := by
  rw [ev, h]
  simp only [bind, R.bind, boolR]
  cases p with
  | true => rw [if_pos rfl]; rfl
  | false => rw [if_neg (by decide), h2 rfl]; rfl
theorem ev_ite_go {G : List Fn} {c a b : E} {k : Bool} {rc ra rb : List Nat} {env : TR.Env} {ma mb : M} {da db : D} (h : ev G c env = .ok (.pu (.bool k), rc, env)) (h1 : k = true → ev G a env = .ok (ma, ra, env)) (h2 : k = false → ev G b env = .ok (mb, rb, env))
    (h3 : takeR a (ma, ra, env) = .ok (da, env)) (h4 : takeR b (mb, rb, env) = .ok (db, env)) : ev G (.ite c a b) env = .ok (.pu (bif k then da else db), [], env) := by
  rw [ev, h]
  simp only [bind, R.bind, boolR]
  cases k with
  | true => rw [if_pos rfl, h1 rfl]; simp only; rw [h3]; rfl
  | false => rw [if_neg (by decide), h2 rfl]; simp only; rw [h4]; rfl
theorem ev_ite_g {G : List Fn} {c a b : E} {k : Bool} {rc ra rb : List Nat} {env : TR.Env} {ma mb : M} {da db d : D} (h : ev G c env = .ok (.pu (.bool k), rc, env)) (h1 : k = true → ev G a env = .ok (ma, ra, env)) (h2 : k = false → ev G b env = .ok (mb, rb, env))
    (h3 : takeR a (ma, ra, env) = .ok (da, env)) (h4 : takeR b (mb, rb, env) = .ok (db, env)) (h5 : (bif k then da else db) = d) : ev G (.ite c a b) env = .ok (.pu d, [], env) := by
  rw [ev_ite_go h h1 h2 h3 h4, h5]
theorem evCs_go0 {G : List Fn} {env : TR.Env} : evCs G [] env = .ok (true, env) := by rw [evCs]
theorem ex_asg_go {G : List Fn} {i : Nat} {e : E} {env e2 E : TR.Env} {r : M × List Nat × TR.Env} {m : M} (h : ev G e env = .ok r) (h2 : keepR e r = .ok (m, e2)) (h3 : i < e2.length) (h4 : e2.set i (some m) = E) : ex G (.asg (.v i) e) env = .ok (.nx E) := by
  rw [← h4]; exact ex_asg_v h h2 h3
theorem ex_if_go {G : List Fn} {c : E} {a : List S} {b : Bool} {rc : List Nat} {env e1 : TR.Env} (h : ev G c env = .ok (.pu (.bool b), rc, e1)) (hb : b = false) : ex G (.ifs c a []) env = .ok (.nx e1) := by
  subst hb; exact ex_if_ff h exs_nil
theorem ex_do_go {G : List Fn} {e : E} {m : M} {rs : List Nat} {env e1 : TR.Env} (h : ev G e env = .ok (m, rs, e1)) : ex G (.do_ e) env = .ok (.nx e1) := by
  rw [ex, h]; rfl
theorem ex_ret_go {G : List Fn} {e : E} {m m2 : M} {rs : List Nat} {env e1 e2 : TR.Env} (h : ev G e env = .ok (m, rs, e1)) (hm : retR e (m, rs, e1) = .ok (m2, e2)) : ex G (.ret e) env = .ok (.ret m2 e2) := by
  rw [ex, h]
  simp only [bind, R.bind]
  rw [hm]
theorem exs_go {G : List Fn} {s : S} {r : List S} {env e1 : TR.Env} {o : R Out} (h : ex G s env = .ok (.nx e1)) (h2 : exs G r e1 = o) : exs G (s :: r) env = o := (exs_nx h).trans h2
theorem ev_rng1_go {G : List Fn} {a : E} {n : Nat} {ra : List Nat} {env e1 : TR.Env} (h : ev G a env = .ok (.pu (.int (n : Nat)), ra, e1)) (hn : n ≤ 1000) : ev G (.rng [a]) env = .ok (.li ((List.range n).map nD), [], e1) := by
  have h1 : evs G [a] env = .ok ([.pu (.int (n : Nat))], ra ++ [], e1) := by
    rw [evs, h]
    simp only [bind, R.bind]
    rw [evs]
    simp only [muEs]
    rw [if_pos (by simp [apart])]
  rw [ev_rng_ok h1 rfl (LB.rgC_ok n hn), rngD_nat]
theorem rngD_two (a b : Nat) : rngD a b = (List.range' a (b - a)).map nD := by
  rw [rngD, List.range'_eq_map_range, List.map_map]
  have : ((b : Int) - a).toNat = b - a := by omega
  rw [this]
  apply List.map_congr_left
  intro i _
  simp [nD]
theorem ev_rng2_go {G : List Fn} {a b : E} {k n : Nat} {ra rb : List Nat} {env : TR.Env} (h : ev G a env = .ok (.pu (.int (k : Nat)), ra, env)) (h2 : ev G b env = .ok (.pu (.int (n : Nat)), rb, env)) (ha : apart ra (muE b) = true) (hk : k ≤ 1000) (hn : n ≤ 1000) : ev G (.rng [a, b]) env = .ok (.li ((List.range' k (n - k)).map nD), [], env) := by
  have h1 : evs G [a, b] env = .ok ([.pu (.int (k : Nat)), .pu (.int (n : Nat))], ra ++ (rb ++ []), env) := by
    rw [evs, h]
    simp only [bind, R.bind]
    rw [evs, h2]
    simp only [bind, R.bind]
    rw [evs]
    simp only [muEs]
    rw [if_pos (by simp [apart])]
    simp only
    rw [if_pos (by simpa [muEs] using ha)]
  rw [ev_rng_ok h1 rfl (by simp only [rgC, decide_eq_true_eq]; omega), rngD_two]
theorem ev_rgl_go {G : List Fn} {t : Bool} {a : E} {n : Nat} {ra : List Nat} {env : TR.Env} (h : ev G a env = .ok (.pu (.int (n : Nat)), ra, env)) (hn : n ≤ 1000) : ev G (.rgl t [a]) env = .ok ((if t then .pu (.tuple ((List.range n).map nD)) else .li ((List.range n).map nD)), [], env) := by
  have h1 : evs G [a] env = .ok ([.pu (.int (n : Nat))], ra ++ [], env) := by
    rw [evs, h]
    simp only [bind, R.bind]
    rw [evs]
    simp only [muEs]
    rw [if_pos (by simp [apart])]
  rw [ev_rgl_ok h1 rfl (LB.rgB_ok n hn), rngD_nat]
theorem ev_enm_go {α : Type} {G : List Fn} {a : E} {m : M} {rs : List Nat} {env : TR.Env} {emb : α → D} {xs : List α} (h : ev G a env = .ok (m, rs, env)) (hs : m.seq = .ok (xs.map emb)) : ev G (.enm a) env = .ok (.li (xs.zipIdx.map fun p => .tuple [nD p.2, emb p.1]), rs, env) := by
  rw [ev, h]
  simp only [bind, R.bind]
  rw [hs]
  simp only
  rw [enmD_zip]
theorem ev_rvd_go {α : Type} {G : List Fn} {a : E} {m : M} {rs : List Nat} {env : TR.Env} {emb : α → D} {xs : List α} (h : ev G a env = .ok (m, rs, env)) (hs : m.seq = .ok (xs.map emb)) : ev G (.rvd a) env = .ok (.li (xs.reverse.map emb), rs, env) := by
  rw [ev, h]
  simp only [bind, R.bind]
  rw [hs]
  simp only
  rw [List.map_reverse]
theorem ev_nalike_go (G : List Fn) (j : Nat) (X Y : E) (d1 d2 : D) (env e1 : TR.Env) (f : FP) (hG : G[j]? = some (.pr f)) (hf : f = LB.d_L_alike 40) (h : evTs G [X, Y] env = .ok ([d1, d2], e1)) (he : d1 = d2) (hd : LB.tupN 8 d2 = true) :
    ev G (.not (.call j [X, Y])) env = .ok (.pu (.bool false), [], e1) := by
  subst he; subst hf; exact LB.chk_ev G j hG X Y d1 env e1 h hd
theorem ev_alike_go (G : List Fn) (j : Nat) (X Y : E) (d1 d2 : D) (env e1 : TR.Env) (f : FP) (hG : G[j]? = some (.pr f)) (hf : f = LB.d_L_alike 40) (h : evTs G [X, Y] env = .ok ([d1, d2], e1)) (he : d1 = d2) (hd : LB.tupN 8 d2 = true) :
    ev G (.call j [X, Y]) env = .ok (.pu (.bool true), [], e1) := by
  subst he; subst hf; exact ev_call_ok hG h (LB.alike_tup 8 40 (by decide) d1 hd)
theorem ev_tup1n {G : List Fn} {a : E} {n : Nat} {ra : List Nat} {env e1 : TR.Env} (h : ev G a env = .ok (.pu (.int (n : Nat)), ra, e1)) (hs : isSt1 a = false) : ev G (.tup [a]) env = .ok (.pu (LB.trD [n]), [], e1) := ev_tup1 (evTs_pu h evTs_nil hs)
end TR

set_option linter.all false
/-! typed values: what the operations give -/
namespace LB
open PySem TR
def sbm (a b n : Nat) : Nat := (a + (n - b % n)) % n
theorem gb_addN (a b : Nat) : binD .add (.pu (.int (a : Int))) (.pu (.int (b : Int))) = .ok (.pu (.int ((a + b : Nat) : Int))) := bd_add _ _
theorem gb_subN (a b : Nat) (h : b ≤ a) : binD .sub (.pu (.int (a : Int))) (.pu (.int (b : Int))) = .ok (.pu (.int ((a - b : Nat) : Int))) := by
  rw [bd_sub]; congr 3; omega
theorem gb_modN (a b : Nat) (h : 0 < b) : binD .mod (.pu (.int (a : Int))) (.pu (.int (b : Int))) = .ok (.pu (.int ((a % b : Nat) : Int))) := by
  rw [bd_mod _ _ (by omega), Int.fmod_eq_emod_of_nonneg _ (by omega)]; rfl
theorem gb_modS (a b n : Nat) (h : 0 < n) : binD .mod (.pu (.int ((a : Int) - (b : Int)))) (.pu (.int (n : Int))) = .ok (.pu (.int ((sbm a b n : Nat) : Int))) := by
  rw [bd_mod _ _ (by omega), Int.fmod_eq_emod_of_nonneg _ (by omega)]
  congr 3
  rw [sbm]
  have h1 : b % n < n := Nat.mod_lt _ h
  have h2 := Nat.div_add_mod b n
  have h3 : (((a + (n - b % n)) % n : Nat) : Int) = ((a : Int) + (n - b % n)) % n := by
    rw [Int.natCast_emod, Int.natCast_add, Int.natCast_sub (Nat.le_of_lt h1), Int.natCast_emod]
  rw [h3]
  have h4 : (a : Int) + (n - b % n) = (a - b) + n * (1 + b / n) := by
    have h5 : (b : Int) = n * (b / n : Nat) + (b % n : Nat) := by exact_mod_cast h2.symm
    have h6 : ((b / n : Nat) : Int) = (b : Int) / n := by simp
    have h7 : ((b % n : Nat) : Int) = (b : Int) % n := by simp
    rw [h6, h7] at h5
    rw [Int.mul_add, Int.mul_one]
    omega
  rw [h4, Int.add_mul_emod_self_left]
theorem gb_mulN (a b : Nat) (h : a ≤ 1000000) : binD .mul (.pu (.int (a : Int))) (.pu (.int (b : Int))) = .ok (.pu (.int ((a * b : Nat) : Int))) := by
  have h2 : okBits (a : Int) = true := by unfold okBits; rw [decide_eq_true_eq]; omega
  show (if (okBits (a : Int) || okBits (b : Int)) = true then R.ok (M.pu (.int ((a : Int) * b))) else R.bad) = _
  rw [h2, Bool.true_or, if_pos rfl]
  simp
theorem gb_fdivN (a b : Nat) (h : 0 < b) (h2 : b < 1000) : binD .fdiv (.pu (.int (a : Int))) (.pu (.int (b : Int))) = .ok (.pu (.int ((a / b : Nat) : Int))) := by
  rw [bd_fdiv _ _ (by omega) (by omega), Int.fdiv_eq_ediv_of_nonneg _ (by omega)]; rfl
theorem gc_eqN (a b : Nat) : cmpD .eq (.pu (.int (a : Int))) (.pu (.int (b : Int))) = .ok (decide (a = b)) := cmp_n _ _
theorem gc_neN (a b : Nat) : cmpD .ne (.pu (.int (a : Int))) (.pu (.int (b : Int))) = .ok (!decide (a = b)) := cmp_n_ne _ _
theorem gc_ord (o : COp) (a b : Int) (f : D → D → Bool) (h : cmpD o (.pu (.int a)) (.pu (.int b)) = ordC (.pu (.int a)) (.pu (.int b)) f) : cmpD o (.pu (.int a)) (.pu (.int b)) = .ok (f (.int a) (.int b)) := by
  rw [h]; exact ord_ii _ _ _
theorem gc_ltI (a b : Int) : cmpD .lt (.pu (.int a)) (.pu (.int b)) = .ok (decide (a < b)) := by
  rw [gc_ord _ _ _ _ rfl, lt_ii]
theorem gc_gtI (a b : Int) : cmpD .gt (.pu (.int a)) (.pu (.int b)) = .ok (decide (b < a)) := by
  rw [gc_ord _ _ _ (fun x y => W.dataLt y x) rfl, lt_ii]
theorem gc_leI (a b : Int) : cmpD .le (.pu (.int a)) (.pu (.int b)) = .ok (decide (a ≤ b)) := by
  rw [gc_ord _ _ _ (fun x y => !W.dataLt y x) rfl, lt_ii]; congr 1; rw [Bool.eq_iff_iff]; simp
theorem gc_geI (a b : Int) : cmpD .ge (.pu (.int a)) (.pu (.int b)) = .ok (decide (b ≤ a)) := by
  rw [gc_ord _ _ _ (fun x y => !W.dataLt x y) rfl, lt_ii]; congr 1; rw [Bool.eq_iff_iff]; simp
theorem gc_ltN (a b : Nat) : cmpD .lt (.pu (.int (a : Int))) (.pu (.int (b : Int))) = .ok (decide (a < b)) := by
  rw [gc_ltI]; congr 1; rw [Bool.eq_iff_iff]; simp
theorem gc_gtN (a b : Nat) : cmpD .gt (.pu (.int (a : Int))) (.pu (.int (b : Int))) = .ok (decide (b < a)) := by
  rw [gc_gtI]; congr 1; rw [Bool.eq_iff_iff]; simp
theorem gc_leN (a b : Nat) : cmpD .le (.pu (.int (a : Int))) (.pu (.int (b : Int))) = .ok (decide (a ≤ b)) := by
  rw [gc_leI]; congr 1; rw [Bool.eq_iff_iff]; simp
theorem gc_geN (a b : Nat) : cmpD .ge (.pu (.int (a : Int))) (.pu (.int (b : Int))) = .ok (decide (b ≤ a)) := by
  rw [gc_geI]; congr 1; rw [Bool.eq_iff_iff]; simp
theorem gc_eqI (a b : Int) : cmpD .eq (.pu (.int a)) (.pu (.int b)) = .ok (decide (a = b)) := by
  rw [cmp_eq_ok _ _ (okD_int _) (okD_int _), eqv_ii]
theorem gc_neI (a b : Int) : cmpD .ne (.pu (.int a)) (.pu (.int b)) = .ok (!decide (a = b)) := by
  rw [cmp_ne_ok _ _ (okD_int _) (okD_int _), eqv_ii]
theorem gc_in_it (cs : List Nat) (x : Nat) : cmpD .inn (.pu (.int (x : Nat))) (.li (cs.map nD)) = .ok (decide (x ∈ cs)) := by
  have h := in_cs cs x
  simp only [cmpD, M.seq, trD] at h ⊢
  exact h
theorem gc_nin_it (cs : List Nat) (x : Nat) : cmpD .nin (.pu (.int (x : Nat))) (.li (cs.map nD)) = .ok (!decide (x ∈ cs)) := by
  have h := nin_cs cs x
  simp only [cmpD, M.seq, trD] at h ⊢
  exact h
theorem gc_in_lst (cs : List Nat) (x : Nat) : cmpD .inn (.pu (.int (x : Nat))) (.pu (.list (cs.map nD))) = .ok (decide (x ∈ cs)) := gc_in_it cs x
theorem gc_nin_lst (cs : List Nat) (x : Nat) : cmpD .nin (.pu (.int (x : Nat))) (.pu (.list (cs.map nD))) = .ok (!decide (x ∈ cs)) := gc_nin_it cs x
theorem okl_tr (t : List Nat) : okD (.list (t.map nD)) = true := by rw [okD_lst]; exact okD_trD t
theorem okl_st (t : List (List Nat)) : okD (.list (t.map trD)) = true := by rw [okD_lst]; exact okD_stD t
theorem gc_neL (l k : List Nat) : cmpD .ne (.li (l.map nD)) (.li (k.map nD)) = .ok (!decide (l = k)) := by
  have h : PyData.eqv (.list (l.map nD)) (.list (k.map nD)) = decide (l = k) := eqv_trD l k
  show (if (okD (.list (l.map nD)) && okD (.list (k.map nD))) = true then R.ok (!PyData.eqv (.list (l.map nD)) (.list (k.map nD))) else .bad) = _
  rw [if_pos (by rw [okl_tr, okl_tr]; rfl), h]
theorem gc_eqL (l k : List Nat) : cmpD .eq (.li (l.map nD)) (.li (k.map nD)) = .ok (decide (l = k)) := by
  have h : PyData.eqv (.list (l.map nD)) (.list (k.map nD)) = decide (l = k) := eqv_trD l k
  show (if (okD (.list (l.map nD)) && okD (.list (k.map nD))) = true then R.ok (PyData.eqv (.list (l.map nD)) (.list (k.map nD))) else .bad) = _
  rw [if_pos (by rw [okl_tr, okl_tr]; rfl), h]
theorem gc_neL0 (l : List Nat) : cmpD .ne (.li (l.map nD)) (.li []) = .ok (!decide (l = [])) := gc_neL l []
theorem gc_eqL0 (l : List Nat) : cmpD .eq (.li (l.map nD)) (.li []) = .ok (decide (l = [])) := gc_eqL l []
theorem gc_neT0 (l : List Nat) : cmpD .ne (.pu (trD l)) (.pu (trD [])) = .ok (!decide (l = [])) := cmp_tr_ne l []
theorem gc_neS (l k : List (List Nat)) : cmpD .ne (.li (l.map trD)) (.li (k.map trD)) = .ok (!decide (l = k)) := by
  have h : PyData.eqv (.list (l.map trD)) (.list (k.map trD)) = decide (l = k) := eqv_stD l k
  show (if (okD (.list (l.map trD)) && okD (.list (k.map trD))) = true then R.ok (!PyData.eqv (.list (l.map trD)) (.list (k.map trD))) else .bad) = _
  rw [if_pos (by rw [okl_st, okl_st]; rfl), h]
theorem gl_len_st (st : List (List Nat)) : bi1 .len (.pu (stD st)) = .ok (.pu (.int (st.length : Nat))) := by simp [bi1, lenD, stD]
theorem gl_len_tr (t : List Nat) : bi1 .len (.pu (trD t)) = .ok (.pu (.int (t.length : Nat))) := by simp [bi1, lenD, trD]
theorem gl_len_li {α : Type} (f : α → D) (l : List α) : bi1 .len (.li (l.map f)) = .ok (.pu (.int (l.length : Nat))) := by simp [bi1, lenD]
theorem gl_len_tu {α : Type} (f : α → D) (l : List α) : bi1 .len (.pu (.tuple (l.map f))) = .ok (.pu (.int (l.length : Nat))) := by simp [bi1, lenD]
theorem gl_tup_st (xs : List (List Nat)) : bi1 .tuple (.li (xs.map trD)) = .ok (.pu (stD xs)) := rfl
theorem gl_tup_tr (t : List Nat) : bi1 .tuple (.li (t.map nD)) = .ok (.pu (trD t)) := rfl
theorem gl_tup_it (t : List Nat) : bi1 .tuple (.li (itD t)) = .ok (.pu (trD t)) := rfl
theorem gl_list_st (xs : List (List Nat)) : bi1 .list (.pu (stD xs)) = .ok (.li (xs.map trD)) := rfl
theorem gl_list_tr (t : List Nat) : bi1 .list (.pu (trD t)) = .ok (.li (t.map nD)) := rfl
theorem gl_list_it (t : List Nat) : bi1 .list (.li (itD t)) = .ok (.li (t.map nD)) := rfl
theorem gl_list_li {α : Type} (f : α → D) (l : List α) : bi1 .list (.li (l.map f)) = .ok (.li (l.map f)) := rfl
theorem gs_y0 (c s : Nat) : subD (.pu (ydD c s)) (.pu (.int ((0 : Nat) : Int))) = .ok (.pu (.int (c : Nat))) := rfl
theorem gs_y1 (c s : Nat) : subD (.pu (ydD c s)) (.pu (.int ((1 : Nat) : Int))) = .ok (.pu (.int (s : Nat))) := rfl
theorem gs_li {α : Type} (f : α → D) (l : List α) (d : α) (i : Nat) (h : i < l.length) : subD (.li (l.map f)) (.pu (.int (i : Nat))) = .ok (.pu (f (l.getD i d))) := by
  simp only [subD, M.seq, bind, R.bind, atD, List.length_map]
  rw [ixOf_nat _ _ h]
  simp [R.ofOpt, h]
theorem gs_tu {α : Type} (f : α → D) (l : List α) (d : α) (i : Nat) (h : i < l.length) : subD (.pu (.tuple (l.map f))) (.pu (.int (i : Nat))) = .ok (.pu (f (l.getD i d))) := gs_li f l d i h
theorem sbm_lt (a b n : Nat) (h : 0 < n) : sbm a b n < n := Nat.mod_lt _ h
theorem gs_neg {α : Type} (f : α → D) (l : List α) (d : α) (i k : Nat) (h : i < l.length) (hk : 0 < k) (hk2 : k ≤ l.length) : subD (.li (l.map f)) (.pu (.int ((i : Int) - (k : Int)))) = .ok (.pu (f (l.getD (sbm i k l.length) d))) := by
  simp only [subD, M.seq, bind, R.bind, atD, List.length_map]
  have h2 : ixOf l.length ((i : Int) - k) = some (sbm i k l.length) := by
    unfold ixOf sbm
    rcases Nat.lt_or_ge i k with h3 | h3
    · rw [if_neg (by omega), if_pos (by omega)]
      congr 1
      rcases Nat.lt_or_ge k l.length with h4 | h4
      · rw [Nat.mod_eq_of_lt h4, Nat.mod_eq_of_lt (by omega)]; omega
      · have : k = l.length := by omega
        rw [this, Nat.mod_self, Nat.sub_zero, Nat.add_mod_right, Nat.mod_eq_of_lt h]; omega
    · rw [if_pos (by omega), if_pos (by omega)]
      congr 1
      have h4 : k < l.length := by omega
      rw [Nat.mod_eq_of_lt h4]
      have : i + (l.length - k) = (i - k) + l.length := by omega
      rw [this, Nat.add_mod_right, Nat.mod_eq_of_lt (by omega)]; omega
  rw [h2]
  have := sbm_lt i k l.length (by omega)
  simp [R.ofOpt, this]
theorem gs_st_neg (st : List (List Nat)) (i k : Nat) (h : i < st.length) (hk : 0 < k) (hk2 : k ≤ st.length) : subD (.pu (stD st)) (.pu (.int ((i : Int) - (k : Int)))) = .ok (.pu (trD (st.getD (sbm i k st.length) []))) := gs_neg trD st [] i k h hk hk2
theorem gk_hi_st (st : List (List Nat)) (i : Nat) (h : i ≤ st.length) : slcD (.pu (stD st)) none (some (i : Int)) = .ok (.pu (stD (st.take i))) := by
  simp only [slcD, stD]; rw [cut_take _ _ (by simpa using h), List.map_take]
theorem gk_lo_st (st : List (List Nat)) (i : Nat) (h : i ≤ st.length) : slcD (.pu (stD st)) (some (i : Int)) none = .ok (.pu (stD (st.drop i))) := by
  simp only [slcD, stD]; rw [cut_drop _ _ (by simpa using h), List.map_drop]
theorem gk_hi_tr (st : List Nat) (i : Nat) (h : i ≤ st.length) : slcD (.pu (trD st)) none (some (i : Int)) = .ok (.pu (trD (st.take i))) := by
  simp only [slcD, trD]; rw [cut_take _ _ (by simpa using h), List.map_take]
theorem gk_lo_tr (st : List Nat) (i : Nat) (h : i ≤ st.length) : slcD (.pu (trD st)) (some (i : Int)) none = .ok (.pu (trD (st.drop i))) := by
  simp only [slcD, trD]; rw [cut_drop _ _ (by simpa using h), List.map_drop]
theorem gk_hi_li {α : Type} (f : α → D) (st : List α) (i : Nat) (h : i ≤ st.length) : slcD (.li (st.map f)) none (some (i : Int)) = .ok (.li ((st.take i).map f)) := by
  simp only [slcD, M.seq, bind, R.bind]; rw [cut_take _ _ (by simpa using h), List.map_take]
theorem gk_lo_li {α : Type} (f : α → D) (st : List α) (i : Nat) (h : i ≤ st.length) : slcD (.li (st.map f)) (some (i : Int)) none = .ok (.li ((st.drop i).map f)) := by
  simp only [slcD, M.seq, bind, R.bind]; rw [cut_drop _ _ (by simpa using h), List.map_drop]
theorem gb_addS (a b : List (List Nat)) (h : a.length + b.length ≤ 1000) : binD .add (.pu (stD a)) (.pu (stD b)) = .ok (.pu (stD (a ++ b))) := by
  rw [stD, stD, bd_tup _ _ (by simpa using h), ← List.map_append]; rfl
theorem gb_addL {α : Type} (f : α → D) (a b : List α) (h : a.length + b.length ≤ 1000) : binD .add (.li (a.map f)) (.li (b.map f)) = .ok (.li ((a ++ b).map f)) := by
  rw [bd_li _ _ (by simpa using h), ← List.map_append]
theorem gb_addT (a b : List Nat) (h : a.length + b.length ≤ 1000) : binD .add (.pu (trD a)) (.pu (trD b)) = .ok (.pu (trD (a ++ b))) := bd_tr a b h
theorem ev_cst_nil {G : List Fn} {env : TR.Env} : ev G (.tup []) env = .ok (.pu (trD []), [], env) := ev_tup_ok evTs_nil (Nat.zero_le _)
theorem cond_tr (p : Bool) (a b : List Nat) : (bif p then trD a else trD b) = trD (bif p then a else b) := by cases p <;> rfl
theorem cond_st (p : Bool) (a b : List (List Nat)) : (bif p then stD a else stD b) = stD (bif p then a else b) := by cases p <;> rfl
theorem cond_n (p : Bool) (a b : Nat) : (bif p then PyData.int (a : Nat) else .int (b : Nat)) = .int ((bif p then a else b : Nat) : Int) := by cases p <;> rfl
/-- a choice between values of one kind -/
theorem ev_ite_tr {G : List Fn} {c a b : E} {k : Bool} {rc ra rb : List Nat} {env : TR.Env} {ta tb : List Nat} (h : ev G c env = .ok (.pu (.bool k), rc, env)) (h1 : k = true → ev G a env = .ok (.pu (trD ta), ra, env)) (h2 : k = false → ev G b env = .ok (.pu (trD tb), rb, env)) :
    ev G (.ite c a b) env = .ok (.pu (trD (bif k then ta else tb)), [], env) := by
  rw [ev_ite_go h h1 h2 rfl rfl, cond_tr]
theorem ev_ite_st {G : List Fn} {c a b : E} {k : Bool} {rc ra rb : List Nat} {env : TR.Env} {ta tb : List (List Nat)} (h : ev G c env = .ok (.pu (.bool k), rc, env)) (h1 : k = true → ev G a env = .ok (.pu (stD ta), ra, env)) (h2 : k = false → ev G b env = .ok (.pu (stD tb), rb, env)) :
    ev G (.ite c a b) env = .ok (.pu (stD (bif k then ta else tb)), [], env) := by
  rw [ev_ite_go h h1 h2 rfl rfl, cond_st]
theorem ev_ite_n {G : List Fn} {c a b : E} {k : Bool} {rc ra rb : List Nat} {env : TR.Env} {ta tb : Nat} (h : ev G c env = .ok (.pu (.bool k), rc, env)) (h1 : k = true → ev G a env = .ok (.pu (.int (ta : Nat)), ra, env)) (h2 : k = false → ev G b env = .ok (.pu (.int (tb : Nat)), rb, env)) :
    ev G (.ite c a b) env = .ok (.pu (.int ((bif k then ta else tb : Nat) : Int)), [], env) := by
  rw [ev_ite_go h h1 h2 rfl rfl, cond_n]
theorem ev_slc_lo_go {G : List Fn} {a b : E} {ma m : M} {i : Int} {ra rb : List Nat} {env e1 e2 : TR.Env} (h : ev G a env = .ok (ma, ra, e1)) (h2 : ev G b e1 = .ok (.pu (.int i), rb, e2)) (ha : apart ra (muO (some b) ++ muO none) = true) (h3 : slcD ma (some i) none = .ok m) : ev G (.slc a (some b) none) env = .ok (m, [], e2) := by
  rw [ev, h]
  simp only [bind, R.bind]
  rw [evO, h2]
  simp only [bind, R.bind, intR]
  rw [evO]
  simp only
  rw [if_pos ha, h3]
theorem ev_slc_hi_go {G : List Fn} {a b : E} {ma m : M} {i : Int} {ra rb : List Nat} {env e1 e2 : TR.Env} (h : ev G a env = .ok (ma, ra, e1)) (h2 : ev G b e1 = .ok (.pu (.int i), rb, e2)) (ha : apart ra (muO none ++ muO (some b)) = true) (h3 : slcD ma none (some i) = .ok m) : ev G (.slc a none (some b)) env = .ok (m, [], e2) := by
  rw [ev, h]
  simp only [bind, R.bind]
  rw [evO]
  simp only
  rw [evO, h2]
  simp only [bind, R.bind, intR]
  rw [if_pos ha, h3]
end LB

set_option linter.all false
/-! walks of a for: a state, slots that are left over -/
namespace TR
open PySem
theorem ex_for_fold1 {α β : Type} {G : List Fn} {p : P} {it : E} {body : List S} {m : M} {rs : List Nat} {emb : α → D} {xs : List α} {f : β → α → β} (E : β → Option M → TR.Env) (I : β → Prop) (s0 : β) {a0 : Option M}
    (hit : ev G it (E s0 a0) = .ok (m, rs, E s0 a0)) (hs : itR m = .ok (xs.map emb)) (ha : apart rs (muSs body ++ p.slots) = true) (hI : I s0)
    (step : ∀ x ∈ xs, ∀ s a0, I s → I (f s x) ∧ ∃ b0, forB G p body (emb x) (E s a0) = .ok (.nx (E (f s x) b0))) :
    I (xs.foldl f s0) ∧ ∃ b0, ex G (.for_ p it body) (E s0 a0) = .ok (.nx (E (xs.foldl f s0) b0)) := by
  have H : ∀ (l : List α) s a0, (∀ x ∈ l, x ∈ xs) → I s → I (l.foldl f s) ∧ ∃ b0, foLoop (forB G p body) (l.map emb) (E s a0) = .ok (.nx (E (l.foldl f s) b0)) := by
    intro l
    induction l with
    | nil => intro s a0 _ hi; exact ⟨hi, a0, by simp [foLoop]⟩
    | cons x l ih =>
      intro s a0 hl hi
      obtain ⟨i1, c0, h1⟩ := step x (hl x (by simp)) s a0 hi
      obtain ⟨i2, d0, h2⟩ := ih (f s x) c0 (fun y hy => hl y (by simp [hy])) i1
      refine ⟨i2, d0, ?_⟩
      rw [List.map_cons, foLoop, h1]
      exact h2
  obtain ⟨i, d0, h⟩ := H xs s0 a0 (fun _ h => h) hI
  refine ⟨i, d0, ?_⟩
  exact ex_for_ok hit hs ha h
theorem ex_for_app1 {α : Type} {G : List Fn} {p : P} {it : E} {body : List S} {m : M} {rs : List Nat} {emb : α → D} {xs : List α} {g : α → D} (E : List D → Option M → TR.Env) {a0 : Option M}
    (hit : ev G it (E [] a0) = .ok (m, rs, E [] a0)) (hs : itR m = .ok (xs.map emb)) (ha : apart rs (muSs body ++ p.slots) = true) (hl : xs.length ≤ 1000)
    (step : ∀ x ∈ xs, ∀ s a0, s.length ≤ 1000 → ∃ b0, forB G p body (emb x) (E s a0) = .ok (.nx (E (s ++ [g x]) b0))) :
    ∃ b0, ex G (.for_ p it body) (E [] a0) = .ok (.nx (E (xs.map g) b0)) := by
  have H : ∀ (l : List α) s a0, (∀ x ∈ l, x ∈ xs) → s.length + l.length ≤ 1000 → ∃ b0, foLoop (forB G p body) (l.map emb) (E s a0) = .ok (.nx (E (s ++ l.map g) b0)) := by
    intro l
    induction l with
    | nil => intro s a0 _ hi; exact ⟨a0, by simp [foLoop]⟩
    | cons x l ih =>
      intro s a0 hl hi
      simp only [List.length_cons] at hi
      obtain ⟨c0, h1⟩ := step x (hl x (by simp)) s a0 (by omega)
      obtain ⟨d0, h2⟩ := ih (s ++ [g x]) c0 (fun y hy => hl y (by simp [hy])) (by simp; omega)
      refine ⟨d0, ?_⟩
      rw [List.map_cons, foLoop, h1]
      simp only [List.append_assoc, List.singleton_append] at h2
      exact h2
  obtain ⟨d0, h⟩ := H xs [] a0 (fun _ h => h) (by simpa using hl)
  refine ⟨d0, ?_⟩
  exact ex_for_ok hit hs ha h
theorem ex_for_fold2 {α β : Type} {G : List Fn} {p : P} {it : E} {body : List S} {m : M} {rs : List Nat} {emb : α → D} {xs : List α} {f : β → α → β} (E : β → Option M → Option M → TR.Env) (I : β → Prop) (s0 : β) {a0 a1 : Option M}
    (hit : ev G it (E s0 a0 a1) = .ok (m, rs, E s0 a0 a1)) (hs : itR m = .ok (xs.map emb)) (ha : apart rs (muSs body ++ p.slots) = true) (hI : I s0)
    (step : ∀ x ∈ xs, ∀ s a0 a1, I s → I (f s x) ∧ ∃ b0 b1, forB G p body (emb x) (E s a0 a1) = .ok (.nx (E (f s x) b0 b1))) :
    I (xs.foldl f s0) ∧ ∃ b0 b1, ex G (.for_ p it body) (E s0 a0 a1) = .ok (.nx (E (xs.foldl f s0) b0 b1)) := by
  have H : ∀ (l : List α) s a0 a1, (∀ x ∈ l, x ∈ xs) → I s → I (l.foldl f s) ∧ ∃ b0 b1, foLoop (forB G p body) (l.map emb) (E s a0 a1) = .ok (.nx (E (l.foldl f s) b0 b1)) := by
    intro l
    induction l with
    | nil => intro s a0 a1 _ hi; exact ⟨hi, a0, a1, by simp [foLoop]⟩
    | cons x l ih =>
      intro s a0 a1 hl hi
      obtain ⟨i1, c0, c1, h1⟩ := step x (hl x (by simp)) s a0 a1 hi
      obtain ⟨i2, d0, d1, h2⟩ := ih (f s x) c0 c1 (fun y hy => hl y (by simp [hy])) i1
      refine ⟨i2, d0, d1, ?_⟩
      rw [List.map_cons, foLoop, h1]
      exact h2
  obtain ⟨i, d0, d1, h⟩ := H xs s0 a0 a1 (fun _ h => h) hI
  refine ⟨i, d0, d1, ?_⟩
  exact ex_for_ok hit hs ha h
theorem ex_for_app2 {α : Type} {G : List Fn} {p : P} {it : E} {body : List S} {m : M} {rs : List Nat} {emb : α → D} {xs : List α} {g : α → D} (E : List D → Option M → Option M → TR.Env) {a0 a1 : Option M}
    (hit : ev G it (E [] a0 a1) = .ok (m, rs, E [] a0 a1)) (hs : itR m = .ok (xs.map emb)) (ha : apart rs (muSs body ++ p.slots) = true) (hl : xs.length ≤ 1000)
    (step : ∀ x ∈ xs, ∀ s a0 a1, s.length ≤ 1000 → ∃ b0 b1, forB G p body (emb x) (E s a0 a1) = .ok (.nx (E (s ++ [g x]) b0 b1))) :
    ∃ b0 b1, ex G (.for_ p it body) (E [] a0 a1) = .ok (.nx (E (xs.map g) b0 b1)) := by
  have H : ∀ (l : List α) s a0 a1, (∀ x ∈ l, x ∈ xs) → s.length + l.length ≤ 1000 → ∃ b0 b1, foLoop (forB G p body) (l.map emb) (E s a0 a1) = .ok (.nx (E (s ++ l.map g) b0 b1)) := by
    intro l
    induction l with
    | nil => intro s a0 a1 _ hi; exact ⟨a0, a1, by simp [foLoop]⟩
    | cons x l ih =>
      intro s a0 a1 hl hi
      simp only [List.length_cons] at hi
      obtain ⟨c0, c1, h1⟩ := step x (hl x (by simp)) s a0 a1 (by omega)
      obtain ⟨d0, d1, h2⟩ := ih (s ++ [g x]) c0 c1 (fun y hy => hl y (by simp [hy])) (by simp; omega)
      refine ⟨d0, d1, ?_⟩
      rw [List.map_cons, foLoop, h1]
      simp only [List.append_assoc, List.singleton_append] at h2
      exact h2
  obtain ⟨d0, d1, h⟩ := H xs [] a0 a1 (fun _ h => h) (by simpa using hl)
  refine ⟨d0, d1, ?_⟩
  exact ex_for_ok hit hs ha h
theorem ex_for_fold3 {α β : Type} {G : List Fn} {p : P} {it : E} {body : List S} {m : M} {rs : List Nat} {emb : α → D} {xs : List α} {f : β → α → β} (E : β → Option M → Option M → Option M → TR.Env) (I : β → Prop) (s0 : β) {a0 a1 a2 : Option M}
    (hit : ev G it (E s0 a0 a1 a2) = .ok (m, rs, E s0 a0 a1 a2)) (hs : itR m = .ok (xs.map emb)) (ha : apart rs (muSs body ++ p.slots) = true) (hI : I s0)
    (step : ∀ x ∈ xs, ∀ s a0 a1 a2, I s → I (f s x) ∧ ∃ b0 b1 b2, forB G p body (emb x) (E s a0 a1 a2) = .ok (.nx (E (f s x) b0 b1 b2))) :
    I (xs.foldl f s0) ∧ ∃ b0 b1 b2, ex G (.for_ p it body) (E s0 a0 a1 a2) = .ok (.nx (E (xs.foldl f s0) b0 b1 b2)) := by
  have H : ∀ (l : List α) s a0 a1 a2, (∀ x ∈ l, x ∈ xs) → I s → I (l.foldl f s) ∧ ∃ b0 b1 b2, foLoop (forB G p body) (l.map emb) (E s a0 a1 a2) = .ok (.nx (E (l.foldl f s) b0 b1 b2)) := by
    intro l
    induction l with
    | nil => intro s a0 a1 a2 _ hi; exact ⟨hi, a0, a1, a2, by simp [foLoop]⟩
    | cons x l ih =>
      intro s a0 a1 a2 hl hi
      obtain ⟨i1, c0, c1, c2, h1⟩ := step x (hl x (by simp)) s a0 a1 a2 hi
      obtain ⟨i2, d0, d1, d2, h2⟩ := ih (f s x) c0 c1 c2 (fun y hy => hl y (by simp [hy])) i1
      refine ⟨i2, d0, d1, d2, ?_⟩
      rw [List.map_cons, foLoop, h1]
      exact h2
  obtain ⟨i, d0, d1, d2, h⟩ := H xs s0 a0 a1 a2 (fun _ h => h) hI
  refine ⟨i, d0, d1, d2, ?_⟩
  exact ex_for_ok hit hs ha h
theorem ex_for_app3 {α : Type} {G : List Fn} {p : P} {it : E} {body : List S} {m : M} {rs : List Nat} {emb : α → D} {xs : List α} {g : α → D} (E : List D → Option M → Option M → Option M → TR.Env) {a0 a1 a2 : Option M}
    (hit : ev G it (E [] a0 a1 a2) = .ok (m, rs, E [] a0 a1 a2)) (hs : itR m = .ok (xs.map emb)) (ha : apart rs (muSs body ++ p.slots) = true) (hl : xs.length ≤ 1000)
    (step : ∀ x ∈ xs, ∀ s a0 a1 a2, s.length ≤ 1000 → ∃ b0 b1 b2, forB G p body (emb x) (E s a0 a1 a2) = .ok (.nx (E (s ++ [g x]) b0 b1 b2))) :
    ∃ b0 b1 b2, ex G (.for_ p it body) (E [] a0 a1 a2) = .ok (.nx (E (xs.map g) b0 b1 b2)) := by
  have H : ∀ (l : List α) s a0 a1 a2, (∀ x ∈ l, x ∈ xs) → s.length + l.length ≤ 1000 → ∃ b0 b1 b2, foLoop (forB G p body) (l.map emb) (E s a0 a1 a2) = .ok (.nx (E (s ++ l.map g) b0 b1 b2)) := by
    intro l
    induction l with
    | nil => intro s a0 a1 a2 _ hi; exact ⟨a0, a1, a2, by simp [foLoop]⟩
    | cons x l ih =>
      intro s a0 a1 a2 hl hi
      simp only [List.length_cons] at hi
      obtain ⟨c0, c1, c2, h1⟩ := step x (hl x (by simp)) s a0 a1 a2 (by omega)
      obtain ⟨d0, d1, d2, h2⟩ := ih (s ++ [g x]) c0 c1 c2 (fun y hy => hl y (by simp [hy])) (by simp; omega)
      refine ⟨d0, d1, d2, ?_⟩
      rw [List.map_cons, foLoop, h1]
      simp only [List.append_assoc, List.singleton_append] at h2
      exact h2
  obtain ⟨d0, d1, d2, h⟩ := H xs [] a0 a1 a2 (fun _ h => h) (by simpa using hl)
  refine ⟨d0, d1, d2, ?_⟩
  exact ex_for_ok hit hs ha h
theorem ex_for_fold4 {α β : Type} {G : List Fn} {p : P} {it : E} {body : List S} {m : M} {rs : List Nat} {emb : α → D} {xs : List α} {f : β → α → β} (E : β → Option M → Option M → Option M → Option M → TR.Env) (I : β → Prop) (s0 : β) {a0 a1 a2 a3 : Option M}
    (hit : ev G it (E s0 a0 a1 a2 a3) = .ok (m, rs, E s0 a0 a1 a2 a3)) (hs : itR m = .ok (xs.map emb)) (ha : apart rs (muSs body ++ p.slots) = true) (hI : I s0)
    (step : ∀ x ∈ xs, ∀ s a0 a1 a2 a3, I s → I (f s x) ∧ ∃ b0 b1 b2 b3, forB G p body (emb x) (E s a0 a1 a2 a3) = .ok (.nx (E (f s x) b0 b1 b2 b3))) :
    I (xs.foldl f s0) ∧ ∃ b0 b1 b2 b3, ex G (.for_ p it body) (E s0 a0 a1 a2 a3) = .ok (.nx (E (xs.foldl f s0) b0 b1 b2 b3)) := by
  have H : ∀ (l : List α) s a0 a1 a2 a3, (∀ x ∈ l, x ∈ xs) → I s → I (l.foldl f s) ∧ ∃ b0 b1 b2 b3, foLoop (forB G p body) (l.map emb) (E s a0 a1 a2 a3) = .ok (.nx (E (l.foldl f s) b0 b1 b2 b3)) := by
    intro l
    induction l with
    | nil => intro s a0 a1 a2 a3 _ hi; exact ⟨hi, a0, a1, a2, a3, by simp [foLoop]⟩
    | cons x l ih =>
      intro s a0 a1 a2 a3 hl hi
      obtain ⟨i1, c0, c1, c2, c3, h1⟩ := step x (hl x (by simp)) s a0 a1 a2 a3 hi
      obtain ⟨i2, d0, d1, d2, d3, h2⟩ := ih (f s x) c0 c1 c2 c3 (fun y hy => hl y (by simp [hy])) i1
      refine ⟨i2, d0, d1, d2, d3, ?_⟩
      rw [List.map_cons, foLoop, h1]
      exact h2
  obtain ⟨i, d0, d1, d2, d3, h⟩ := H xs s0 a0 a1 a2 a3 (fun _ h => h) hI
  refine ⟨i, d0, d1, d2, d3, ?_⟩
  exact ex_for_ok hit hs ha h
theorem ex_for_app4 {α : Type} {G : List Fn} {p : P} {it : E} {body : List S} {m : M} {rs : List Nat} {emb : α → D} {xs : List α} {g : α → D} (E : List D → Option M → Option M → Option M → Option M → TR.Env) {a0 a1 a2 a3 : Option M}
    (hit : ev G it (E [] a0 a1 a2 a3) = .ok (m, rs, E [] a0 a1 a2 a3)) (hs : itR m = .ok (xs.map emb)) (ha : apart rs (muSs body ++ p.slots) = true) (hl : xs.length ≤ 1000)
    (step : ∀ x ∈ xs, ∀ s a0 a1 a2 a3, s.length ≤ 1000 → ∃ b0 b1 b2 b3, forB G p body (emb x) (E s a0 a1 a2 a3) = .ok (.nx (E (s ++ [g x]) b0 b1 b2 b3))) :
    ∃ b0 b1 b2 b3, ex G (.for_ p it body) (E [] a0 a1 a2 a3) = .ok (.nx (E (xs.map g) b0 b1 b2 b3)) := by
  have H : ∀ (l : List α) s a0 a1 a2 a3, (∀ x ∈ l, x ∈ xs) → s.length + l.length ≤ 1000 → ∃ b0 b1 b2 b3, foLoop (forB G p body) (l.map emb) (E s a0 a1 a2 a3) = .ok (.nx (E (s ++ l.map g) b0 b1 b2 b3)) := by
    intro l
    induction l with
    | nil => intro s a0 a1 a2 a3 _ hi; exact ⟨a0, a1, a2, a3, by simp [foLoop]⟩
    | cons x l ih =>
      intro s a0 a1 a2 a3 hl hi
      simp only [List.length_cons] at hi
      obtain ⟨c0, c1, c2, c3, h1⟩ := step x (hl x (by simp)) s a0 a1 a2 a3 (by omega)
      obtain ⟨d0, d1, d2, d3, h2⟩ := ih (s ++ [g x]) c0 c1 c2 c3 (fun y hy => hl y (by simp [hy])) (by simp; omega)
      refine ⟨d0, d1, d2, d3, ?_⟩
      rw [List.map_cons, foLoop, h1]
      simp only [List.append_assoc, List.singleton_append] at h2
      exact h2
  obtain ⟨d0, d1, d2, d3, h⟩ := H xs [] a0 a1 a2 a3 (fun _ h => h) (by simpa using hl)
  refine ⟨d0, d1, d2, d3, ?_⟩
  exact ex_for_ok hit hs ha h
theorem ex_for_fold5 {α β : Type} {G : List Fn} {p : P} {it : E} {body : List S} {m : M} {rs : List Nat} {emb : α → D} {xs : List α} {f : β → α → β} (E : β → Option M → Option M → Option M → Option M → Option M → TR.Env) (I : β → Prop) (s0 : β) {a0 a1 a2 a3 a4 : Option M}
    (hit : ev G it (E s0 a0 a1 a2 a3 a4) = .ok (m, rs, E s0 a0 a1 a2 a3 a4)) (hs : itR m = .ok (xs.map emb)) (ha : apart rs (muSs body ++ p.slots) = true) (hI : I s0)
    (step : ∀ x ∈ xs, ∀ s a0 a1 a2 a3 a4, I s → I (f s x) ∧ ∃ b0 b1 b2 b3 b4, forB G p body (emb x) (E s a0 a1 a2 a3 a4) = .ok (.nx (E (f s x) b0 b1 b2 b3 b4))) :
    I (xs.foldl f s0) ∧ ∃ b0 b1 b2 b3 b4, ex G (.for_ p it body) (E s0 a0 a1 a2 a3 a4) = .ok (.nx (E (xs.foldl f s0) b0 b1 b2 b3 b4)) := by
  have H : ∀ (l : List α) s a0 a1 a2 a3 a4, (∀ x ∈ l, x ∈ xs) → I s → I (l.foldl f s) ∧ ∃ b0 b1 b2 b3 b4, foLoop (forB G p body) (l.map emb) (E s a0 a1 a2 a3 a4) = .ok (.nx (E (l.foldl f s) b0 b1 b2 b3 b4)) := by
    intro l
    induction l with
    | nil => intro s a0 a1 a2 a3 a4 _ hi; exact ⟨hi, a0, a1, a2, a3, a4, by simp [foLoop]⟩
    | cons x l ih =>
      intro s a0 a1 a2 a3 a4 hl hi
      obtain ⟨i1, c0, c1, c2, c3, c4, h1⟩ := step x (hl x (by simp)) s a0 a1 a2 a3 a4 hi
      obtain ⟨i2, d0, d1, d2, d3, d4, h2⟩ := ih (f s x) c0 c1 c2 c3 c4 (fun y hy => hl y (by simp [hy])) i1
      refine ⟨i2, d0, d1, d2, d3, d4, ?_⟩
      rw [List.map_cons, foLoop, h1]
      exact h2
  obtain ⟨i, d0, d1, d2, d3, d4, h⟩ := H xs s0 a0 a1 a2 a3 a4 (fun _ h => h) hI
  refine ⟨i, d0, d1, d2, d3, d4, ?_⟩
  exact ex_for_ok hit hs ha h
theorem ex_for_app5 {α : Type} {G : List Fn} {p : P} {it : E} {body : List S} {m : M} {rs : List Nat} {emb : α → D} {xs : List α} {g : α → D} (E : List D → Option M → Option M → Option M → Option M → Option M → TR.Env) {a0 a1 a2 a3 a4 : Option M}
    (hit : ev G it (E [] a0 a1 a2 a3 a4) = .ok (m, rs, E [] a0 a1 a2 a3 a4)) (hs : itR m = .ok (xs.map emb)) (ha : apart rs (muSs body ++ p.slots) = true) (hl : xs.length ≤ 1000)
    (step : ∀ x ∈ xs, ∀ s a0 a1 a2 a3 a4, s.length ≤ 1000 → ∃ b0 b1 b2 b3 b4, forB G p body (emb x) (E s a0 a1 a2 a3 a4) = .ok (.nx (E (s ++ [g x]) b0 b1 b2 b3 b4))) :
    ∃ b0 b1 b2 b3 b4, ex G (.for_ p it body) (E [] a0 a1 a2 a3 a4) = .ok (.nx (E (xs.map g) b0 b1 b2 b3 b4)) := by
  have H : ∀ (l : List α) s a0 a1 a2 a3 a4, (∀ x ∈ l, x ∈ xs) → s.length + l.length ≤ 1000 → ∃ b0 b1 b2 b3 b4, foLoop (forB G p body) (l.map emb) (E s a0 a1 a2 a3 a4) = .ok (.nx (E (s ++ l.map g) b0 b1 b2 b3 b4)) := by
    intro l
    induction l with
    | nil => intro s a0 a1 a2 a3 a4 _ hi; exact ⟨a0, a1, a2, a3, a4, by simp [foLoop]⟩
    | cons x l ih =>
      intro s a0 a1 a2 a3 a4 hl hi
      simp only [List.length_cons] at hi
      obtain ⟨c0, c1, c2, c3, c4, h1⟩ := step x (hl x (by simp)) s a0 a1 a2 a3 a4 (by omega)
      obtain ⟨d0, d1, d2, d3, d4, h2⟩ := ih (s ++ [g x]) c0 c1 c2 c3 c4 (fun y hy => hl y (by simp [hy])) (by simp; omega)
      refine ⟨d0, d1, d2, d3, d4, ?_⟩
      rw [List.map_cons, foLoop, h1]
      simp only [List.append_assoc, List.singleton_append] at h2
      exact h2
  obtain ⟨d0, d1, d2, d3, d4, h⟩ := H xs [] a0 a1 a2 a3 a4 (fun _ h => h) (by simpa using hl)
  refine ⟨d0, d1, d2, d3, d4, ?_⟩
  exact ex_for_ok hit hs ha h
theorem ex_for_fold6 {α β : Type} {G : List Fn} {p : P} {it : E} {body : List S} {m : M} {rs : List Nat} {emb : α → D} {xs : List α} {f : β → α → β} (E : β → Option M → Option M → Option M → Option M → Option M → Option M → TR.Env) (I : β → Prop) (s0 : β) {a0 a1 a2 a3 a4 a5 : Option M}
    (hit : ev G it (E s0 a0 a1 a2 a3 a4 a5) = .ok (m, rs, E s0 a0 a1 a2 a3 a4 a5)) (hs : itR m = .ok (xs.map emb)) (ha : apart rs (muSs body ++ p.slots) = true) (hI : I s0)
    (step : ∀ x ∈ xs, ∀ s a0 a1 a2 a3 a4 a5, I s → I (f s x) ∧ ∃ b0 b1 b2 b3 b4 b5, forB G p body (emb x) (E s a0 a1 a2 a3 a4 a5) = .ok (.nx (E (f s x) b0 b1 b2 b3 b4 b5))) :
    I (xs.foldl f s0) ∧ ∃ b0 b1 b2 b3 b4 b5, ex G (.for_ p it body) (E s0 a0 a1 a2 a3 a4 a5) = .ok (.nx (E (xs.foldl f s0) b0 b1 b2 b3 b4 b5)) := by
  have H : ∀ (l : List α) s a0 a1 a2 a3 a4 a5, (∀ x ∈ l, x ∈ xs) → I s → I (l.foldl f s) ∧ ∃ b0 b1 b2 b3 b4 b5, foLoop (forB G p body) (l.map emb) (E s a0 a1 a2 a3 a4 a5) = .ok (.nx (E (l.foldl f s) b0 b1 b2 b3 b4 b5)) := by
    intro l
    induction l with
    | nil => intro s a0 a1 a2 a3 a4 a5 _ hi; exact ⟨hi, a0, a1, a2, a3, a4, a5, by simp [foLoop]⟩
    | cons x l ih =>
      intro s a0 a1 a2 a3 a4 a5 hl hi
      obtain ⟨i1, c0, c1, c2, c3, c4, c5, h1⟩ := step x (hl x (by simp)) s a0 a1 a2 a3 a4 a5 hi
      obtain ⟨i2, d0, d1, d2, d3, d4, d5, h2⟩ := ih (f s x) c0 c1 c2 c3 c4 c5 (fun y hy => hl y (by simp [hy])) i1
      refine ⟨i2, d0, d1, d2, d3, d4, d5, ?_⟩
      rw [List.map_cons, foLoop, h1]
      exact h2
  obtain ⟨i, d0, d1, d2, d3, d4, d5, h⟩ := H xs s0 a0 a1 a2 a3 a4 a5 (fun _ h => h) hI
  refine ⟨i, d0, d1, d2, d3, d4, d5, ?_⟩
  exact ex_for_ok hit hs ha h
theorem ex_for_app6 {α : Type} {G : List Fn} {p : P} {it : E} {body : List S} {m : M} {rs : List Nat} {emb : α → D} {xs : List α} {g : α → D} (E : List D → Option M → Option M → Option M → Option M → Option M → Option M → TR.Env) {a0 a1 a2 a3 a4 a5 : Option M}
    (hit : ev G it (E [] a0 a1 a2 a3 a4 a5) = .ok (m, rs, E [] a0 a1 a2 a3 a4 a5)) (hs : itR m = .ok (xs.map emb)) (ha : apart rs (muSs body ++ p.slots) = true) (hl : xs.length ≤ 1000)
    (step : ∀ x ∈ xs, ∀ s a0 a1 a2 a3 a4 a5, s.length ≤ 1000 → ∃ b0 b1 b2 b3 b4 b5, forB G p body (emb x) (E s a0 a1 a2 a3 a4 a5) = .ok (.nx (E (s ++ [g x]) b0 b1 b2 b3 b4 b5))) :
    ∃ b0 b1 b2 b3 b4 b5, ex G (.for_ p it body) (E [] a0 a1 a2 a3 a4 a5) = .ok (.nx (E (xs.map g) b0 b1 b2 b3 b4 b5)) := by
  have H : ∀ (l : List α) s a0 a1 a2 a3 a4 a5, (∀ x ∈ l, x ∈ xs) → s.length + l.length ≤ 1000 → ∃ b0 b1 b2 b3 b4 b5, foLoop (forB G p body) (l.map emb) (E s a0 a1 a2 a3 a4 a5) = .ok (.nx (E (s ++ l.map g) b0 b1 b2 b3 b4 b5)) := by
    intro l
    induction l with
    | nil => intro s a0 a1 a2 a3 a4 a5 _ hi; exact ⟨a0, a1, a2, a3, a4, a5, by simp [foLoop]⟩
    | cons x l ih =>
      intro s a0 a1 a2 a3 a4 a5 hl hi
      simp only [List.length_cons] at hi
      obtain ⟨c0, c1, c2, c3, c4, c5, h1⟩ := step x (hl x (by simp)) s a0 a1 a2 a3 a4 a5 (by omega)
      obtain ⟨d0, d1, d2, d3, d4, d5, h2⟩ := ih (s ++ [g x]) c0 c1 c2 c3 c4 c5 (fun y hy => hl y (by simp [hy])) (by simp; omega)
      refine ⟨d0, d1, d2, d3, d4, d5, ?_⟩
      rw [List.map_cons, foLoop, h1]
      simp only [List.append_assoc, List.singleton_append] at h2
      exact h2
  obtain ⟨d0, d1, d2, d3, d4, d5, h⟩ := H xs [] a0 a1 a2 a3 a4 a5 (fun _ h => h) (by simpa using hl)
  refine ⟨d0, d1, d2, d3, d4, d5, ?_⟩
  exact ex_for_ok hit hs ha h
theorem forB_go {G : List Fn} {p : P} {body : List S} {x : D} {en e1 : TR.Env} {r : R Out} (h : bindP p x en = .ok e1) (h2 : exs G body e1 = r) : forB G p body x en = r := by
  rw [forB, h]; exact h2
theorem ex_app_go {G : List Fn} {y : Nat} {e : E} {env e1 e2 : TR.Env} {xs zs : List D} {d : D} {m : M} {rs : List Nat} (hy : env.get y = .ok (.li zs)) (h : ev G e env = .ok (m, rs, e1)) (ht : takeR e (m, rs, e1) = .ok (d, e2)) (h3 : e2.get y = .ok (.li xs)) (h4 : xs.length ≤ 1000) {E : TR.Env} (h5 : e2.set y (some (.li (xs ++ [d]))) = E) :
    ex G (.app y e) env = .ok (.nx E) := by
  rw [ex, hy]
  simp only [bind, R.bind, M.isLi]
  rw [if_pos trivial, h]
  simp only
  rw [ht]
  simp only
  rw [h3]
  simp only [appM]
  rw [if_pos (by have : (1000 : Nat) < big := by unfold big; omega
                 omega)]
  simp only
  rw [h5]
theorem ex_par2_go {G : List Fn} {i j : Nat} {a b : E} {env e1 e2 e3 e4 E : TR.Env} {m1 m2 n1 n2 : M} {r1 r2 : List Nat} (h1 : ev G a env = .ok (m1, r1, e1)) (hk1 : keepR a (m1, r1, e1) = .ok (n1, e2)) (h2 : ev G b e2 = .ok (m2, r2, e3)) (hk2 : keepR b (m2, r2, e3) = .ok (n2, e4))
    (hi : i < e4.length) (hj : j < e4.length) (hE : (e4.set i (some n1)).set j (some n2) = E) : ex G (.par [i, j] [a, b]) env = .ok (.nx E) := by
  subst hE
  rw [ex, keepAll, h1]
  simp only [bind, R.bind]
  rw [hk1]
  simp only
  rw [keepAll, h2]
  simp only [bind, R.bind]
  rw [hk2]
  simp only [keepAll, bind, R.bind, setAll]
  rw [if_pos hi, if_pos (by rw [List.length_set]; exact hj)]
theorem ex_par3_go {G : List Fn} {i j k : Nat} {a b c : E} {env e1 e2 e3 e4 e5 e6 E : TR.Env} {m1 m2 m3 n1 n2 n3 : M} {r1 r2 r3 : List Nat} (h1 : ev G a env = .ok (m1, r1, e1)) (hk1 : keepR a (m1, r1, e1) = .ok (n1, e2)) (h2 : ev G b e2 = .ok (m2, r2, e3)) (hk2 : keepR b (m2, r2, e3) = .ok (n2, e4)) (h3 : ev G c e4 = .ok (m3, r3, e5)) (hk3 : keepR c (m3, r3, e5) = .ok (n3, e6))
    (hi : i < e6.length) (hj : j < e6.length) (hk : k < e6.length) (hE : ((e6.set i (some n1)).set j (some n2)).set k (some n3) = E) : ex G (.par [i, j, k] [a, b, c]) env = .ok (.nx E) := by
  subst hE
  rw [ex, keepAll, h1]
  simp only [bind, R.bind]
  rw [hk1]
  simp only
  rw [keepAll, h2]
  simp only [bind, R.bind]
  rw [hk2]
  simp only
  rw [keepAll, h3]
  simp only [bind, R.bind]
  rw [hk3]
  simp only [keepAll, bind, R.bind, setAll]
  rw [if_pos hi, if_pos (by rw [List.length_set]; exact hj), if_pos (by rw [List.length_set, List.length_set]; exact hk)]
theorem ex_asgT_go {G : List Fn} {ps : List P} {e : E} {env e1 e2 E : TR.Env} {m : M} {rs : List Nat} {d : D} (h : ev G e env = .ok (m, rs, e1)) (h2 : takeR e (m, rs, e1) = .ok (d, e2)) (h3 : bindP (.t ps) d e2 = .ok E) : ex G (.asg (.t ps) e) env = .ok (.nx E) := ex_asg_t h h2 h3
theorem runP_go {G : List Fn} {n : Nat} {b : List S} {ds : List D} {m : M} {e e0 : TR.Env} (h0 : ds.map (fun d => some (M.pu d)) ++ List.replicate (n - ds.length) none = e0) (h : exs G b e0 = .ok (.ret m e)) : runP G n b ds = .ok m := by
  subst h0; exact runP_ret h
theorem runP_nx_go {G : List Fn} {n : Nat} {b : List S} {ds : List D} {e e0 : TR.Env} (h0 : ds.map (fun d => some (M.pu d)) ++ List.replicate (n - ds.length) none = e0) (h : exs G b e0 = .ok (.nx e)) : runP G n b ds = .ok (.pu .none) := by
  subst h0; exact runP_nx h
theorem exs_ret_go {G : List Fn} {e : E} {r : List S} {m m2 : M} {rs : List Nat} {env e1 e2 : TR.Env} (h : ev G e env = .ok (m, rs, e1)) (hm : retR e (m, rs, e1) = .ok (m2, e2)) : exs G (.ret e :: r) env = .ok (.ret m2 e2) := exs_ret (ex_ret_go h hm)
theorem exs_nil_go {G : List Fn} {env : TR.Env} : exs G [] env = .ok (.nx env) := exs_nil
theorem set_0 {a x : Option M} {l : TR.Env} : List.set (a :: l) 0 x = x :: l := rfl
theorem set_S {a x : Option M} {l r : TR.Env} {n : Nat} (h : List.set l n x = r) : List.set (a :: l) (n + 1) x = a :: r := by rw [List.set_cons_succ, h]
theorem set_2 {l l1 r : TR.Env} {i j : Nat} {x y : Option M} (h1 : List.set l i x = l1) (h2 : List.set l1 j y = r) : List.set (List.set l i x) j y = r := by rw [h1, h2]
theorem bindP_v {i : Nat} {d : D} {en e1 : TR.Env} (hi : i < en.length) (h : List.set en i (some (.pu d)) = e1) : bindP (.v i) d en = .ok e1 := by
  rw [bindP, if_pos hi, h]
theorem bindP_t2 {i j : Nat} {d1 d2 : D} {en e1 e2 : TR.Env} (hi : i < en.length) (hj : j < en.length) (h : List.set en i (some (.pu d1)) = e1) (h2 : List.set e1 j (some (.pu d2)) = e2) : bindP (.t [.v i, .v j]) (.tuple [d1, d2]) en = .ok e2 := by
  subst h; subst h2
  rw [bindP, bindPs, bindP, if_pos hi]
  simp only [bind, R.bind]
  rw [bindPs, bindP, if_pos (by rw [List.length_set]; exact hj)]
  simp only [bind, R.bind]
  rw [bindPs]
theorem bindP_t3 {i j k : Nat} {d1 d2 d3 : D} {en e1 e2 e3 : TR.Env} (hi : i < en.length) (hj : j < en.length) (hk : k < en.length) (h : List.set en i (some (.pu d1)) = e1) (h2 : List.set e1 j (some (.pu d2)) = e2) (h3 : List.set e2 k (some (.pu d3)) = e3) : bindP (.t [.v i, .v j, .v k]) (.tuple [d1, d2, d3]) en = .ok e3 := by
  subst h; subst h2; subst h3
  rw [bindP, bindPs, bindP, if_pos hi]
  simp only [bind, R.bind]
  rw [bindPs, bindP, if_pos (by rw [List.length_set]; exact hj)]
  simp only [bind, R.bind]
  rw [bindPs, bindP, if_pos (by rw [List.length_set, List.length_set]; exact hk)]
  simp only [bind, R.bind]
  rw [bindPs]
theorem exs_nil_eq {G : List Fn} {env E : TR.Env} (h : env = E) : exs G [] env = .ok (.nx E) := by rw [← h]; exact exs_nil
theorem retR_pu {e : E} {d d2 : D} {rs : List Nat} {env : TR.Env} (h : d = d2) : retR e (.pu d, rs, env) = .ok (.pu d2, env) := by subst h; rfl
theorem retR_li0 {e : E} {d d2 : List D} {env : TR.Env} (h : d = d2) : retR e (.li d, [], env) = .ok (.li d2, env) := by subst h; rfl
theorem retR_li1 {i : Nat} {d d2 : List D} {k : Nat} {env : TR.Env} (h : d = d2) : retR (.var i) (.li d, [k], env) = .ok (.li d2, env.set i none) := by subst h; rfl
theorem takeR_pu {e : E} {d : D} {rs : List Nat} {env : TR.Env} : takeR e (.pu d, rs, env) = .ok (d, env) := rfl
theorem takeR_li0 {e : E} {d : List D} {env : TR.Env} : takeR e (.li d, [], env) = .ok (.list d, env) := rfl
theorem takeR_nl0 {e : E} {d : List (List D)} {env : TR.Env} : takeR e (.nl d, [], env) = .ok (.list (d.map .list), env) := rfl
theorem takeR_di0 {e : E} {d : List (D × D)} {env : TR.Env} : takeR e (.di d, [], env) = .ok (.dict d, env) := rfl
theorem takeR_li1 {i k : Nat} {d : List D} {r : List Nat} {env E : TR.Env} (h : env.set i (some (.pu (.list d))) = E) : takeR (.var i) (.li d, k :: r, env) = .ok (.list d, E) := by subst h; rfl
theorem keepR_pu {e : E} {d : D} {rs : List Nat} {env : TR.Env} : keepR e (.pu d, rs, env) = .ok (.pu d, env) := rfl
theorem keepR_li0 {e : E} {d : List D} {env : TR.Env} : keepR e (.li d, [], env) = .ok (.li d, env) := rfl
theorem keepR_nl0 {e : E} {d : List (List D)} {env : TR.Env} : keepR e (.nl d, [], env) = .ok (.nl d, env) := rfl
theorem keepR_di0 {e : E} {d : List (D × D)} {env : TR.Env} : keepR e (.di d, [], env) = .ok (.di d, env) := rfl
theorem keepR_li1 {i k : Nat} {d : List D} {r : List Nat} {env E : TR.Env} (h : env.set i (some (.pu (.list d))) = E) : keepR (.var i) (.li d, k :: r, env) = .ok (.pu (.list d), E) := by subst h; rfl
/-- a walk by an invariant: what it holds at each step -/
theorem ex_for_ex {α β : Type} {G : List Fn} {p : P} {it : E} {body : List S} {m : M} {rs : List Nat} {emb : α → D} {xs : List α} {env e1 : TR.Env} (E : β → TR.Env) (I : Nat → β → Prop) (s0 : β)
    (hit : ev G it env = .ok (m, rs, e1)) (h0 : E s0 = e1) (hs : itR m = .ok (xs.map emb)) (ha : apart rs (muSs body ++ p.slots) = true) (hI : I 0 s0)
    (step : ∀ k x, xs[k]? = some x → ∀ s, I k s → ∃ s', I (k + 1) s' ∧ forB G p body (emb x) (E s) = .ok (.nx (E s'))) :
    ∃ s', I xs.length s' ∧ ex G (.for_ p it body) env = .ok (.nx (E s')) := by
  have H : ∀ (l : List α) k s, xs.drop k = l → k ≤ xs.length → I k s → ∃ s', I xs.length s' ∧ foLoop (forB G p body) (l.map emb) (E s) = .ok (.nx (E s')) := by
    intro l
    induction l with
    | nil =>
      intro k s hd hk hi
      have : k = xs.length := by
        have := congrArg List.length hd
        simp at this
        omega
      subst this
      exact ⟨s, hi, by simp [foLoop]⟩
    | cons x l ih =>
      intro k s hd hk hi
      have hx : xs[k]? = some x := by
        have := congrArg (fun l : List α => l[0]?) hd
        simpa using this
      have hd2 : xs.drop (k + 1) = l := by
        rw [← List.drop_drop, hd]; rfl
      have hk2 : k < xs.length := by
        rcases Nat.lt_or_ge k xs.length with h | h
        · exact h
        · rw [List.getElem?_eq_none h] at hx; cases hx
      obtain ⟨s1, i1, h1⟩ := step k x hx s hi
      obtain ⟨s2, i2, h2⟩ := ih (k + 1) s1 hd2 hk2 i1
      refine ⟨s2, i2, ?_⟩
      rw [List.map_cons, foLoop, h1]
      exact h2
  obtain ⟨s', i, h⟩ := H xs 0 s0 rfl (Nat.zero_le _) hI
  subst h0
  exact ⟨s', i, ex_for_ok hit hs ha h⟩
theorem ev_lst_go {G : List Fn} {as : List E} {env e1 : TR.Env} {ds : List D} (h : evTs G as env = .ok (ds, e1)) (hb : ds.length ≤ 1000) : ev G (.lst as) env = .ok (.li ds, [], e1) := ev_lst_ok h (Nat.le_trans hb (by unfold big; omega))
theorem ev_tup_go {G : List Fn} {as : List E} {env e1 : TR.Env} {ds : List D} (h : evTs G as env = .ok (ds, e1)) (hb : ds.length ≤ 1000) : ev G (.tup as) env = .ok (.pu (.tuple ds), [], e1) := ev_tup_ok h (Nat.le_trans hb (by unfold big; omega))
theorem ev_rgl_t {G : List Fn} {a : E} {n : Nat} {ra : List Nat} {env : TR.Env} (h : ev G a env = .ok (.pu (.int (n : Nat)), ra, env)) (hn : n ≤ 1000) : ev G (.rgl true [a]) env = .ok (.pu (LB.trD (List.range n)), [], env) := ev_rgl_go h hn
theorem ev_rgl_f {G : List Fn} {a : E} {n : Nat} {ra : List Nat} {env : TR.Env} (h : ev G a env = .ok (.pu (.int (n : Nat)), ra, env)) (hn : n ≤ 1000) : ev G (.rgl false [a]) env = .ok (.li ((List.range n).map nD), [], env) := ev_rgl_go h hn
theorem gb_rep1 (x : D) (r : Nat) (h : r ≤ 1000) : binD .mul (.pu (.tuple [x])) (.pu (.int (r : Nat))) = .ok (.pu (.tuple (List.replicate r x))) := by
  simp only [binD]
  rw [if_pos (by simp; omega)]
  congr 3
  rw [Int.toNat_natCast]
  induction r with
  | zero => rfl
  | succ r ih => simp [List.replicate_succ, ih (by omega)]
theorem gb_repT (t : List Nat) (r : Nat) (h : r ≤ 1000) : binD .mul (.pu (.tuple [LB.trD t])) (.pu (.int (r : Nat))) = .ok (.pu (LB.stD (List.replicate r t))) := by
  rw [gb_rep1 _ _ h, LB.stD, List.map_replicate]
theorem gu_get {G : List Fn} {k : Nat} {r : Option Fn} (h : G[k]? = r) : G[k]? = r := h
theorem gu_itR {m : M} {r : R (List D)} (h : itR m = r) : itR m = r := h
theorem gu_seq {m : M} {r : R (List D)} (h : m.seq = r) : m.seq = r := h
theorem gu_nlAt {m : M} {e : E} {r : Option (Nat × List D)} (h : nlAt m e = r) : nlAt m e = r := h
theorem gu_den {env : TR.Env} {vs : List Nat} {b r : Bool} (h : (den env vs && b) = r) : (den env vs && b) = r := h
theorem gu_take {e : E} {x : M × List Nat × TR.Env} {r : R (D × TR.Env)} (h : takeR e x = r) : takeR e x = r := h
theorem gu_keep {e : E} {x : M × List Nat × TR.Env} {r : R (M × TR.Env)} (h : keepR e x = r) : keepR e x = r := h
theorem gu_ret {e : E} {x : M × List Nat × TR.Env} {r : R (M × TR.Env)} (h : retR e x = r) : retR e x = r := h
theorem gu_bind {p : P} {d : D} {e : TR.Env} {r : R TR.Env} (h : bindP p d e = r) : bindP p d e = r := h
theorem gu_eget {e : TR.Env} {i : Nat} {r : R M} (h : e.get i = r) : e.get i = r := h
theorem gu_nl {m : M} {r : Bool} (h : m.isNl = r) : m.isNl = r := h
theorem gu_st1 {e : E} {r : Bool} (h : isSt1 e = r) : isSt1 e = r := h
theorem gu_own {m : M} {r : Bool} (h : m.own = r) : m.own = r := h
theorem gu_wipe {e : TR.Env} {vs : List Nat} {r : TR.Env} (h : wipeE e vs = r) : wipeE e vs = r := h
theorem gu_set {e : TR.Env} {i : Nat} {x : Option M} {r : TR.Env} (h : List.set e i x = r) : List.set e i x = r := h
theorem gu_b {a b : Bool} (h : a = b) : a = b := h
theorem gu_d {a b : D} (h : a = b) : a = b := h
theorem gl_int (i : Int) : bi1 .int (.pu (.int i)) = .ok (.pu (.int i)) := rfl
theorem gl_tupA (xs : List D) : bi1 .tuple (.li xs) = .ok (.pu (.tuple xs)) := rfl
theorem gl_tupB (xs : List D) : bi1 .tuple (.pu (.list xs)) = .ok (.pu (.tuple xs)) := rfl
theorem gl_tupC (xs : List D) : bi1 .tuple (.pu (.tuple xs)) = .ok (.pu (.tuple xs)) := rfl
theorem gl_lisA (xs : List D) : bi1 .list (.li xs) = .ok (.li xs) := rfl
theorem gl_lisB (xs : List D) : bi1 .list (.pu (.tuple xs)) = .ok (.li xs) := rfl
theorem gl_lisC (xs : List D) : bi1 .list (.pu (.list xs)) = .ok (.li xs) := rfl
theorem apart_nil {mu : List Nat} : apart [] mu = true := rfl
theorem apart_of {rs mu : List Nat} (h : apart rs mu = true) : apart rs mu = true := h
def Hold (p : Prop) : Prop := p
theorem hold_ev {G : List Fn} {e : E} {env : TR.Env} {r : R (M × List Nat × TR.Env)} (h : Hold (ev G e env = r)) : ev G e env = r := h
theorem hold_ex {G : List Fn} {e : S} {env : TR.Env} {r : R Out} (h : Hold (ex G e env = r)) : ex G e env = r := h
theorem hold_exs {G : List Fn} {e : List S} {env : TR.Env} {r : R Out} (h : Hold (exs G e env = r)) : exs G e env = r := h
theorem hold_evTs {G : List Fn} {e : List E} {env : TR.Env} {r : R (List D × TR.Env)} (h : Hold (evTs G e env = r)) : evTs G e env = r := h
theorem hold_evCs {G : List Fn} {e : List E} {env : TR.Env} {r : R (Bool × TR.Env)} (h : Hold (evCs G e env = r)) : evCs G e env = r := h
theorem hold_fn {f : List D → R M} {ds : List D} {r : R M} (h : Hold (f ds = r)) : f ds = r := h
theorem hold_fw {f : M → List D → R (M × M)} {x : M} {ds : List D} {r : R (M × M)} (h : Hold (f x ds = r)) : f x ds = r := h
end TR

set_option linter.all false
set_option maxRecDepth 20000
namespace LB
open PySem TR
-- GO
local macro_rules | `(tactic| lt_chain) => `(tactic| (first | with_reducible assumption | (with_reducible first | apply aon_good | apply gfin_good | apply turn_good | apply ss_one | apply mv_good | apply cl_good | apply fin_good) <;> lt_chain | omega | (simp only [List.length_map, List.length_range, List.length_range', List.mem_range, List.length_append, List.length_drop, List.length_take, List.length_reverse, List.length_replicate, List.length_set, List.length_nil, List.length_cons]; omega)))
local macro_rules | `(tactic| k_mem) => `(tactic| with_reducible first
  | (apply is_in_int <;> lt_chain) | (apply is_list_tup <;> lt_chain) | (apply need_yard_ok <;> lt_chain) | (apply need_car_ok <;> lt_chain) | (apply need_trains_ok <;> lt_chain) | (apply need_state_ok <;> lt_chain) | (apply station_in_ok <;> lt_chain) | (apply station_of_ok <;> lt_chain) | (apply train_of_ok <;> lt_chain) | (apply count_trains_ok <;> lt_chain) | (apply first_state_ok <;> lt_chain) | (apply at_ok <;> lt_chain) | (apply is_full_ok <;> lt_chain) | (apply longest_ok <;> lt_chain) | (apply need_station_ok <;> lt_chain) | (apply move_in_ok <;> lt_chain) | (apply L_move_ok <;> lt_chain) | (apply st_in <;> lt_chain) | (apply call_in_ok <;> lt_chain) | (apply L_call_ok <;> lt_chain) | (apply call_ok <;> lt_chain) | (apply move_ok <;> lt_chain) | (apply story_in_ok <;> lt_chain) | (apply need_calls_ok <;> lt_chain) | (apply after_ok <;> lt_chain) | (apply story_ok <;> lt_chain) | (apply trains_left_ok <;> lt_chain) | (apply after_moves_ok <;> lt_chain) | (apply taken_stations_ok <;> lt_chain) | (apply without_ok <;> lt_chain) | (apply needless_ok <;> lt_chain) | (apply exchanges_ok <;> lt_chain) | (apply couplings_ok <;> lt_chain) | (apply steps_of_ok <;> lt_chain) | (apply first_coupling_ok <;> lt_chain) | (apply is_set_ok <;> lt_chain) | (apply need_closed_ok <;> lt_chain) | (apply closed_move_ok <;> lt_chain) | (apply closed_call_ok <;> lt_chain) | (apply closed_after_ok <;> lt_chain) | (apply room_in_ok <;> lt_chain) | (apply rooms_ok <;> lt_chain) | (apply car_rooms_ok <;> lt_chain) | (apply is_shut_ok <;> lt_chain) | (apply word_in_ok <;> lt_chain) | (apply L_word_ok <;> lt_chain) | (apply ring_word_ok <;> lt_chain) | (apply same_ring_ok <;> lt_chain) | (apply L_done_ok <;> lt_chain) | (apply arcs_in_ok <;> lt_chain) | (apply arcs_ok <;> lt_chain) | (apply heads_ok <;> lt_chain) | (apply cuts_ok <;> lt_chain) | (apply at_once_in_ok <;> lt_chain) | (apply at_once_in_ok <;> lt_chain) | (apply is_setS_ok <;> lt_chain) | (apply at_once_in_ok <;> lt_chain) | (apply at_once_inL_ok <;> lt_chain) | (apply at_once_ok <;> lt_chain) | (apply all_at_once_ok <;> lt_chain) | (apply L_at_once_ok <;> lt_chain) | (apply L_at_onceL_ok <;> lt_chain) | (apply is_list_st <;> lt_chain) | (apply need_groups_ok <;> lt_chain) | (apply after_groups_ok <;> lt_chain) | (apply alternating_ok <;> lt_chain))
local macro_rules | `(tactic| infer_instance) => `(tactic| first
  | with_reducible assumption
  | with_reducible exact ev_cst_nil
  | (with_reducible apply ev_cst_eq) <;> first | exact lit_nat _ | exact rfl
  | (with_reducible apply ev_glb_eq) <;> first | exact lit_nat _ | exact rfl
  | (with_reducible apply ev_var_ok) <;> exact rfl
  | (with_reducible apply ev_ownvar) <;> exact rfl
  | ((with_reducible apply ev_tup1n); (next => (infer_instance; done)); (next => exact rfl))
  | with_reducible exact evTs_nil
  | with_reducible exact evCs_go0
  | (with_reducible apply exs_nil_eq) <;> exact rfl
  | with_reducible apply exs_nil_eq
  | ((with_reducible apply ev_alike_go); (next => exact rfl); (next => with_reducible rfl); all_goals infer_instance)
  | ((with_reducible apply ev_nalike_go); (next => exact rfl); (next => with_reducible rfl); all_goals infer_instance)
  | (with_reducible apply ev_sub_ok) <;> infer_instance
  | (with_reducible apply ev_bin_ok') <;> infer_instance
  | (with_reducible apply ev_cmp_ok) <;> infer_instance
  | (with_reducible apply ev_call_ok) <;> infer_instance
  | (with_reducible apply evTs_c1) <;> infer_instance
  | (with_reducible apply ev_not_ok) <;> infer_instance
  | (with_reducible apply ev_bi1_ok) <;> infer_instance
  | (with_reducible apply ev_mt1_ok) <;> infer_instance
  | (with_reducible apply ev_rng1_go) <;> infer_instance
  | (with_reducible apply ev_rng2_go) <;> infer_instance
  | (with_reducible apply ev_rgl_t) <;> infer_instance
  | (with_reducible apply ev_rgl_f) <;> infer_instance
  | (with_reducible apply ev_enm_go) <;> infer_instance
  | (with_reducible apply ev_rvd_go) <;> infer_instance
  | (with_reducible apply ev_slc_lo_go) <;> infer_instance
  | (with_reducible apply ev_slc_hi_go) <;> infer_instance
  | (with_reducible apply ev_neg_ok) <;> infer_instance
  | (with_reducible apply ev_and_go) <;> infer_instance
  | (with_reducible apply ev_or_go) <;> infer_instance
  | (with_reducible apply ev_ite_g) <;> infer_instance
  | (with_reducible apply ev_lst_go) <;> infer_instance
  | (with_reducible apply ev_tup_go) <;> infer_instance
  | (with_reducible apply ev_lc_go0) <;> infer_instance
  | (with_reducible apply ev_lc_go) <;> infer_instance
  | (with_reducible apply exs_ret_go) <;> infer_instance
  | (with_reducible apply exs_go) <;> infer_instance
  | (with_reducible apply ex_ret_go) <;> infer_instance
  | (with_reducible apply ex_do_go) <;> infer_instance
  | (with_reducible apply ex_asg_go) <;> infer_instance
  | (with_reducible apply ex_asgT_go) <;> infer_instance
  | (with_reducible apply ex_app_go) <;> infer_instance
  | (with_reducible apply ex_par2_go) <;> infer_instance
  | (with_reducible apply ex_par3_go) <;> infer_instance
  | (with_reducible apply ex_if_go) <;> infer_instance
  | (with_reducible apply forB_go) <;> infer_instance
  | (with_reducible apply evCs1) <;> infer_instance
  | (with_reducible apply ev_callW_go) <;> infer_instance
  | (with_reducible exact rw_own (by assumption))
  | (intro _ ; infer_instance)
  | (with_reducible first
  | apply gb_addN | apply gc_eqN | apply gc_neN | apply gc_ltN | apply gc_gtN | apply gc_leN | apply gc_geN | apply gs_y0 | apply gs_y1 | apply in_cs | apply nin_cs | apply gc_in_it | apply gc_nin_it | apply gc_in_lst | apply gc_nin_lst | apply gl_len_st | apply gl_len_tr | apply gl_len_li | apply gl_len_tu | apply gl_tup_st | apply gl_tup_tr | apply gl_tup_it | apply gl_list_st | apply gl_list_tr | apply gl_list_it | apply gl_list_li | apply cmp_st | apply cmp_st_ne | apply cmp_tr | apply cmp_tr_ne | apply gc_neL | apply gc_eqL | apply gc_neL0 | apply gc_eqL0 | apply gc_neS | apply cond_tr | apply cond_st | apply cond_n | apply tup_int | apply tup_bool
  | (apply gb_subN <;> lt_chain) | (apply gb_modN <;> lt_chain) | (apply gb_modS <;> lt_chain) | (apply sub_stD <;> lt_chain) | (apply sub_trD <;> lt_chain) | (apply gs_li <;> lt_chain) | (apply gs_tu <;> lt_chain) | (apply gs_st_neg <;> lt_chain) | (apply gs_neg <;> lt_chain) | (apply gk_hi_st <;> lt_chain) | (apply gk_lo_st <;> lt_chain) | (apply gk_hi_tr <;> lt_chain) | (apply gk_lo_tr <;> lt_chain) | (apply gk_hi_li <;> lt_chain) | (apply gk_lo_li <;> lt_chain) | (apply gb_addS <;> lt_chain) | (apply gb_addT <;> lt_chain) | (apply gb_addL <;> lt_chain) | (apply gb_mulN <;> lt_chain) | (apply gb_fdivN <;> lt_chain) | (apply gb_repT <;> lt_chain) | (apply gb_rep1 <;> lt_chain) | (apply tup_st8 <;> lt_chain) | (apply tup_tr8 <;> lt_chain) | (apply tup_lst8 <;> lt_chain) | (apply tup_tus8 <;> lt_chain) | (apply tup_pairs8 <;> lt_chain)
  | apply gl_int | apply gl_tupA | apply gl_tupB | apply gl_tupC | apply gl_lisA | apply gl_lisB | apply gl_lisC | apply bd_add | apply bd_sub | apply gc_ltI | apply gc_leI | apply gc_gtI | apply gc_geI | apply gc_eqI | apply gc_neI)
  | k_mem
  | (with_reducible first | apply retR_pu | apply retR_li0 | apply retR_li1) <;> infer_instance
  | (with_reducible first | exact takeR_pu | exact takeR_li0 | exact takeR_nl0 | exact takeR_di0 | exact keepR_pu | exact keepR_li0 | exact keepR_nl0 | exact keepR_di0)
  | (with_reducible first | apply takeR_li1 | apply keepR_li1) <;> infer_instance
  | with_reducible exact wipe_0
  | (with_reducible apply wipe_S) <;> infer_instance
  | with_reducible exact set_0
  | (with_reducible apply set_S) <;> infer_instance
  | (with_reducible apply set_2) <;> infer_instance
  | (with_reducible apply bindP_v) <;> infer_instance
  | (with_reducible apply bindP_t2) <;> infer_instance
  | (with_reducible apply bindP_t3) <;> infer_instance
  | (with_reducible first | apply hold_ev | apply hold_ex | apply hold_exs | apply hold_evTs | apply hold_evCs | apply hold_fn | apply hold_fw)
  | with_reducible exact apart_nil
  | (with_reducible apply apart_of) <;> simp [apart, muE, muEs, muT, muTs, muO, muS, muSs, P.slots, P.slotsL]
  | (with_reducible first | apply gu_get | apply gu_itR | apply gu_seq | apply gu_nlAt | apply gu_den | apply gu_take | apply gu_keep | apply gu_ret | apply gu_bind | apply gu_eget | apply gu_nl | apply gu_st1 | apply gu_own | apply gu_wipe | apply gu_set) <;> exact rfl
  | with_reducible exact rfl
  | ((with_reducible apply gu_b); simp only [Bool.not_true, Bool.not_false, Bool.and_true, Bool.true_and, Bool.or_false, Bool.false_or, Bool.or_self, Bool.and_self, Bool.not_not, Bool.or_true, Bool.true_or, Bool.and_false, Bool.false_and]; done)
  | lt_chain
  | skip)
-- OG
/-- an ascending set of stations -/
structure SS (cs : List Nat) (s : Nat) : Prop where
  pw : cs.Pairwise (· < ·)
  lt : ∀ x ∈ cs, x < s
  len : cs.length ≤ s
theorem ss_one {x s : Nat} (h : x < s) : SS [x] s := ⟨List.pairwise_singleton _ _, by intro y hy; rw [List.mem_singleton.1 hy]; exact h, by simp; omega⟩
theorem CS.ss {cs : List Nat} {s : Nat} (h : CS cs s) : SS cs s := ⟨h.pw, h.lt, h.len⟩
theorem SS.of {cs : List Nat} {s : Nat} (h : cs.Sublist (List.range s)) : SS cs s := ⟨List.Pairwise.sublist h List.pairwise_lt_range, fun x hx => by have := h.subset hx; simpa using this, by have := h.length_le; simpa using this⟩
theorem is_setS_ok (c s : Nat) (cs : List Nat) (hs8 : s ≤ 8) (h : SS cs s) : d_f_is_set [ydD c s, trD cs] = .ok (.pu (.bool true)) := by
  have hlen := h.len
  let E (a : Option M) : TR.Env := [some (.pu (ydD c s)), some (.pu (trD cs)), a]
  have h1 : d_f_is_list [trD cs, .int 0, .int s] = .ok (.pu (.bool true)) := is_list_tup _ _ _ (by simp) (by simp; omega)
  obtain ⟨a2, h2⟩ := set_loop c s cs h.lt (some (.pu (trD cs)))
  have h3 : ev g_f_is_set (.lc false [2] (.call 0 [(.var 2), (.cst (.int 0)), (.bin .sub (.sub (.var 0) (.cst (.int 1))) (.cst (.int 1)))]) (.v 2) (.var 1) []) (E none) = .ok (.li (cs.map fun _ => .bool true), [], E none) :=
    ev_lc_ok (m := .pu (trD cs)) (rs := []) (e1 := E none) (ev_var_ok rfl) rfl rfl rfl rfl h2 (by rw [List.length_map]; unfold big; omega)
  have s1 : ex g_f_is_set (b_f_is_set.getD 0 .pass) (E none) = .ok (.nx (E none)) :=
    ex_if_ff (ev_or_ff (ev_not_ok (ev_call_ok (k := 1) rfl (evTs_pu (d := trD cs) (ev_var_ok rfl) (evTs_pu (d := .int 0) ev_cst_ok (evTs_pu (ev_sub_ok (m := .pu (.int s)) (ev_var_ok rfl) ev_cst_ok rfl rfl rfl) evTs_nil))) h1)) (ev_not_ok (ev_bi1_ok (b := .all) h3 (all_true 0 cs)))) exs_nil
  have h4 : ev g_f_is_set (.bi .set [(.var 1), (.cst .none)]) (E none) = .ok (.li (itD cs), [], E none) := by
    have h5 : evs g_f_is_set [(.var 1), (.cst .none)] (E none) = .ok ([.pu (trD cs), .pu .none], [], E none) := by
      rw [evs, ev_var_ok (G := g_f_is_set) (env := E none) (i := 1) (d := trD cs) rfl]
      simp only [bind, R.bind]
      rw [evs, ev_cst_ok]
      simp only [bind, R.bind]
      rw [evs]
      rfl
    rw [ev, h5]
    simp only [bind, R.bind]
    rw [set_cs cs h.pw (by omega)]
  exact runP_ret ((exs_nx s1).trans (ex_ret_ok (ev_cmp_ok (o := .eq) (ev_bi1_ok (b := .list) (ev_var_ok rfl) rfl) h4 rfl (eqv_li cs)) rfl))
local macro_rules | `(tactic| k_mem) => `(tactic| with_reducible (apply is_setS_ok <;> lt_chain))
/-- the moves of the trains of some stations at once -/
def aoT (st : List (List Nat)) (is : List Nat) (i : Nat) : List Nat := (bif decide (i ∈ is) then [] else st.getD i []) ++ (bif decide (sbm i 1 st.length ∈ is) then st.getD (sbm i 1 st.length) [] else [])
def aon (st : List (List Nat)) (is : List Nat) : List (List Nat) := (List.range st.length).map (aoT st is)
theorem ao_len (c s : Nat) (st : List (List Nat)) (hy : GoodY c s) (h : Good c s st) (is : List Nat) (i : Nat) : (bif decide (i ∈ is) then [] else st.getD i []).length + (bif decide (sbm i 1 st.length ∈ is) then st.getD (sbm i 1 st.length) [] else []).length ≤ 1000 := by
  have := good_two c s st hy h i (sbm i 1 st.length)
  cases decide (i ∈ is) <;> cases decide (sbm i 1 st.length ∈ is) <;> simp only [cond_true, cond_false, List.length_nil] <;> omega
theorem at_once_in_ok (c s : Nat) (st : List (List Nat)) (hy : GoodY c s) (h : Good c s st) (is : List Nat) : d_f_at_once_in [stD st, trD is] = .ok (.pu (stD (aon st is))) := by
  have hs := h.hs
  have h8 := hy.s8
  have h2 := hy.s2
  obtain ⟨a, b, c2, hf⟩ := ex_for_app3 (G := g_f_at_once_in) (p := .v 4) (it := .rng [(.var 2)]) (body := [(.asg (.v 5) (.bin .mod (.bin .sub (.var 4) (.cst (.int 1))) (.var 2))), (.asg (.v 6) (.ite (.cmp .inn (.var 4) (.var 1)) (.tup []) (.sub (.var 0) (.var 4)))), (.app 3 (.bin .add (.var 6) (.ite (.cmp .inn (.var 5) (.var 1)) (.sub (.var 0) (.var 5)) (.tup []))))])
    (fun acc a b c => [some (.pu (stD st)), some (.pu (trD is)), some (.pu (.int (st.length : Nat))), some (.li acc), a, b, c]) (xs := List.range st.length) (emb := nD) (g := fun i => trD (aoT st is i)) (a0 := none) (a1 := none) (a2 := none) (by infer_instance) rfl rfl (by simp; omega) (by
    intro x hx acc a b c2 hl
    have hx' := List.mem_range.1 hx
    have := ao_len c s st hy h is x
    have := sbm_lt x 1 st.length (by omega)
    apply Exists.intro; apply Exists.intro; apply Exists.intro
    infer_instance)
  unfold d_f_at_once_in
  apply runP_go (e0 := [some (.pu (stD st)), some (.pu (trD is)), none, none, none, none, none]) rfl
  unfold b_f_at_once_in
  infer_instance
  simp only [stD, aon, List.map_map]
  rfl

theorem at_once_inL_ok (c s : Nat) (st : List (List Nat)) (hy : GoodY c s) (h : Good c s st) (is : List Nat) : d_f_at_once_in [stD st, PyData.list (is.map nD)] = .ok (.pu (stD (aon st is))) := by
  have hs := h.hs
  have h8 := hy.s8
  have h2 := hy.s2
  obtain ⟨a, b, c2, hf⟩ := ex_for_app3 (G := g_f_at_once_in) (p := .v 4) (it := .rng [(.var 2)]) (body := [(.asg (.v 5) (.bin .mod (.bin .sub (.var 4) (.cst (.int 1))) (.var 2))), (.asg (.v 6) (.ite (.cmp .inn (.var 4) (.var 1)) (.tup []) (.sub (.var 0) (.var 4)))), (.app 3 (.bin .add (.var 6) (.ite (.cmp .inn (.var 5) (.var 1)) (.sub (.var 0) (.var 5)) (.tup []))))])
    (fun acc a b c => [some (.pu (stD st)), some (.pu (PyData.list (is.map nD))), some (.pu (.int (st.length : Nat))), some (.li acc), a, b, c]) (xs := List.range st.length) (emb := nD) (g := fun i => trD (aoT st is i)) (a0 := none) (a1 := none) (a2 := none) (by infer_instance) rfl rfl (by simp; omega) (by
    intro x hx acc a b c2 hl
    have hx' := List.mem_range.1 hx
    have := ao_len c s st hy h is x
    have := sbm_lt x 1 st.length (by omega)
    apply Exists.intro; apply Exists.intro; apply Exists.intro
    infer_instance)
  unfold d_f_at_once_in
  apply runP_go (e0 := [some (.pu (stD st)), some (.pu (PyData.list (is.map nD))), none, none, none, none, none]) rfl
  unfold b_f_at_once_in
  infer_instance
  simp only [stD, aon, List.map_map]
  rfl

local macro_rules | `(tactic| k_mem) => `(tactic| with_reducible first | (apply at_once_in_ok <;> lt_chain) | (apply at_once_inL_ok <;> lt_chain))
theorem aon_good0 (st : List (List Nat)) (is : List Nat) : (aon st is).length = st.length := by simp [aon]
theorem at_once_ok (c s : Nat) (st : List (List Nat)) (hy : GoodY c s) (h : Good c s st) (is : List Nat) (hi : SS is s) : d_f_at_once [ydD c s, stD st, trD is] = .ok (.pu (stD (aon st is))) := by
  have h8 := hy.s8
  unfold d_f_at_once
  apply runP_go (e0 := [some (.pu (ydD c s)), some (.pu (stD st)), some (.pu (trD is))]) rfl
  unfold b_f_at_once
  infer_instance
theorem all_at_once_ok (c s : Nat) (st : List (List Nat)) (hy : GoodY c s) (h : Good c s st) (k : Nat) (hk : k ≤ 1000000) : d_f_all_at_once [ydD c s, stD st, .int (k : Nat)] = .ok (.pu (stD (st.drop (s - k % s) ++ st.take (s - k % s)))) := by
  have hs := h.hs
  have h8 := hy.s8
  have h2 := hy.s2
  have hm := Nat.mod_lt k (show 0 < s by omega)
  unfold d_f_all_at_once
  apply runP_go (e0 := [some (.pu (ydD c s)), some (.pu (stD st)), some (.pu (.int (k : Nat))), none]) rfl
  unfold b_f_all_at_once
  infer_instance
  rw [hs]
theorem L_at_once_ok (c s : Nat) (st : List (List Nat)) (hy : GoodY c s) (h : Good c s st) (is : List Nat) : d_L_at_once [stD st, trD is] = .ok (.pu (stD (aon st is))) := by
  have hs := h.hs
  have h8 := hy.s8
  have h2 := hy.s2
  obtain ⟨a, b, hf⟩ := ex_for_app2 (G := g_L_at_once) (p := .v 3) (it := .rng [(.bi .len [(.var 0)])]) (body := [(.asg (.v 4) (.ite (.cmp .inn (.var 3) (.var 1)) (.tup []) (.sub (.var 0) (.var 3)))), (.app 2 (.bin .add (.var 4) (.ite (.cmp .inn (.bin .mod (.bi .int [(.bin .sub (.var 3) (.cst (.int 1)))]) (.bi .len [(.var 0)])) (.var 1)) (.sub (.var 0) (.bin .sub (.var 3) (.cst (.int 1)))) (.tup []))))])
    (fun acc a b => [some (.pu (stD st)), some (.pu (trD is)), some (.li acc), a, b]) (xs := List.range st.length) (emb := nD) (g := fun i => trD (aoT st is i)) (a0 := none) (a1 := none) (by infer_instance) rfl rfl (by simp; omega) (by
    intro x hx acc a b hl
    have hx' := List.mem_range.1 hx
    have := ao_len c s st hy h is x
    have := sbm_lt x 1 st.length (by omega)
    apply Exists.intro; apply Exists.intro
    infer_instance)
  unfold d_L_at_once
  apply runP_go (e0 := [some (.pu (stD st)), some (.pu (trD is)), none, none, none]) rfl
  unfold b_L_at_once
  infer_instance
  simp only [stD, aon, List.map_map]
  rfl

theorem L_at_onceL_ok (c s : Nat) (st : List (List Nat)) (hy : GoodY c s) (h : Good c s st) (is : List Nat) : d_L_at_once [stD st, PyData.list (is.map nD)] = .ok (.pu (stD (aon st is))) := by
  have hs := h.hs
  have h8 := hy.s8
  have h2 := hy.s2
  obtain ⟨a, b, hf⟩ := ex_for_app2 (G := g_L_at_once) (p := .v 3) (it := .rng [(.bi .len [(.var 0)])]) (body := [(.asg (.v 4) (.ite (.cmp .inn (.var 3) (.var 1)) (.tup []) (.sub (.var 0) (.var 3)))), (.app 2 (.bin .add (.var 4) (.ite (.cmp .inn (.bin .mod (.bi .int [(.bin .sub (.var 3) (.cst (.int 1)))]) (.bi .len [(.var 0)])) (.var 1)) (.sub (.var 0) (.bin .sub (.var 3) (.cst (.int 1)))) (.tup []))))])
    (fun acc a b => [some (.pu (stD st)), some (.pu (PyData.list (is.map nD))), some (.li acc), a, b]) (xs := List.range st.length) (emb := nD) (g := fun i => trD (aoT st is i)) (a0 := none) (a1 := none) (by infer_instance) rfl rfl (by simp; omega) (by
    intro x hx acc a b hl
    have hx' := List.mem_range.1 hx
    have := ao_len c s st hy h is x
    have := sbm_lt x 1 st.length (by omega)
    apply Exists.intro; apply Exists.intro
    infer_instance)
  unfold d_L_at_once
  apply runP_go (e0 := [some (.pu (stD st)), some (.pu (PyData.list (is.map nD))), none, none, none]) rfl
  unfold b_L_at_once
  infer_instance
  simp only [stD, aon, List.map_map]
  rfl

theorem is_list_st (gs : List (List Nat)) (a b : Int) (h : a ≤ gs.length) (h2 : (gs.length : Int) ≤ b) : d_f_is_list [stD gs, .int a, .int b] = .ok (.pu (.bool true)) := is_list_tup _ _ _ (by simpa using h) (by simpa using h2)
local macro_rules | `(tactic| k_mem) => `(tactic| with_reducible (apply is_list_st <;> lt_chain))
theorem need_groups_ok (c s : Nat) (hy : GoodY c s) (gs : List (List Nat)) (hg : ∀ g ∈ gs, SS g s) (hl : gs.length ≤ 40) : d_f_need_groups [ydD c s, stD gs] = .ok (.pu .none) := by
  have h8 := hy.s8
  obtain ⟨_, a, b, hf⟩ := ex_for_fold2 (G := g_f_need_groups) (p := .t [(.v 2), (.v 3)]) (it := .enm (.var 1)) (body := [(.ifs (.not (.call 1 [(.var 0), (.var 3)])) [(.do_ (.star (.cst .none)))] [])])
    (fun (_ : Unit) a b => [some (.pu (ydD c s)), some (.pu (stD gs)), a, b]) (fun _ => True) () (f := fun _ _ => ()) (xs := gs.zipIdx) (emb := fun p => .tuple [nD p.2, trD p.1]) (a0 := none) (a1 := none) (by infer_instance) rfl rfl trivial (by
    intro x hx _ a b _
    refine ⟨trivial, ?_⟩
    have hx' : SS x.1 s := hg x.1 (by have := List.mem_zipIdx hx; simp at this; rw [this.2]; exact List.getElem_mem _)
    apply Exists.intro; apply Exists.intro
    infer_instance)
  unfold d_f_need_groups
  apply runP_nx_go (e0 := [some (.pu (ydD c s)), some (.pu (stD gs)), none, none]) rfl
  unfold b_f_need_groups
  infer_instance
def gfin (st : List (List Nat)) (gs : List (List Nat)) : List (List Nat) := gs.foldl aon st
theorem sbm_one (i n : Nat) (h : i < n) : sbm i 1 n = if i = 0 then n - 1 else i - 1 := by
  unfold sbm
  rcases Nat.lt_or_ge 1 n with h2 | h2
  · rw [Nat.mod_eq_of_lt h2]
    by_cases h3 : i = 0
    · rw [if_pos h3, h3, Nat.zero_add, Nat.mod_eq_of_lt (by omega)]
    · rw [if_neg h3]
      have : i + (n - 1) = (i - 1) + n := by omega
      rw [this, Nat.add_mod_right, Nat.mod_eq_of_lt (by omega)]
  · have : n = 1 := by omega
    subst this
    have : i = 0 := by omega
    subst this; rfl
theorem sbm_nx (i n : Nat) (h : i < n) : sbm ((i + 1) % n) 1 n = i := by
  rw [sbm_one _ _ (Nat.mod_lt _ (by omega))]
  rcases Nat.lt_or_ge (i + 1) n with h2 | h2
  · rw [Nat.mod_eq_of_lt h2, if_neg (by omega)]; omega
  · have : i + 1 = n := by omega
    rw [this, Nat.mod_self, if_pos rfl]; omega
theorem nx_sbm (i n : Nat) (h : i < n) : (sbm i 1 n + 1) % n = i := by
  rw [sbm_one _ _ h]
  by_cases h3 : i = 0
  · rw [if_pos h3, h3]
    have : n - 1 + 1 = n := by omega
    rw [this, Nat.mod_self]
  · rw [if_neg h3]
    have : i - 1 + 1 = i := by omega
    rw [this, Nat.mod_eq_of_lt h]
theorem flatten_cond (st : List (List Nat)) (p : Nat → Bool) : (((List.range st.length).map fun i => (bif p i then [] else st.getD i [])).flatten ++ ((List.range st.length).map fun i => (bif p i then st.getD i [] else [])).flatten).Perm st.flatten := by
  have e : ∀ (l : List Nat), ((l.map fun i => (bif p i then [] else st.getD i [])).flatten ++ (l.map fun i => (bif p i then st.getD i [] else [])).flatten).Perm (l.map fun i => st.getD i []).flatten := by
    intro l
    induction l with
    | nil => simp
    | cons a l ih =>
      simp only [List.map_cons, List.flatten_cons]
      cases p a with
      | true =>
        simp only [cond_true, List.nil_append]
        exact (List.perm_append_comm_assoc _ _ _).trans (ih.append_left _)
      | false =>
        simp only [cond_false, List.nil_append, List.append_assoc]
        exact ih.append_left _
  have e2 : (List.range st.length).map (fun i => st.getD i []) = st := by
    apply List.ext_getElem
    · simp
    · intro i h1 h2
      simp at h1
      simp [h1]
  have := e (List.range st.length)
  rwa [e2] at this
theorem sbm_map (n : Nat) : ((List.range n).map fun i => sbm i 1 n).Perm (List.range n) := by
  have hn : ((List.range n).map fun i => sbm i 1 n).Nodup := by
    rw [List.Nodup, List.pairwise_map]
    refine List.Pairwise.imp_of_mem ?_ List.nodup_range
    intro a b ha hb hab e
    rw [List.mem_range] at ha hb
    apply hab
    rw [← nx_sbm a n ha, ← nx_sbm b n hb, e]
  refine (List.perm_ext_iff_of_nodup hn List.nodup_range).2 fun x => ?_
  rw [List.mem_map, List.mem_range]
  constructor
  · rintro ⟨i, hi, rfl⟩
    rw [List.mem_range] at hi
    exact sbm_lt _ _ _ (by omega)
  · intro hx
    exact ⟨(x + 1) % n, List.mem_range.2 (Nat.mod_lt _ (by omega)), sbm_nx x n hx⟩
theorem flatten_two {α : Type} (f g : α → List Nat) (l : List α) : ((l.map fun i => f i ++ g i).flatten).Perm ((l.map f).flatten ++ (l.map g).flatten) := by
  induction l with
  | nil => simp
  | cons a l ih =>
    simp only [List.map_cons, List.flatten_cons, List.append_assoc]
    refine List.Perm.append_left _ ?_
    refine (ih.append_left _).trans ?_
    exact (List.perm_append_comm_assoc _ _ _)
theorem aon_good (c s : Nat) (st : List (List Nat)) (hy : GoodY c s) (h : Good c s st) (is : List Nat) : Good c s (aon st is) := by
  refine ⟨by rw [aon_good0]; exact h.hs, ?_⟩
  refine List.Perm.trans ?_ h.hc
  refine (flatten_two _ _ _).trans ?_
  refine List.Perm.trans (List.Perm.append_left _ ?_) (flatten_cond st fun i => decide (i ∈ is))
  have e : ((List.range st.length).map fun i => (bif decide (sbm i 1 st.length ∈ is) then st.getD (sbm i 1 st.length) [] else [])) = ((List.range st.length).map fun i => sbm i 1 st.length).map fun j => (bif decide (j ∈ is) then st.getD j [] else []) := by
    rw [List.map_map]; rfl
  rw [e]
  exact ((sbm_map st.length).map _).flatten
theorem gfin_good (c s : Nat) (hy : GoodY c s) (gs : List (List Nat)) : ∀ st, Good c s st → Good c s (gfin st gs) := by
  induction gs with
  | nil => intro st h; exact h
  | cons g gs ih => intro st h; exact ih _ (aon_good c s st hy h g)
theorem after_groups_ok (c s : Nat) (st : List (List Nat)) (hy : GoodY c s) (h : Good c s st) (gs : List (List Nat)) (hg : ∀ g ∈ gs, SS g s) (hl : gs.length ≤ 40) : d_f_after_groups [ydD c s, stD st, stD gs] = .ok (.pu (stD (gfin st gs))) := by
  obtain ⟨h1, a, hf⟩ := ex_for_fold1 (G := g_f_after_groups) (p := .v 3) (it := .var 2) (body := [(.asg (.v 1) (.call 2 [(.var 1), (.var 3)]))])
    (fun (x : List (List Nat)) a => [some (.pu (ydD c s)), some (.pu (stD x)), some (.pu (stD gs)), a]) (fun x => Good c s x) st (f := aon) (xs := gs) (emb := trD) (a0 := none) (by infer_instance) rfl rfl h (by
    intro x hx cur a hc
    refine ⟨aon_good c s cur hy hc x, ?_⟩
    apply Exists.intro
    infer_instance)
  have h2 := need_groups_ok c s hy gs hg hl
  unfold d_f_after_groups
  apply runP_go (e0 := [some (.pu (ydD c s)), some (.pu (stD st)), some (.pu (stD gs)), none]) rfl
  unfold b_f_after_groups
  infer_instance
  rfl
/-- in turn the even and the odd stations -/
def evn (s t : Nat) : List Nat := (List.range s).filter fun i => decide (i % 2 = t % 2)
def alt (s : Nat) (st : List (List Nat)) (k : Nat) : List (List Nat) := (List.range k).foldl (fun x t => aon x (evn s t)) st
theorem alternating_ok (c s : Nat) (st : List (List Nat)) (hy : GoodY c s) (h : Good c s st) (k : Nat) (hk : k ≤ 1000) : d_f_alternating [ydD c s, stD st, .int (k : Nat)] = .ok (.pu (stD (alt s st k))) := by
  have h8 := hy.s8
  obtain ⟨h1, a, hf⟩ := ex_for_fold1 (G := g_f_alternating) (p := .v 3) (it := .rng [(.var 2)]) (body := [(.asg (.v 1) (.call 2 [(.var 1), (.lc false [4] (.var 4) (.v 4) (.rng [(.sub (.var 0) (.cst (.int 1)))]) [(.cmp .eq (.bin .mod (.var 4) (.cst (.int 2))) (.bin .mod (.var 3) (.cst (.int 2))))])]))])
    (fun (x : List (List Nat)) a => [some (.pu (ydD c s)), some (.pu (stD x)), some (.pu (.int (k : Nat))), a, none]) (fun x => Good c s x) st (f := fun x t => aon x (evn s t)) (xs := List.range k) (emb := nD) (a0 := none) (by infer_instance) rfl rfl h (by
    intro x hx cur a hc
    refine ⟨aon_good c s cur hy hc _, ?_⟩
    apply Exists.intro
    infer_instance)
  unfold d_f_alternating
  apply runP_go (e0 := [some (.pu (ydD c s)), some (.pu (stD st)), some (.pu (.int (k : Nat))), none, none]) rfl
  unfold b_f_alternating
  infer_instance
  rfl
end LB

set_option linter.all false
set_option maxRecDepth 20000
/-! draws, with the row's state hidden -/
namespace LB
open PySem TR
-- GO
local macro_rules | `(tactic| lt_chain) => `(tactic| (first | with_reducible assumption | (with_reducible first | apply aon_good | apply gfin_good | apply turn_good | apply ss_one | apply mv_good | apply cl_good | apply fin_good) <;> lt_chain | omega | (simp only [List.length_map, List.length_range, List.length_range', List.mem_range, List.length_append, List.length_drop, List.length_take, List.length_reverse, List.length_replicate, List.length_set, List.length_nil, List.length_cons]; omega)))
local macro_rules | `(tactic| k_mem) => `(tactic| with_reducible first
  | (apply is_in_int <;> lt_chain) | (apply is_list_tup <;> lt_chain) | (apply need_yard_ok <;> lt_chain) | (apply need_car_ok <;> lt_chain) | (apply need_trains_ok <;> lt_chain) | (apply need_state_ok <;> lt_chain) | (apply station_in_ok <;> lt_chain) | (apply station_of_ok <;> lt_chain) | (apply train_of_ok <;> lt_chain) | (apply count_trains_ok <;> lt_chain) | (apply first_state_ok <;> lt_chain) | (apply at_ok <;> lt_chain) | (apply is_full_ok <;> lt_chain) | (apply longest_ok <;> lt_chain) | (apply need_station_ok <;> lt_chain) | (apply move_in_ok <;> lt_chain) | (apply L_move_ok <;> lt_chain) | (apply st_in <;> lt_chain) | (apply call_in_ok <;> lt_chain) | (apply L_call_ok <;> lt_chain) | (apply call_ok <;> lt_chain) | (apply move_ok <;> lt_chain) | (apply story_in_ok <;> lt_chain) | (apply need_calls_ok <;> lt_chain) | (apply after_ok <;> lt_chain) | (apply story_ok <;> lt_chain) | (apply trains_left_ok <;> lt_chain) | (apply after_moves_ok <;> lt_chain) | (apply taken_stations_ok <;> lt_chain) | (apply without_ok <;> lt_chain) | (apply needless_ok <;> lt_chain) | (apply exchanges_ok <;> lt_chain) | (apply couplings_ok <;> lt_chain) | (apply steps_of_ok <;> lt_chain) | (apply first_coupling_ok <;> lt_chain) | (apply is_set_ok <;> lt_chain) | (apply need_closed_ok <;> lt_chain) | (apply closed_move_ok <;> lt_chain) | (apply closed_call_ok <;> lt_chain) | (apply closed_after_ok <;> lt_chain) | (apply room_in_ok <;> lt_chain) | (apply rooms_ok <;> lt_chain) | (apply car_rooms_ok <;> lt_chain) | (apply is_shut_ok <;> lt_chain) | (apply word_in_ok <;> lt_chain) | (apply L_word_ok <;> lt_chain) | (apply ring_word_ok <;> lt_chain) | (apply same_ring_ok <;> lt_chain) | (apply L_done_ok <;> lt_chain) | (apply arcs_in_ok <;> lt_chain) | (apply arcs_ok <;> lt_chain) | (apply heads_ok <;> lt_chain) | (apply cuts_ok <;> lt_chain) | (apply at_once_in_ok <;> lt_chain) | (apply at_once_in_ok <;> lt_chain) | (apply is_setS_ok <;> lt_chain) | (apply at_once_in_ok <;> lt_chain) | (apply at_once_inL_ok <;> lt_chain) | (apply at_once_ok <;> lt_chain) | (apply all_at_once_ok <;> lt_chain) | (apply L_at_once_ok <;> lt_chain) | (apply L_at_onceL_ok <;> lt_chain) | (apply is_list_st <;> lt_chain) | (apply need_groups_ok <;> lt_chain) | (apply after_groups_ok <;> lt_chain) | (apply alternating_ok <;> lt_chain))
local macro_rules | `(tactic| infer_instance) => `(tactic| first
  | with_reducible assumption
  | with_reducible exact ev_cst_nil
  | (with_reducible apply ev_cst_eq) <;> first | exact lit_nat _ | exact rfl
  | (with_reducible apply ev_glb_eq) <;> first | exact lit_nat _ | exact rfl
  | (with_reducible apply ev_var_ok) <;> exact rfl
  | (with_reducible apply ev_ownvar) <;> exact rfl
  | ((with_reducible apply ev_tup1n); (next => (infer_instance; done)); (next => exact rfl))
  | with_reducible exact evTs_nil
  | with_reducible exact evCs_go0
  | (with_reducible apply exs_nil_eq) <;> exact rfl
  | with_reducible apply exs_nil_eq
  | ((with_reducible apply ev_alike_go); (next => exact rfl); (next => with_reducible rfl); all_goals infer_instance)
  | ((with_reducible apply ev_nalike_go); (next => exact rfl); (next => with_reducible rfl); all_goals infer_instance)
  | (with_reducible apply ev_sub_ok) <;> infer_instance
  | (with_reducible apply ev_bin_ok') <;> infer_instance
  | (with_reducible apply ev_cmp_ok) <;> infer_instance
  | (with_reducible apply ev_call_ok) <;> infer_instance
  | (with_reducible apply evTs_c1) <;> infer_instance
  | (with_reducible apply ev_not_ok) <;> infer_instance
  | (with_reducible apply ev_bi1_ok) <;> infer_instance
  | (with_reducible apply ev_mt1_ok) <;> infer_instance
  | (with_reducible apply ev_rng1_go) <;> infer_instance
  | (with_reducible apply ev_rng2_go) <;> infer_instance
  | (with_reducible apply ev_rgl_t) <;> infer_instance
  | (with_reducible apply ev_rgl_f) <;> infer_instance
  | (with_reducible apply ev_enm_go) <;> infer_instance
  | (with_reducible apply ev_rvd_go) <;> infer_instance
  | (with_reducible apply ev_slc_lo_go) <;> infer_instance
  | (with_reducible apply ev_slc_hi_go) <;> infer_instance
  | (with_reducible apply ev_neg_ok) <;> infer_instance
  | (with_reducible apply ev_and_go) <;> infer_instance
  | (with_reducible apply ev_or_go) <;> infer_instance
  | (with_reducible apply ev_ite_g) <;> infer_instance
  | (with_reducible apply ev_lst_go) <;> infer_instance
  | (with_reducible apply ev_tup_go) <;> infer_instance
  | (with_reducible apply ev_lc_go0) <;> infer_instance
  | (with_reducible apply ev_lc_go) <;> infer_instance
  | (with_reducible apply exs_ret_go) <;> infer_instance
  | (with_reducible apply exs_go) <;> infer_instance
  | (with_reducible apply ex_ret_go) <;> infer_instance
  | (with_reducible apply ex_do_go) <;> infer_instance
  | (with_reducible apply ex_asg_go) <;> infer_instance
  | (with_reducible apply ex_asgT_go) <;> infer_instance
  | (with_reducible apply ex_app_go) <;> infer_instance
  | (with_reducible apply ex_par2_go) <;> infer_instance
  | (with_reducible apply ex_par3_go) <;> infer_instance
  | (with_reducible apply ex_if_go) <;> infer_instance
  | (with_reducible apply forB_go) <;> infer_instance
  | (with_reducible apply evCs1) <;> infer_instance
  | (with_reducible apply ev_callW_go) <;> infer_instance
  | (with_reducible exact rw_own (by assumption))
  | (intro _ ; infer_instance)
  | (with_reducible first
  | apply gb_addN | apply gc_eqN | apply gc_neN | apply gc_ltN | apply gc_gtN | apply gc_leN | apply gc_geN | apply gs_y0 | apply gs_y1 | apply in_cs | apply nin_cs | apply gc_in_it | apply gc_nin_it | apply gc_in_lst | apply gc_nin_lst | apply gl_len_st | apply gl_len_tr | apply gl_len_li | apply gl_len_tu | apply gl_tup_st | apply gl_tup_tr | apply gl_tup_it | apply gl_list_st | apply gl_list_tr | apply gl_list_it | apply gl_list_li | apply cmp_st | apply cmp_st_ne | apply cmp_tr | apply cmp_tr_ne | apply gc_neL | apply gc_eqL | apply gc_neL0 | apply gc_eqL0 | apply gc_neS | apply cond_tr | apply cond_st | apply cond_n | apply tup_int | apply tup_bool
  | (apply gb_subN <;> lt_chain) | (apply gb_modN <;> lt_chain) | (apply gb_modS <;> lt_chain) | (apply sub_stD <;> lt_chain) | (apply sub_trD <;> lt_chain) | (apply gs_li <;> lt_chain) | (apply gs_tu <;> lt_chain) | (apply gs_st_neg <;> lt_chain) | (apply gs_neg <;> lt_chain) | (apply gk_hi_st <;> lt_chain) | (apply gk_lo_st <;> lt_chain) | (apply gk_hi_tr <;> lt_chain) | (apply gk_lo_tr <;> lt_chain) | (apply gk_hi_li <;> lt_chain) | (apply gk_lo_li <;> lt_chain) | (apply gb_addS <;> lt_chain) | (apply gb_addT <;> lt_chain) | (apply gb_addL <;> lt_chain) | (apply gb_mulN <;> lt_chain) | (apply gb_fdivN <;> lt_chain) | (apply gb_repT <;> lt_chain) | (apply gb_rep1 <;> lt_chain) | (apply tup_st8 <;> lt_chain) | (apply tup_tr8 <;> lt_chain) | (apply tup_lst8 <;> lt_chain) | (apply tup_tus8 <;> lt_chain) | (apply tup_pairs8 <;> lt_chain)
  | apply gl_int | apply gl_tupA | apply gl_tupB | apply gl_tupC | apply gl_lisA | apply gl_lisB | apply gl_lisC | apply bd_add | apply bd_sub | apply gc_ltI | apply gc_leI | apply gc_gtI | apply gc_geI | apply gc_eqI | apply gc_neI)
  | k_mem
  | (with_reducible first | apply retR_pu | apply retR_li0 | apply retR_li1) <;> infer_instance
  | (with_reducible first | exact takeR_pu | exact takeR_li0 | exact takeR_nl0 | exact takeR_di0 | exact keepR_pu | exact keepR_li0 | exact keepR_nl0 | exact keepR_di0)
  | (with_reducible first | apply takeR_li1 | apply keepR_li1) <;> infer_instance
  | with_reducible exact wipe_0
  | (with_reducible apply wipe_S) <;> infer_instance
  | with_reducible exact set_0
  | (with_reducible apply set_S) <;> infer_instance
  | (with_reducible apply set_2) <;> infer_instance
  | (with_reducible apply bindP_v) <;> infer_instance
  | (with_reducible apply bindP_t2) <;> infer_instance
  | (with_reducible apply bindP_t3) <;> infer_instance
  | (with_reducible first | apply hold_ev | apply hold_ex | apply hold_exs | apply hold_evTs | apply hold_evCs | apply hold_fn | apply hold_fw)
  | with_reducible exact apart_nil
  | (with_reducible apply apart_of) <;> simp [apart, muE, muEs, muT, muTs, muO, muS, muSs, P.slots, P.slotsL]
  | (with_reducible first | apply gu_get | apply gu_itR | apply gu_seq | apply gu_nlAt | apply gu_den | apply gu_take | apply gu_keep | apply gu_ret | apply gu_bind | apply gu_eget | apply gu_nl | apply gu_st1 | apply gu_own | apply gu_wipe | apply gu_set) <;> exact rfl
  | with_reducible exact rfl
  | ((with_reducible apply gu_b); simp only [Bool.not_true, Bool.not_false, Bool.and_true, Bool.true_and, Bool.or_false, Bool.false_or, Bool.or_self, Bool.and_self, Bool.not_not, Bool.or_true, Bool.true_or, Bool.and_false, Bool.false_and]; done)
  | lt_chain
  | skip)
-- OG
def RW (w : M) : Prop := ∃ (ns : List Int) (i : Nat) (sd rs : Int), ns.length ≤ 63 ∧ w = rowM ns i sd rs
theorem rw_own {w : M} (h : RW w) : w.own = true := by obtain ⟨ns, i, sd, rs, _, rfl⟩ := h; rfl
theorem rw_keep {w : M} (h : RW w) : w.isNl = false := by obtain ⟨ns, i, sd, rs, _, rfl⟩ := h; rfl
theorem taken_any (w : M) (hw : RW w) (k : Nat) (h1 : 0 < k) (h2 : k < 2000000) : ∃ (v : Nat) (w' : M), RW w' ∧ d_L_taken w [.int (k : Nat)] = .ok (.pu (.int (v : Nat)), w') ∧ v < k := by
  obtain ⟨ns, i, sd, rs, hn, rfl⟩ := hw
  obtain ⟨v, i2, sd2, rs2, h3, h4⟩ := taken_ok ns hn i sd rs k (by omega) (by omega)
  exact ⟨v, _, ⟨ns, i2, sd2, rs2, hn, rfl⟩, h3, by omega⟩
theorem yard_any (w : M) (hw : RW w) (C S : Nat) (hC : 1 ≤ C) (hC2 : C ≤ 7) (hS : 2 ≤ S) (hS2 : S ≤ 8) : ∃ (c s : Nat) (w' : M), RW w' ∧ d_L_yard w [.int (C : Nat), .int (S : Nat)] = .ok (.pu (ydD c s), w') ∧ GoodY c s ∧ c ≤ C ∧ s ≤ S := by
  obtain ⟨ns, i, sd, rs, hn, rfl⟩ := hw
  obtain ⟨c, s, i2, sd2, rs2, h3, h4⟩ := yard_ok ns hn i sd rs C S hC hC2 hS hS2
  exact ⟨c, s, _, ⟨ns, i2, sd2, rs2, hn, rfl⟩, h3, h4⟩
theorem state_any (w : M) (hw : RW w) (c s : Nat) (hy : GoodY c s) : ∃ (st : List (List Nat)) (w' : M), RW w' ∧ d_L_state w [ydD c s] = .ok (.pu (stD st), w') ∧ Good c s st := by
  obtain ⟨ns, i, sd, rs, hn, rfl⟩ := hw
  obtain ⟨i2, sd2, rs2, st, h3, h4⟩ := state_ok ns hn i sd rs c s hy
  exact ⟨st, _, ⟨ns, i2, sd2, rs2, hn, rfl⟩, h3, h4⟩
theorem row_any (w : M) (hw : RW w) (c s m : Nat) (hy : GoodY c s) (hm : m ≤ 60) : ∃ (ks : List Nat) (w' : M), RW w' ∧ d_L_row w [ydD c s, .int (m : Nat)] = .ok (.pu (trD ks), w') ∧ (∀ k ∈ ks, k < c) ∧ ks.length ≤ m := by
  obtain ⟨ns, i, sd, rs, hn, rfl⟩ := hw
  obtain ⟨ks, i2, sd2, rs2, h3, h4⟩ := row_ok ns hn i sd rs c s m hy hm
  exact ⟨ks, _, ⟨ns, i2, sd2, rs2, hn, rfl⟩, h3, h4⟩
theorem rw_init (ns : List Int) (hn : ns.length ≤ 63) (k : Int) : RW (.li [.list (ns.map .int), .int 0, .int k, .int 0]) := ⟨ns, 0, k, 0, hn, rfl⟩
/-- a draw that changes the row -/
theorem ev_callW_go {G : List Fn} {k y : Nat} {as : List E} {env e1 E : TR.Env} {ds : List D} {f : FW} {m m0 m1 mx : M} (hy : env.get y = .ok mx) (hf : G[k]? = some (.wr f)) (h : evTs G as env = .ok (ds, e1)) (h0 : e1.get y = .ok m0) (ho : m0.own = true) (hr : f m0 ds = .ok (m, m1)) (ho1 : m1.own = true) (hE : e1.set y (some m1) = E) :
    ev G (.callW k y as) env = .ok (m, [], E) := by
  subst hE; exact ev_callW_ok hy hf h h0 ho hr ho1
/-- some of the numbers below s, by a test that draws -/
theorem sub_any {G : List Fn} {v s : Nat} {X cnd : TR.E} {m : M} (E : M → Option M → TR.Env) (w : M) (hw : RW w) (hs : s ≤ 1000)
    (hit : ev G (.rng [X]) (E w none) = .ok (.li ((List.range s).map nD), [], E w none))
    (hd : ∀ w, (den (E w none) [v] && subs (P.slots (.v v)) [v]) = true)
    (hb : ∀ w a x, bindP (.v v) (nD x) (wipeE (E w a) [v]) = .ok (E w (some (.pu (nD x)))))
    (hv : ∀ w (x : Nat), (E w (some (.pu (nD x)))).get v = .ok (.pu (nD x)))
    (hk : ∀ w w' a, backE (E w' a) (E w none) [v] = E w' none)
    (H : ∀ a, a < s → ∀ w, RW w → ∃ b w', RW w' ∧ ev G cnd (E w (some (.pu (nD a)))) = .ok (.pu (.bool b), [], E w' (some (.pu (nD a))))) :
    ∃ (cs : List Nat) (w' : M), RW w' ∧ cs.Sublist (List.range s) ∧ ev G (.lc false [v] (.var v) (.v v) (.rng [X]) [cnd]) (E w none) = .ok (.li (cs.map nD), [], E w' none) := by
  have key : ∀ (l : List Nat), (∀ a ∈ l, a < s) → ∀ w a, RW w → ∃ (cs : List Nat) (w' : M) (a' : Option M), RW w' ∧ cs.Sublist l ∧ lcLoop (lcB G [v] (.var v) (.v v) [cnd]) (l.map nD) (E w a) = .ok (cs.map nD, E w' a') := by
    intro l
    induction l with
    | nil => intro _ w a hw; exact ⟨[], w, a, hw, List.Sublist.refl _, by simp [lcLoop]⟩
    | cons x l ih =>
      intro hl w a hw
      obtain ⟨b, w1, h1, h2⟩ := H x (hl x (by simp)) w hw
      obtain ⟨cs, w2, a2, h3, h4, h5⟩ := ih (fun y hy => hl y (by simp [hy])) w1 (some (.pu (nD x))) h1
      cases b with
      | true =>
        refine ⟨x :: cs, w2, a2, h3, h4.cons_cons x, ?_⟩
        rw [List.map_cons, lcLoop, lcB_y (hb w a x) (evCs1 h2) (ev_var_ok (hv w1 x))]
        simp only [bind, R.bind]
        rw [h5]
        rfl
      | false =>
        refine ⟨cs, w2, a2, h3, h4.cons x, ?_⟩
        rw [List.map_cons, lcLoop, lcB_n (hb w a x) (evCs1 h2)]
        simp only [bind, R.bind]
        rw [h5]
  obtain ⟨cs, w', a', h1, h2, h3⟩ := key (List.range s) (fun a h => List.mem_range.1 h) w none hw
  refine ⟨cs, w', h1, h2, ?_⟩
  have h4 := ev_lc_ok (G := G) (vs := [v]) (elt := .var v) (p := .v v) hit (hd w) rfl rfl rfl h3 (by
    have := h2.length_le
    simp at this
    rw [List.length_map]; unfold big; omega)
  rw [h4, hk]
end LB

set_option linter.all false
set_option maxRecDepth 20000
/-! moves at once: the ring word stays; turns -/
namespace LB
open PySem TR
theorem aon_get (st : List (List Nat)) (is : List Nat) (j : Nat) (h : j < st.length) : (aon st is).getD j [] = aoT st is j := by
  simp [aon, h]
theorem sbm_eq (i j n : Nat) (hi : i < n) (hj : j < n) : sbm j 1 n = i ↔ j = (i + 1) % n := by
  constructor
  · intro e; rw [← e, nx_sbm j n hj]
  · intro e; rw [e, sbm_nx i n hi]
theorem aon_single (st : List (List Nat)) (i : Nat) (h2 : 2 ≤ st.length) (hi : i < st.length) : aon st [i] = mv st i := by
  apply st_ext
  · rw [aon_good0, mv_len]
  · intro j hj
    rw [aon_good0] at hj
    rw [aon_get st _ j hj, mv_at st i j h2 hi hj, aoT]
    have e := sbm_eq i j st.length hi hj
    by_cases h : j = i
    · subst h
      have h3 : sbm j 1 st.length ≠ j := by
        intro h4
        have := e.1 h4
        rcases Nat.lt_or_ge (j + 1) st.length with h5 | h5
        · rw [Nat.mod_eq_of_lt h5] at this; omega
        · have h6 : j + 1 = st.length := by omega
          rw [h6, Nat.mod_self] at this; omega
      simp [h3]
    · by_cases h3 : j = (i + 1) % st.length
      · have h4 := e.2 h3
        rw [if_neg h, if_pos h3, h4]
        simp [h]
      · have h4 : sbm j 1 st.length ≠ i := fun z => h3 (e.1 z)
        rw [if_neg h, if_neg h3]
        simp [h, h4]
theorem wrd_aon (c s : Nat) (st : List (List Nat)) (hy : GoodY c s) (h : Good c s st) (is : List Nat) : wrd (aon st is) = wrd st := by
  have hs := h.hs
  have h2 := hy.s2
  let S (i : Nat) : List Nat := bif decide (i ∈ is) then [] else st.getD i []
  let V (i : Nat) : List Nat := bif decide (i ∈ is) then st.getD i [] else []
  let n := st.length
  have e0 : ∀ i, st.getD i [] = V i ++ S i := by
    intro i
    simp only [S, V]
    cases decide (i ∈ is) <;> simp
  have e1 : st = (List.range n).map fun i => V i ++ S i := by
    apply List.ext_getElem
    · simp [n]
    · intro i h1 h2
      rw [List.getElem_map, List.getElem_range, ← e0]
      simp [h1]
  have e2 : aon st is = (List.range n).map fun i => S i ++ V (sbm i 1 n) := rfl
  have key : ∀ k, 1 ≤ k → k ≤ n → V (k - 1) ++ ((List.range k).map fun i => S i ++ V (sbm i 1 n)).reverse.flatten = ((List.range k).map fun i => V i ++ S i).reverse.flatten ++ V (n - 1) := by
    intro k hk
    induction k with
    | zero => omega
    | succ k ih =>
      intro hn
      rcases Nat.eq_zero_or_pos k with h0 | h0
      · subst h0
        have : sbm 0 1 n = n - 1 := by rw [sbm_one 0 n (by omega), if_pos rfl]
        simp [this]
      · have e3 : sbm k 1 n = k - 1 := by rw [sbm_one k n (by omega), if_neg (by omega)]
        have := ih (by omega) (by omega)
        simp only [List.range_succ, List.map_append, List.map_cons, List.map_nil, List.reverse_append, List.reverse_cons, List.reverse_nil, List.nil_append, List.cons_append, List.flatten_cons, e3, Nat.add_sub_cancel, List.append_assoc] at this ⊢
        rw [this]
  have hn1 : 1 ≤ n := by simp only [n]; omega
  have k1 := key n hn1 (Nat.le_refl n)
  rw [← e2, ← e1] at k1
  have e4 : ∃ Y, fl st = V (n - 1) ++ Y := by
    refine ⟨S (n - 1) ++ ((List.range (n - 1)).map fun i => V i ++ S i).reverse.flatten, ?_⟩
    have hh : n = (n - 1) + 1 := by omega
    rw [fl]
    conv => lhs; rw [e1]; rw [hh]
    simp only [List.range_succ, List.map_append, List.map_cons, List.map_nil, List.reverse_append, List.reverse_cons, List.reverse_nil, List.nil_append, List.cons_append, List.flatten_cons, List.append_assoc, Nat.add_sub_cancel]
  obtain ⟨Y, hY⟩ := e4
  have e5 : fl (aon st is) = Y ++ V (n - 1) := by
    have : V (n - 1) ++ fl (aon st is) = V (n - 1) ++ (Y ++ V (n - 1)) := by
      rw [fl, k1, ← List.append_assoc, ← hY]; rfl
    exact List.append_cancel_left this
  rw [wrd, wrd, e5, hY]
  have hp := fl_perm c s st h
  exact rot0_swap _ _ (by rw [← hY]; exact hp.nodup_iff.2 List.nodup_range) (by rw [← hY]; exact fl_zero c s st hy h)
theorem wrd_gfin (c s : Nat) (hy : GoodY c s) (gs : List (List Nat)) : ∀ st, Good c s st → wrd (gfin st gs) = wrd st := by
  induction gs with
  | nil => intro st h; rfl
  | cons g gs ih =>
    intro st h
    show wrd (gfin (aon st g) gs) = _
    rw [ih _ (aon_good c s st hy h g), wrd_aon c s st hy h]
/-- all trains k stations on -/
def turn (st : List (List Nat)) (k : Nat) : List (List Nat) := (List.range st.length).map fun i => st.getD (sbm i k st.length) []
theorem turn_len (st : List (List Nat)) (k : Nat) : (turn st k).length = st.length := by simp [turn]
theorem turn_get (st : List (List Nat)) (k j : Nat) (h : j < st.length) : (turn st k).getD j [] = st.getD (sbm j k st.length) [] := by
  simp [turn, h]
theorem sbm_sbm (i a b n : Nat) (h : 0 < n) : sbm (sbm i a n) b n = sbm i (a + b) n := by
  unfold sbm
  rw [Nat.mod_add_mod]
  have h1 : a % n < n := Nat.mod_lt _ h
  have h2 : b % n < n := Nat.mod_lt _ h
  have h3 : (a + b) % n < n := Nat.mod_lt _ h
  have e : (a + b) % n = (a % n + b % n) % n := Nat.add_mod a b n
  rcases Nat.lt_or_ge (a % n + b % n) n with h4 | h4
  · rw [e, Nat.mod_eq_of_lt h4]
    have : i + (n - a % n) + (n - b % n) = (i + (n - (a % n + b % n))) + n := by omega
    rw [this, Nat.add_mod_right]
  · have e2 : (a % n + b % n) % n = a % n + b % n - n := by rw [Nat.mod_eq_sub_mod h4, Nat.mod_eq_of_lt (by omega)]
    rw [e, e2]
    congr 1; omega
theorem sbm_zero (i n : Nat) (h : i < n) : sbm i 0 n = i := by
  unfold sbm
  rw [Nat.zero_mod, Nat.sub_zero, Nat.add_mod_right, Nat.mod_eq_of_lt h]
theorem turn_zero (st : List (List Nat)) : turn st 0 = st := by
  apply st_ext _ _ (turn_len st 0)
  intro j hj
  rw [turn_len] at hj
  rw [turn_get _ _ _ hj, sbm_zero _ _ hj]
theorem turn_turn (st : List (List Nat)) (a b : Nat) : turn (turn st a) b = turn st (a + b) := by
  apply st_ext _ _ (by rw [turn_len, turn_len, turn_len])
  intro j hj
  rw [turn_len, turn_len] at hj
  rw [turn_get _ _ _ (by rw [turn_len]; exact hj), turn_len, turn_get _ _ _ (sbm_lt _ _ _ (by omega)), sbm_sbm _ _ _ _ (by omega), turn_get _ _ _ hj, Nat.add_comm]
theorem sbm_mod (i k n : Nat) : sbm i (k % n) n = sbm i k n := by unfold sbm; rw [Nat.mod_mod]
theorem turn_mod (st : List (List Nat)) (k : Nat) : turn st (k % st.length) = turn st k := by
  unfold turn
  congr 1; funext i; rw [sbm_mod]
theorem turn_cut (st : List (List Nat)) (k : Nat) (h : 0 < st.length) : st.drop (st.length - k % st.length) ++ st.take (st.length - k % st.length) = turn st k := by
  have hm : k % st.length < st.length := Nat.mod_lt _ h
  have key : ∀ j, j < st.length → (st.drop (st.length - k % st.length) ++ st.take (st.length - k % st.length)).getD j [] = st.getD (sbm j k st.length) [] := by
    unfold sbm
    generalize k % st.length = m at hm
    intro j hj
    rw [List.getD_eq_getElem?_getD, List.getD_eq_getElem?_getD]
    congr 1
    rcases Nat.lt_or_ge j m with h3 | h3
    · rw [List.getElem?_append_left (by rw [List.length_drop]; omega), Nat.mod_eq_of_lt (by omega), List.getElem?_drop, Nat.add_comm]
    · have e : j + (st.length - m) = (j - m) + st.length := by omega
      rw [List.getElem?_append_right (by rw [List.length_drop]; omega), e, Nat.add_mod_right, Nat.mod_eq_of_lt (by omega), List.getElem?_take, List.length_drop, if_pos (by omega)]
      congr 1
      omega
  have hl : (st.drop (st.length - k % st.length) ++ st.take (st.length - k % st.length)).length = st.length := by
    rw [List.length_append, List.length_drop, List.length_take]; omega
  apply st_ext
  · rw [hl, turn_len]
  · intro j hj
    rw [hl] at hj
    rw [turn_get _ _ _ hj, key j hj]
theorem aon_all (st : List (List Nat)) : aon st (List.range st.length) = turn st 1 := by
  apply st_ext _ _ (by rw [aon_good0, turn_len])
  intro j hj
  rw [aon_good0] at hj
  rw [aon_get _ _ _ hj, turn_get _ _ _ hj, aoT]
  have := sbm_lt j 1 st.length (by omega)
  simp [hj, this]
theorem gfin_all (st : List (List Nat)) (r : Nat) : ∀ k, gfin (turn st k) (List.replicate r (List.range st.length)) = turn st (k + r) := by
  induction r with
  | zero => intro k; rfl
  | succ r ih =>
    intro k
    rw [List.replicate_succ]
    show gfin (aon (turn st k) (List.range st.length)) _ = _
    have : aon (turn st k) (List.range st.length) = turn st (k + 1) := by
      have := aon_all (turn st k)
      rw [turn_len] at this
      rw [this, turn_turn]
    rw [this, ih (k + 1)]
    congr 1; omega
theorem turn_good (c s : Nat) (st : List (List Nat)) (h : Good c s st) (k : Nat) (hy : GoodY c s) : Good c s (turn st k) := by
  induction k with
  | zero => rw [turn_zero]; exact h
  | succ k ih =>
    rw [← turn_turn, ← aon_all]
    exact aon_good c s _ hy ih _
theorem wrd_turn (c s : Nat) (st : List (List Nat)) (h : Good c s st) (k : Nat) (hy : GoodY c s) : wrd (turn st k) = wrd st := by
  induction k with
  | zero => rw [turn_zero]
  | succ k ih =>
    rw [← turn_turn, ← aon_all, wrd_aon c s _ hy (turn_good c s st h k hy), ih]
theorem tup_st8 (c s : Nat) (st : List (List Nat)) (hy : GoodY c s) (h : Good c s st) : tupN 8 (stD st) = true := tup_stD 6 c s st hy h
theorem tup_tr8 (t : List Nat) (h : t.length ≤ 1000) : tupN 8 (trD t) = true := tup_trD 7 t h
theorem tup_lst8 (c s : Nat) (hy : GoodY c s) (sts : List (List (List Nat))) (h : ∀ st ∈ sts, Good c s st) (hl : sts.length ≤ 1000) : tupN 8 (.list (sts.map stD)) = true :=
  tup_alll 7 _ (by simpa using hl) (by intro x hx; obtain ⟨st, h1, rfl⟩ := List.mem_map.1 hx; exact tup_stD 5 c s st hy (h st h1))
theorem tup_tus8 (c s : Nat) (hy : GoodY c s) (sts : List (List (List Nat))) (h : ∀ st ∈ sts, Good c s st) (hl : sts.length ≤ 1000) : tupN 8 (.tuple (sts.map stD)) = true :=
  tup_all 7 _ (by simpa using hl) (by intro x hx; obtain ⟨st, h1, rfl⟩ := List.mem_map.1 hx; exact tup_stD 5 c s st hy (h st h1))
theorem tup_pairs8 {α : Type} (f g : α → Nat) (l : List α) (hl : l.length ≤ 1000) : tupN 8 (.tuple (l.map fun x => .tuple [nD (f x), nD (g x)])) = true :=
  tup_all 7 _ (by simpa using hl) (by intro x hx; obtain ⟨p, _, rfl⟩ := List.mem_map.1 hx; rfl)
end LB

set_option linter.all false
set_option maxRecDepth 20000
set_option maxHeartbeats 400000
namespace K29
open PySem TR LB
-- GO
local macro_rules | `(tactic| lt_chain) => `(tactic| (first | with_reducible assumption | (with_reducible first | apply aon_good | apply gfin_good | apply turn_good | apply ss_one | apply mv_good | apply cl_good | apply fin_good) <;> lt_chain | omega | exact List.mem_range.1 (by with_reducible assumption) | (have hmr := List.mem_range.1 (by with_reducible assumption); omega) | (simp only [List.length_map, List.length_range, List.length_range', List.mem_range, List.length_append, List.length_drop, List.length_take, List.length_reverse, List.length_replicate, List.length_set, List.length_nil, List.length_cons]; omega)))
local macro_rules | `(tactic| k_mem) => `(tactic| with_reducible first
  | (apply is_in_int <;> lt_chain) | (apply is_list_tup <;> lt_chain) | (apply need_yard_ok <;> lt_chain) | (apply need_car_ok <;> lt_chain) | (apply need_trains_ok <;> lt_chain) | (apply need_state_ok <;> lt_chain) | (apply station_in_ok <;> lt_chain) | (apply station_of_ok <;> lt_chain) | (apply train_of_ok <;> lt_chain) | (apply count_trains_ok <;> lt_chain) | (apply first_state_ok <;> lt_chain) | (apply at_ok <;> lt_chain) | (apply is_full_ok <;> lt_chain) | (apply longest_ok <;> lt_chain) | (apply need_station_ok <;> lt_chain) | (apply move_in_ok <;> lt_chain) | (apply L_move_ok <;> lt_chain) | (apply st_in <;> lt_chain) | (apply call_in_ok <;> lt_chain) | (apply L_call_ok <;> lt_chain) | (apply call_ok <;> lt_chain) | (apply move_ok <;> lt_chain) | (apply story_in_ok <;> lt_chain) | (apply need_calls_ok <;> lt_chain) | (apply after_ok <;> lt_chain) | (apply story_ok <;> lt_chain) | (apply trains_left_ok <;> lt_chain) | (apply after_moves_ok <;> lt_chain) | (apply taken_stations_ok <;> lt_chain) | (apply without_ok <;> lt_chain) | (apply needless_ok <;> lt_chain) | (apply exchanges_ok <;> lt_chain) | (apply couplings_ok <;> lt_chain) | (apply steps_of_ok <;> lt_chain) | (apply first_coupling_ok <;> lt_chain) | (apply is_set_ok <;> lt_chain) | (apply need_closed_ok <;> lt_chain) | (apply closed_move_ok <;> lt_chain) | (apply closed_call_ok <;> lt_chain) | (apply closed_after_ok <;> lt_chain) | (apply room_in_ok <;> lt_chain) | (apply rooms_ok <;> lt_chain) | (apply car_rooms_ok <;> lt_chain) | (apply is_shut_ok <;> lt_chain) | (apply word_in_ok <;> lt_chain) | (apply L_word_ok <;> lt_chain) | (apply ring_word_ok <;> lt_chain) | (apply same_ring_ok <;> lt_chain) | (apply L_done_ok <;> lt_chain) | (apply arcs_in_ok <;> lt_chain) | (apply arcs_ok <;> lt_chain) | (apply heads_ok <;> lt_chain) | (apply cuts_ok <;> lt_chain) | (apply at_once_in_ok <;> lt_chain) | (apply at_once_in_ok <;> lt_chain) | (apply is_setS_ok <;> lt_chain) | (apply at_once_in_ok <;> lt_chain) | (apply at_once_inL_ok <;> lt_chain) | (apply at_once_ok <;> lt_chain) | (apply all_at_once_ok <;> lt_chain) | (apply L_at_once_ok <;> lt_chain) | (apply L_at_onceL_ok <;> lt_chain) | (apply is_list_st <;> lt_chain) | (apply need_groups_ok <;> lt_chain) | (apply after_groups_ok <;> lt_chain) | (apply alternating_ok <;> lt_chain))
local macro_rules | `(tactic| infer_instance) => `(tactic| first
  | with_reducible assumption
  | with_reducible exact ev_cst_nil
  | (with_reducible apply ev_cst_eq) <;> first | exact lit_nat _ | exact rfl
  | (with_reducible apply ev_glb_eq) <;> first | exact lit_nat _ | exact rfl
  | (with_reducible apply ev_var_ok) <;> exact rfl
  | (with_reducible apply ev_ownvar) <;> exact rfl
  | ((with_reducible apply ev_tup1n); (next => (infer_instance; done)); (next => exact rfl))
  | with_reducible exact evTs_nil
  | with_reducible exact evCs_go0
  | (with_reducible apply exs_nil_eq) <;> exact rfl
  | with_reducible apply exs_nil_eq
  | ((with_reducible apply ev_alike_go); (next => exact rfl); (next => with_reducible rfl); all_goals infer_instance)
  | ((with_reducible apply ev_nalike_go); (next => exact rfl); (next => with_reducible rfl); all_goals infer_instance)
  | (with_reducible apply ev_sub_ok) <;> infer_instance
  | (with_reducible apply ev_bin_ok') <;> infer_instance
  | (with_reducible apply ev_cmp_ok) <;> infer_instance
  | (with_reducible apply ev_call_ok) <;> infer_instance
  | (with_reducible apply evTs_c1) <;> infer_instance
  | (with_reducible apply ev_not_ok) <;> infer_instance
  | (with_reducible apply ev_bi1_ok) <;> infer_instance
  | (with_reducible apply ev_mt1_ok) <;> infer_instance
  | (with_reducible apply ev_rng1_go) <;> infer_instance
  | (with_reducible apply ev_rng2_go) <;> infer_instance
  | (with_reducible apply ev_rgl_t) <;> infer_instance
  | (with_reducible apply ev_rgl_f) <;> infer_instance
  | (with_reducible apply ev_enm_go) <;> infer_instance
  | (with_reducible apply ev_rvd_go) <;> infer_instance
  | (with_reducible apply ev_slc_lo_go) <;> infer_instance
  | (with_reducible apply ev_slc_hi_go) <;> infer_instance
  | (with_reducible apply ev_neg_ok) <;> infer_instance
  | (with_reducible apply ev_and_go) <;> infer_instance
  | (with_reducible apply ev_or_go) <;> infer_instance
  | (with_reducible apply ev_ite_g) <;> infer_instance
  | (with_reducible apply ev_lst_go) <;> infer_instance
  | (with_reducible apply ev_tup_go) <;> infer_instance
  | (with_reducible apply ev_lc_go0) <;> infer_instance
  | (with_reducible apply ev_lc_go) <;> infer_instance
  | (with_reducible apply exs_ret_go) <;> infer_instance
  | (with_reducible apply exs_go) <;> infer_instance
  | (with_reducible apply ex_ret_go) <;> infer_instance
  | (with_reducible apply ex_do_go) <;> infer_instance
  | (with_reducible apply ex_asg_go) <;> infer_instance
  | (with_reducible apply ex_asgT_go) <;> infer_instance
  | (with_reducible apply ex_app_go) <;> infer_instance
  | (with_reducible apply ex_par2_go) <;> infer_instance
  | (with_reducible apply ex_par3_go) <;> infer_instance
  | (with_reducible apply ex_if_go) <;> infer_instance
  | (with_reducible apply forB_go) <;> infer_instance
  | (with_reducible apply evCs1) <;> infer_instance
  | (with_reducible apply ev_callW_go) <;> infer_instance
  | (with_reducible exact rw_own (by assumption))
  | (intro _ ; infer_instance)
  | (with_reducible first
  | apply gb_addN | apply gc_eqN | apply gc_neN | apply gc_ltN | apply gc_gtN | apply gc_leN | apply gc_geN | apply gs_y0 | apply gs_y1 | apply in_cs | apply nin_cs | apply gc_in_it | apply gc_nin_it | apply gc_in_lst | apply gc_nin_lst | apply gl_len_st | apply gl_len_tr | apply gl_len_li | apply gl_len_tu | apply gl_tup_st | apply gl_tup_tr | apply gl_tup_it | apply gl_list_st | apply gl_list_tr | apply gl_list_it | apply gl_list_li | apply cmp_st | apply cmp_st_ne | apply cmp_tr | apply cmp_tr_ne | apply gc_neL | apply gc_eqL | apply gc_neL0 | apply gc_eqL0 | apply gc_neS | apply cond_tr | apply cond_st | apply cond_n | apply tup_int | apply tup_bool
  | (apply gb_subN <;> lt_chain) | (apply gb_modN <;> lt_chain) | (apply gb_modS <;> lt_chain) | (apply sub_stD <;> lt_chain) | (apply sub_trD <;> lt_chain) | (apply gs_li <;> lt_chain) | (apply gs_tu <;> lt_chain) | (apply gs_st_neg <;> lt_chain) | (apply gs_neg <;> lt_chain) | (apply gk_hi_st <;> lt_chain) | (apply gk_lo_st <;> lt_chain) | (apply gk_hi_tr <;> lt_chain) | (apply gk_lo_tr <;> lt_chain) | (apply gk_hi_li <;> lt_chain) | (apply gk_lo_li <;> lt_chain) | (apply gb_addS <;> lt_chain) | (apply gb_addT <;> lt_chain) | (apply gb_addL <;> lt_chain) | (apply gb_mulN <;> lt_chain) | (apply gb_fdivN <;> lt_chain) | (apply gb_repT <;> lt_chain) | (apply gb_rep1 <;> lt_chain) | (apply tup_st8 <;> lt_chain) | (apply tup_tr8 <;> lt_chain) | (apply tup_lst8 <;> lt_chain) | (apply tup_tus8 <;> lt_chain) | (apply tup_pairs8 <;> lt_chain)
  | apply gl_int | apply gl_tupA | apply gl_tupB | apply gl_tupC | apply gl_lisA | apply gl_lisB | apply gl_lisC | apply bd_add | apply bd_sub | apply gc_ltI | apply gc_leI | apply gc_gtI | apply gc_geI | apply gc_eqI | apply gc_neI)
  | k_mem
  | (with_reducible first | apply retR_pu | apply retR_li0 | apply retR_li1) <;> infer_instance
  | (with_reducible first | exact takeR_pu | exact takeR_li0 | exact takeR_nl0 | exact takeR_di0 | exact keepR_pu | exact keepR_li0 | exact keepR_nl0 | exact keepR_di0)
  | (with_reducible first | apply takeR_li1 | apply keepR_li1) <;> infer_instance
  | with_reducible exact wipe_0
  | (with_reducible apply wipe_S) <;> infer_instance
  | with_reducible exact set_0
  | (with_reducible apply set_S) <;> infer_instance
  | (with_reducible apply set_2) <;> infer_instance
  | (with_reducible apply bindP_v) <;> infer_instance
  | (with_reducible apply bindP_t2) <;> infer_instance
  | (with_reducible apply bindP_t3) <;> infer_instance
  | (with_reducible first | apply hold_ev | apply hold_ex | apply hold_exs | apply hold_evTs | apply hold_evCs | apply hold_fn | apply hold_fw)
  | with_reducible exact apart_nil
  | (with_reducible apply apart_of) <;> simp [apart, muE, muEs, muT, muTs, muO, muS, muSs, P.slots, P.slotsL]
  | (with_reducible first | apply gu_get | apply gu_itR | apply gu_seq | apply gu_nlAt | apply gu_den | apply gu_take | apply gu_keep | apply gu_ret | apply gu_bind | apply gu_eget | apply gu_nl | apply gu_st1 | apply gu_own | apply gu_wipe | apply gu_set) <;> exact rfl
  | with_reducible exact rfl
  | ((with_reducible apply gu_b); simp only [Bool.not_true, Bool.not_false, Bool.and_true, Bool.true_and, Bool.or_false, Bool.false_or, Bool.or_self, Bool.and_self, Bool.not_not, Bool.or_true, Bool.true_or, Bool.and_false, Bool.false_and]; done)
  | lt_chain
  | skip)
-- OG
theorem law_true (ns : List Int) (hn : ns.length ≤ 63) : d_law [.list (ns.map .int)] = .ok (.pu (.bool true)) := by
  let a0 : Option M := some (.pu (.list (ns.map .int)))
  have hw0 : RW (.li [.list (ns.map .int), .int ((0 : Nat) : Int), .int ((8029 : Nat) : Int), .int ((0 : Nat) : Int)]) := rw_init ns hn 8029
  obtain ⟨c, s, w1, hw1, q1, hy, _, _⟩ := yard_any _ hw0 7 8 (by omega) (by omega) (by omega) (by omega)
  obtain ⟨st, w2, hw2, q2, h⟩ := state_any w1 hw1 c s hy
  have h8 := hy.s8
  have h2 := hy.s2
  have h7 := hy.c7
  have hs := h.hs
  -- 3: the set
  obtain ⟨is, w3, hw3, his, q3⟩ := sub_any (G := g_law) (v := 7) (s := s) (X := .sub (.var 2) (.cst (.int 1))) (cnd := .cmp .eq (.callW 2 1 [(.cst (.int 2))]) (.cst (.int 0))) (m := .pu .none)
    (fun w a => [some (.pu (.list (ns.map .int))), some w, some (.pu (ydD c s)), some (.pu (stD st)), some (.pu .none), some (.li []), none, a, none, none, none, none]) w2 hw2 (by omega)
    (by infer_instance) (fun _ => rfl) (fun _ _ _ => rfl) (fun _ _ => rfl) (fun _ _ _ => rfl) (by
    intro a ha w hw
    obtain ⟨v, w', hw', q, hv⟩ := taken_any w hw 2 (by omega) (by omega)
    refine ⟨decide (v = 0), w', hw', ?_⟩
    infer_instance)
  have hss := SS.of his
  -- 6: groups
  obtain ⟨m6, w4, hw4, q4, hm6⟩ := taken_any w3 hw3 7 (by omega) (by omega)
  obtain ⟨⟨w5, gs, a5, a6⟩, ⟨hw5, hgs, hgl⟩, q5⟩ := ex_for_ex (G := g_law) (p := .v 8) (it := .rng [(.callW 2 1 [(.cst (.int 7))])]) (body := [(.app 5 (.bi .tuple [(.lc false [7] (.var 7) (.v 7) (.rng [(.sub (.var 2) (.cst (.int 1)))]) [(.cmp .eq (.callW 2 1 [(.cst (.int 3))]) (.cst (.int 0)))])])), (.asg (.v 4) (.call 5 [(.var 4), (.sub (.var 5) (.neg (.cst (.int 1))))]))]) (xs := List.range m6) (emb := nD)
    (env := [some (.pu (.list (ns.map .int))), some w3, some (.pu (ydD c s)), some (.pu (stD st)), some (.pu (stD st)), some (.li []), some (.pu (trD is)), none, none, none, none, none])
    (fun (x : M × List (List Nat) × Option M × Option M) => [some (.pu (.list (ns.map .int))), some x.1, some (.pu (ydD c s)), some (.pu (stD st)), some (.pu (stD (gfin st x.2.1))), some (.li (x.2.1.map trD)), some (.pu (trD is)), none, x.2.2.1, none, none, none])
    (fun k x => RW x.1 ∧ (∀ g ∈ x.2.1, SS g s) ∧ x.2.1.length = k) (w4, [], none, none)
    (by infer_instance) rfl rfl rfl ⟨hw4, by simp, rfl⟩ (by
    rintro k x hx ⟨w, gs, a, b⟩ ⟨hw, hg, hl⟩
    dsimp only at hw hg hl ⊢
    have hk : k < m6 := by
      rcases Nat.lt_or_ge k m6 with h | h
      · exact h
      · rw [List.getElem?_eq_none (by simpa using h)] at hx; cases hx
    obtain ⟨g, w', hw', hgg, q⟩ := sub_any (G := g_law) (v := 7) (s := s) (X := .sub (.var 2) (.cst (.int 1))) (cnd := .cmp .eq (.callW 2 1 [(.cst (.int 3))]) (.cst (.int 0))) (m := .pu .none)
      (fun w a => [some (.pu (.list (ns.map .int))), some w, some (.pu (ydD c s)), some (.pu (stD st)), some (.pu (stD (gfin st gs))), some (.li (gs.map trD)), some (.pu (trD is)), a, some (.pu (nD x)), none, none, none]) w hw (by omega)
      (by infer_instance) (fun _ => rfl) (fun _ _ _ => rfl) (fun _ _ => rfl) (fun _ _ _ => rfl) (by
      intro a ha w hw
      obtain ⟨v, w', hw', q, hv⟩ := taken_any w hw 3 (by omega) (by omega)
      refine ⟨decide (v = 0), w', hw', ?_⟩
      infer_instance)
    have hgl : gs.length ≤ 1000 := by omega
    have hcur := gfin_good c s hy gs st h
    have hlast : subD (.li (gs.map trD ++ [trD g])) (.pu (.int (-((1 : Nat) : Int)))) = .ok (.pu (trD g)) := sub_last _ _
    refine ⟨(w', gs ++ [g], some (.pu (nD x)), none), ⟨hw', ?_, by simp only [List.length_append, List.length_singleton]; omega⟩, ?_⟩
    · intro y hy2
      rcases List.mem_append.1 hy2 with h3 | h3
      · exact hg y h3
      · rw [List.mem_singleton.1 h3]; exact SS.of hgg
    · have e1 : gfin st (gs ++ [g]) = aon (gfin st gs) g := by simp [gfin]
      have e2 : (gs ++ [g]).map trD = gs.map trD ++ [trD g] := by simp
      simp only [e1, e2]
      infer_instance)
  dsimp only at hw5 hgs hgl q5
  rw [List.length_range] at hgl
  have hlen : gs.length ≤ 40 := by omega
  have hgf := gfin_good c s hy gs st h
  obtain ⟨m9, w6, hw6, q6, hm9⟩ := taken_any w5 hw5 1000 (by omega) (by omega)
  obtain ⟨m10, w7, hw7, q7, hm10⟩ := taken_any w6 hw6 9 (by omega) (by omega)
  have hwg := wrd_gfin c s hy gs st h
  have hcut := turn_cut st m9 (by omega)
  have hm9s := Nat.mod_lt m9 (show 0 < s by omega)
  obtain ⟨h11, a11, q11⟩ := ex_for_fold1 (G := g_law) (p := .v 11) (it := .rng [(.var 10)]) (body := [(.asg (.v 4) (.call 5 [(.var 4), (.lc false [7] (.var 7) (.v 7) (.rng [(.sub (.var 2) (.cst (.int 1)))]) [(.cmp .eq (.bin .mod (.bi .int [(.var 7)]) (.cst (.int 2))) (.bin .mod (.bi .int [(.var 11)]) (.cst (.int 2))))])]))])
    (fun (x : List (List Nat)) a => [some (.pu (.list (ns.map .int))), some w7, some (.pu (ydD c s)), some (.pu (stD st)), some (.pu (stD x)), some (.li (gs.map trD)), some (.pu (trD is)), none, some (.pu (.int ((m9 % s : Nat) : Int))), some (.pu (.int (m9 : Nat))), some (.pu (.int (m10 : Nat))), a]) (fun x => Good c s x) st (f := fun x t => aon x (evn s t)) (xs := List.range m10) (emb := nD) (a0 := none) (by infer_instance) rfl rfl h (by
    intro x hx cur a hc
    refine ⟨aon_good c s cur hy hc _, ?_⟩
    apply Exists.intro
    infer_instance)
  have hrep : ∀ g ∈ List.replicate (m9 % 9) (List.range s), SS g s := by
    intro g hg
    rw [(List.mem_replicate.1 hg).2]
    exact SS.of (List.Sublist.refl _)
  have hcut2 := turn_cut st (m9 % 9) (by omega)
  have hall := gfin_all st (m9 % 9) 0
  rw [turn_zero, Nat.zero_add, hs] at hall
  rw [hs] at hcut2
  unfold d_law
  apply runP_go (e0 := [some (.pu (.list (ns.map .int))), none, none, none, none, none, none, none, none, none, none, none]) rfl
  unfold b_law
  iterate 7
    apply exs_go
    · infer_instance
  apply exs_go
  · infer_instance
    rw [hwg]; simp
  apply exs_go
  · infer_instance
    rw [Bool.not_eq_false', decide_eq_true_eq, List.filter_eq_nil_iff]
    intro x hx
    rw [aon_single st x (by omega) (by rw [hs]; exact List.mem_range.1 hx)]
    simp
  apply exs_go
  · infer_instance
  apply exs_go
  · infer_instance
  apply exs_go
  · infer_instance
    · rw [hs]
    · rw [← hs, hcut]; exact tup_st8 c s _ hy (turn_good c s st h m9 hy)
  apply exs_go
  · infer_instance
    rw [hall, hcut2]; simp
  apply exs_go
  · infer_instance
  apply exs_go
  · infer_instance
  infer_instance
  rfl
end K29

open PySem PySem.W PyProof.Rows
set_option maxHeartbeats 0 in
theorem PySem.Challenge.cw_trainring_k29_whole_moves_at_once_holds : PySem.Challenge.rw_trainring_k29_whole_moves_at_once.Holds := by
  w_on; o_law; k_head; (case hw => w_witness2)
  k_fill
  refine L2.walk_of (l := PySem.Challenge.rw_trainring_k29_whole_moves_at_once) (n := 63) (k := 43) (x := "_law_script") (CX := fun _ => L2.CX0) (sp := fun w => TR.spP ⟨_, PySem.Challenge.pw_trainring_k29_whole_moves_at_once, w⟩ 1 K29.d_law) rfl (by decide) rfl ⟨rfl, by decide, by decide⟩ (fun w h Y => PySem.W.kIn_of Y) ?F (fun w H a ns hl _ hS => TR.law_sp hS (K29.law_true ns hl)) (fun _ _ _ _ _ h => h)
  case F =>
    intro w mg fa h KX G hmg
    refine' K29.all_mk (l := PySem.Challenge.rw_trainring_k29_whole_moves_at_once) KX G hmg ?a0 ?l0 ?c0 ?k0 ?a1 ?l1 ?c1 ?k1 ?a2 ?l2 ?c2 ?k2 ?a3 ?l3 ?c3 ?k3 ?a4 ?l4 ?c4 ?k4 ?a5 ?l5 ?c5 ?k5 ?a6 ?l6 ?c6 ?k6 ?a7 ?l7 ?c7 ?k7 ?a8 ?l8 ?c8 ?k8 ?a9 ?l9 ?c9 ?k9 ?a10 ?l10 ?c10 ?k10 ?a11 ?l11 ?c11 ?k11 ?a12 ?l12 ?c12 ?k12 ?a13 ?l13 ?c13 ?k13 ?a14 ?l14 ?c14 ?k14 ?a15 ?l15 ?c15 ?k15 ?a16 ?l16 ?c16 ?k16 ?a17 ?l17 ?c17 ?k17 ?a18 ?l18 ?c18 ?k18 ?a19 ?l19 ?c19 ?k19 ?a20 ?l20 ?c20 ?k20 ?a21 ?l21 ?c21 ?k21 ?z0 ?z1 ?z2 ?z3 ?z4 ?z5 ?z6 ?z7 ?z8 ?z9 ?z10 ?z11 ?z12 ?z13 ?z14 ?z15 ?z16 ?z17 ?z18 ?m0 ?m1 ?m2
    (case a0 => k_is); (case l0 => k_is); (case c0 => k_is); (case k0 => k_is); (case a1 => k_is); (case l1 => k_is); (case c1 => k_is); (case k1 => k_is); (case a2 => k_is); (case l2 => k_is); (case c2 => k_is); (case k2 => k_is); (case a3 => k_is); (case l3 => k_is); (case c3 => k_is); (case k3 => k_is); (case a4 => k_is); (case l4 => k_is); (case c4 => k_is); (case k4 => k_is); (case a5 => k_is); (case l5 => k_is); (case c5 => k_is); (case k5 => k_is); (case a6 => k_is); (case l6 => k_is); (case c6 => k_is); (case k6 => k_is); (case a7 => k_is); (case l7 => k_is); (case c7 => k_is); (case k7 => k_is); (case a8 => k_is); (case l8 => k_is); (case c8 => k_is); (case k8 => k_is); (case a9 => k_is); (case l9 => k_is); (case c9 => k_is); (case k9 => k_is); (case a10 => k_is); (case l10 => k_is); (case c10 => k_is); (case k10 => k_is); (case a11 => k_is); (case l11 => k_is); (case c11 => k_is); (case k11 => k_is); (case a12 => k_is); (case l12 => k_is); (case c12 => k_is); (case k12 => k_is); (case a13 => k_is); (case l13 => k_is); (case c13 => k_is); (case k13 => k_is); (case a14 => k_is); (case l14 => k_is); (case c14 => k_is); (case k14 => k_is); (case a15 => k_is); (case l15 => k_is); (case c15 => k_is); (case k15 => k_is); (case a16 => k_is); (case l16 => k_is); (case c16 => k_is); (case k16 => k_is); (case a17 => k_is); (case l17 => k_is); (case c17 => k_is); (case k17 => k_is); (case a18 => k_is); (case l18 => k_is); (case c18 => k_is); (case k18 => k_is); (case a19 => k_is); (case l19 => k_is); (case c19 => k_is); (case k19 => k_is); (case a20 => k_is); (case l20 => k_is); (case c20 => k_is); (case k20 => k_is); (case a21 => k_is); (case l21 => k_is); (case c21 => k_is); (case k21 => k_is); (case z0 => k_is); (case z1 => k_is); (case z2 => k_is); (case z3 => k_is); (case z4 => k_is); (case z5 => k_is); (case z6 => k_is); (case z7 => k_is); (case z8 => k_is); (case z9 => k_is); (case z10 => k_is); (case z11 => k_is); (case z12 => k_is); (case z13 => k_is); (case z14 => k_is); (case z15 => k_is); (case z16 => k_is); (case z17 => k_is); (case z18 => k_is); (case m0 => k_is); (case m1 => k_is); (case m2 => k_is)
