import PyProof.Rows.All
import Wide.All
import OpenK.AllK
import Wide.FinOn
import HandS.ForMost
import HandS.Deep
import HandS.Star
import HandS.IsInst
import HandS.Zip
import HandS.Rev
import HandS.TupAny
import HandS.Conv
import HandS.Walk
import HandS.Style
import HandS.TupMul
import HandS.Small
import KE.KeyNested
import KE.KDictKeyed
import KE.GoesEnum
import KE.KIndexOf
import KE.KSortTupG
import KE.DataCmp
import KE.DataMinMax
import KE.SortData
import KE.DataFind
import KE.DataAny
import KE.KDictCopyH
import KE.KTupSum
import HandS.SetFor
import PyProof.SetRoads
import PyProof.Rows.SetFrom
import HandS.TupLe
import KE.KDictDisplayH
import PyProof.DictUpdate
import HandS.DictComp
import PySem.Challenge.RW_trainring_k91_whole_length_of_rows
set_option Elab.async false
set_option Elab.async false
set_option linter.all false
/-! values, results, the small language and what it evaluates to -/
namespace TR
open PySem
abbrev D := PyData
/-- a value that a slot holds: data that is never written again; a list of one's own; a list of lists of one's own; a dict of one's own; a set -/
inductive M where
  | pu (d : D)
  | li (xs : List D)
  | nl (xss : List (List D))
  | di (kvs : List (D × D))
  | st (xs : List D)
def M.toD : M → D
  | .pu d => d
  | .li xs => .list xs
  | .nl xss => .list (xss.map .list)
  | .di kvs => .dict kvs
  | .st xs => .list xs
structure Exc where
  cls : Str
  args : List D
inductive R (α : Type) where
  | ok (a : α)
  | exc (x : Exc)
  | bad
def R.bind {α β : Type} : R α → (α → R β) → R β
  | .ok a, f => f a
  | .exc x, _ => .exc x
  | .bad, _ => .bad
instance : Monad R where
  pure := .ok
  bind := R.bind
@[simp] theorem R.ok_bind {α β : Type} (a : α) (f : α → R β) : (R.ok a >>= f) = f a := rfl
@[simp] theorem R.bad_bind {α β : Type} (f : α → R β) : ((R.bad : R α) >>= f) = R.bad := rfl
@[simp] theorem R.exc_bind {α β : Type} (x : Exc) (f : α → R β) : ((R.exc x : R α) >>= f) = R.exc x := rfl
@[simp] theorem R.pure_eq {α : Type} (a : α) : (pure a : R α) = R.ok a := rfl
def R.ofOpt {α : Type} : Option α → R α
  | some a => .ok a
  | none => .bad
abbrev Env := List (Option M)
def Env.get (env : Env) (i : Nat) : R M := match env[i]? with
  | some (some m) => .ok m
  | _ => .bad
/-- a def: data in, a value out; a def that writes its first argument -/
abbrev FP := List D → R M
abbrev FW := M → List D → R (M × M)
inductive Fn where
  | pr (f : FP)
  | wr (f : FW)
inductive BOp | add | sub | mul | fdiv | mod | pow
  deriving DecidableEq
inductive COp | eq | ne | lt | le | gt | ge | inn | nin
  deriving DecidableEq
inductive Bi | len | abs | max | min | sum | any | all | sorted | list | tuple | set | int | bool | str
  | isint | isbool | istup | islist | isstr | istl
  deriving DecidableEq
inductive Mt | index | count | get | join | split | replace | tidx
  deriving DecidableEq
inductive P where
  | v (i : Nat)
  | t (ps : List P)
inductive E where
  | cst (d : D)
  | var (i : Nat)
  | glb (k : Nat) (d : D)
  | call (k : Nat) (as : List E)
  | callW (k y : Nat) (as : List E)
  | callT (k : Nat) (as : List E)
  | popI (y : Nat) (a : E)
  | bi (b : Bi) (as : List E)
  | mt (m : Mt) (o : E) (as : List E)
  | bin (o : BOp) (a b : E)
  | cmp (o : COp) (a b : E)
  | chn (o1 o2 : COp) (a b c : E)
  | isc (neg : Bool) (a : E) (c : D)
  | neg (a : E)
  | not (a : E)
  | and (a b : E)
  | or (a b : E)
  | ite (c a b : E)
  | tup (as : List E)
  | lst (as : List E)
  | star (a : E)
  | sub (a b : E)
  | slc (a : E) (lo hi : Option E)
  | rev (a : E)
  | lc (own : Bool) (vs : List Nat) (elt : E) (p : P) (it : E) (cs : List E)
  | lc2 (vs vs1 : List Nat) (elt : E) (p : P) (it : E) (p1 : P) (it1 : E) (cs1 : List E)
  | dc (vs : List Nat) (k v : E) (p : P) (it : E)
  | dct (kvs : List E)
  | rng (as : List E)
  | rgl (tup : Bool) (as : List E)
  | enm (a : E)
  | zip (a b : E)
  | rvd (a : E)
  | its (a : E)
  | vls (a : E)
inductive S where
  | asg (p : P) (e : E)
  | par (ps : List Nat) (es : List E)
  | setI (y : Nat) (i e : E)
  | setII (y : Nat) (i j e : E)
  | augN (y : Nat) (o : BOp) (e : E)
  | augI (y : Nat) (i : E) (o : BOp) (e : E)
  | augII (y : Nat) (i j : E) (o : BOp) (e : E)
  | app (y : Nat) (e : E)
  | appI (y : Nat) (i e : E)
  | ext (y : Nat) (e : E)
  | upd (y : Nat) (e : E)
  | set2 (y : Nat) (i1 i2 e1 e2 : E)
  | setN (y : Nat) (i : E) (x : Nat) (e1 e2 : E)
  | ret (e : E)
  | retN
  | ifs (c : E) (a b : List S)
  | for_ (p : P) (it : E) (body : List S)
  | whl (fuel : Nat) (c : E) (body : List S)
  | brk
  | pass
  | do_ (e : E)
/-! ### plain operations -/
def D.isAtom : D → Bool
  | .none | .bool _ | .int _ | .str _ => true
  | _ => false
def okD (d : D) : Bool := d.plain && decide (d.depth ≤ 60)
/-- a key: ints, texts, None, tuples of such -/
def okKey : Nat → D → Bool
  | _, .int _ => true
  | _, .str _ => true
  | _, .none => true
  | n + 1, .tuple xs => xs.all (okKey n)
  | _, _ => false
def keyOk (d : D) : Bool := okKey 8 d
def atomKey : D → Bool
  | .int _ => true
  | .str _ => true
  | _ => false
/-- a tuple that is a key -/
def tupKey : D → Bool
  | .tuple xs => okKey 8 (.tuple xs)
  | _ => false
/-- the key is of the kind of the dict's keys -/
def keyFit (kvs : List (D × D)) (d : D) : Bool := (atomKey d && kvs.all fun kv => atomKey kv.1) || (tupKey d && kvs.all fun kv => tupKey kv.1)
/-- keys that are whole numbers or texts -/
def atomKeys (kvs : List (D × D)) : Bool := kvs.all fun kv => atomKey kv.1
def isTupM : M → Bool
  | .pu (.tuple _) => true
  | _ => false
mutual
/-- data as a key -/
def nkD : D → NestedKey
  | .int i => .num i
  | .str x => .text x
  | .tuple ds => .tup (nkDs ds)
  | _ => .none
def nkDs : List D → List NestedKey
  | [] => []
  | d :: ds => nkD d :: nkDs ds
end
def dLook (kvs : List (D × D)) (k : D) : Option D := (kvs.find? fun kv => PyData.eqv kv.1 k).map (·.2)
def dPut (kvs : List (D × D)) (k v : D) : List (D × D) :=
  if kvs.any fun kv => PyData.eqv kv.1 k then kvs.map fun kv => if PyData.eqv kv.1 k then (kv.1, v) else kv else kvs ++ [(k, v)]
def M.seq : M → R (List D)
  | .pu (.list xs) => .ok xs
  | .pu (.tuple xs) => .ok xs
  | .li xs => .ok xs
  | _ => .bad
def M.lst : M → R (List D)
  | .pu (.list xs) => .ok xs
  | .li xs => .ok xs
  | _ => .bad
def M.dic : M → R (List (D × D))
  | .pu (.dict kvs) => .ok kvs
  | .di kvs => .ok kvs
  | _ => .bad
/-- the place of an index -/
def ixOf (n : Nat) (i : Int) : Option Nat :=
  if 0 ≤ i then (if i < n then some i.toNat else none) else if -(n : Int) ≤ i then some (i + n).toNat else none
def atD (xs : List D) (i : Int) : R D := R.ofOpt ((ixOf xs.length i).bind fun j => xs[j]?)
/-- a bound of a slice -/
def slIx (n dflt : Nat) : Option Int → Nat
  | none => dflt
  | some i => if 0 ≤ i then min i.toNat n else (i + n).toNat
def cutD (xs : List D) (lo hi : Option Int) : List D :=
  (xs.drop (slIx xs.length 0 lo)).take (slIx xs.length xs.length hi - slIx xs.length 0 lo)
/-! order: data that are alike -/
def notNon : D → Bool
  | .none => false
  | _ => true
def isTup : D → Bool
  | .tuple _ => true
  | _ => false
def fullTup : D → Bool
  | .tuple (_ :: _) => true
  | _ => false
def cmpAll (xs : List D) : Bool := (xs.all fun x => xs.all fun y => W.alike x y) && xs.all notNon && okD (.tuple xs)
def sortAll (xs : List D) : Bool := cmpAll xs && (xs.all fullTup || xs.all fun x => !isTup x) && decide (xs.length ≤ 16777216)
def sortD (xs : List D) : List D := xs.mergeSort (W.dataLe false id)
def minD (x : D) (xs : List D) : D := W.minD x xs
def maxD (x : D) (xs : List D) : D := W.maxD x xs
def dedupD : List D → List D
  | [] => []
  | x :: xs => if xs.any (fun y => PyData.eqv y x) then dedupD xs else x :: dedupD xs
def sumD : Int → List D → R Int
  | a, [] => .ok a
  | a, .int i :: r => sumD (a + i) r
  | _, _ => .bad
def boolsD : List D → R (List Bool)
  | [] => .ok []
  | .bool b :: r => do
    let bs ← boolsD r
    .ok (b :: bs)
  | _ => .bad
def big : Nat := 16777216
def okBits (i : Int) : Bool := decide (-(2 ^ 64) < i ∧ i < 2 ^ 64)
def binD (o : BOp) (a b : M) : R M :=
  match o, a, b with
  | .add, .pu (.int i), .pu (.int j) => .ok (.pu (.int (i + j)))
  | .sub, .pu (.int i), .pu (.int j) => .ok (.pu (.int (i - j)))
  | .mul, .pu (.int i), .pu (.int j) => if okBits i || okBits j then .ok (.pu (.int (i * j))) else .bad
  | .fdiv, .pu (.int i), .pu (.int j) => if j ≠ 0 ∧ j.natAbs < 1073741824 then .ok (.pu (.int (i.fdiv j))) else .bad
  | .mod, .pu (.int i), .pu (.int j) => if j ≠ 0 then .ok (.pu (.int (i.fmod j))) else .bad
  | .pow, .pu (.int i), .pu (.int j) => if 0 ≤ j ∧ j ≤ 1000000 ∧ i.natAbs < 2 ^ 64 then .ok (.pu (.int (i ^ j.toNat))) else .bad
  | .add, .pu (.tuple xs), .pu (.tuple ys) => if xs.length + ys.length ≤ big then .ok (.pu (.tuple (xs ++ ys))) else .bad
  | .add, .pu (.str x), .pu (.str y) => if x.length + y.length ≤ big then .ok (.pu (.str (x ++ y))) else .bad
  | .mul, .pu (.tuple xs), .pu (.int j) => if -1000 ≤ j ∧ j ≤ 1000 ∧ xs.length ≤ 1000 then .ok (.pu (.tuple (List.replicate j.toNat xs).flatten)) else .bad
  | .add, .li xs, .li ys => if xs.length + ys.length ≤ big then .ok (.li (xs ++ ys)) else .bad
  | .mul, .li xs, .pu (.int j) => if -1000 ≤ j ∧ j ≤ 1000 ∧ xs.length ≤ 1000 then .ok (.li (List.replicate j.toNat xs).flatten) else .bad
  | _, _, _ => .bad
def isC (d : D) : D → Bool
  | .none => match d with | .none => true | _ => false
  | .bool b => match d with | .bool c => b == c | _ => false
  | _ => false
def ordC (a b : M) (f : D → D → Bool) : R Bool := match a, b with
  | .pu x, .pu y => if okD x && okD y && W.alike x y && notNon x then .ok (f x y) else .bad
  | _, _ => .bad
def cmpD (o : COp) (a b : M) : R Bool :=
  match o with
  | .eq => if okD a.toD && okD b.toD then .ok (PyData.eqv a.toD b.toD) else .bad
  | .ne => if okD a.toD && okD b.toD then .ok (!PyData.eqv a.toD b.toD) else .bad
  | .inn => match a, b with
    | .pu d, .pu (.dict kvs) => if keyFit kvs d then .ok (dLook kvs d).isSome else .bad
    | .pu d, .di kvs => if keyFit kvs d then .ok (dLook kvs d).isSome else .bad
    | .pu d, b => do
      let xs ← b.seq
      if okD d && okD (.tuple xs) then .ok (xs.any fun z => PyData.eqv z d) else .bad
    | _, _ => .bad
  | .nin => match a, b with
    | .pu d, .pu (.dict kvs) => if keyFit kvs d then .ok (!(dLook kvs d).isSome) else .bad
    | .pu d, .di kvs => if keyFit kvs d then .ok (!(dLook kvs d).isSome) else .bad
    | .pu d, b => do
      let xs ← b.seq
      if okD d && okD (.tuple xs) then .ok (!(xs.any fun z => PyData.eqv z d)) else .bad
    | _, _ => .bad
  | .lt => ordC a b fun x y => W.dataLt x y
  | .le => ordC a b fun x y => !W.dataLt y x
  | .gt => ordC a b fun x y => W.dataLt y x
  | .ge => ordC a b fun x y => !W.dataLt x y
def intsD : List D → Option (List Int)
  | [] => some []
  | .int i :: r => (intsD r).map (i :: ·)
  | _ => none
def lenD : M → R M
  | .nl xss => .ok (.pu (.int xss.length))
  | .di kvs => .ok (.pu (.int kvs.length))
  | .pu (.str x) => if x.length ≤ big then .ok (.pu (.int x.length)) else .bad
  | .pu (.dict kvs) => .ok (.pu (.int kvs.length))
  | .pu (.tuple xs) => .ok (.pu (.int xs.length))
  | .pu (.list xs) => .ok (.pu (.int xs.length))
  | .li xs => .ok (.pu (.int xs.length))
  | _ => .bad
def bestD (f : D → List D → D) (m : M) : R M := do
  let xs ← m.seq
  match xs with
  | [] => .bad
  | x :: r => if cmpAll (x :: r) then .ok (.pu (f x r)) else .bad
def sumM (m : M) : R M := do
  let xs ← m.seq
  let i ← sumD 0 xs
  .ok (.pu (.int i))
def quaM (f : List Bool → Bool) (m : M) : R M := do
  let xs ← m.lst
  let bs ← boolsD xs
  .ok (.pu (.bool (f bs)))
/-- strictly ascending, each once -/
def insU (k : Int) : List Int → List Int
  | [] => [k]
  | x :: xs => if k < x then k :: x :: xs else if k = x then x :: xs else x :: insU k xs
def sortU (ns : List Int) : List Int := ns.foldr insU []
def sortM (m : M) : R M :=
  match m with
  | .st xs => match intsD xs with
    | some ns => .ok (.li ((sortU ns).map .int))
    | none => .bad
  | .pu (.tuple xs) => match intsD xs with
    | some _ => if sortAll xs then .ok (.li (sortD xs)) else .bad
    | none => .bad
  | m => do
    let xs ← m.lst
    if sortAll xs then .ok (.li (sortD xs)) else .bad
/-- a set of the whole numbers of a tuple -/
def setM (m : M) : R M :=
  match m with
  | .pu (.tuple xs) => match intsD xs with
    | some ns => if ns.length < 64 then .ok (.st xs) else .bad
    | none => .bad
  | _ => .bad
def listM : M → R M
  | .di kvs => .ok (.li (kvs.map (·.1)))
  | .pu (.dict kvs) => .ok (.li (kvs.map (·.1)))
  | m => do
    let xs ← m.seq
    .ok (.li xs)
def tupM (m : M) : R M := do
  let xs ← m.seq
  .ok (.pu (.tuple xs))
def intM : M → R M
  | .pu (.int i) => .ok (.pu (.int i))
  | .pu (.bool c) => .ok (.pu (.int (if c then 1 else 0)))
  | _ => .bad
/-- the built-in type of a value -/
inductive Ty | non | bool | int | str | list | tuple | dict
  deriving DecidableEq
def tyD : M → Ty
  | .pu .none => .non
  | .pu (.bool _) => .bool
  | .pu (.int _) => .int
  | .pu (.str _) => .str
  | .pu (.tuple _) => .tuple
  | .pu (.dict _) => .dict
  | .di _ => .dict
  | _ => .list
def isM (ts : List Ty) : M → R M
  | .di _ => .bad
  | .pu (.dict _) => .bad
  | m => .ok (.pu (.bool (ts.contains (tyD m))))
def bi1 (b : Bi) (m : M) : R M :=
  match b with
  | .len => lenD m
  | .abs => match m with
    | .pu (.int i) => .ok (.pu (.int (if i < 0 then -i else i)))
    | _ => .bad
  | .max => bestD maxD m
  | .min => bestD minD m
  | .sum => sumM m
  | .any => quaM (·.any id) m
  | .all => quaM (·.all id) m
  | .sorted => sortM m
  | .list => listM m
  | .tuple => tupM m
  | .int => intM m
  | .bool => match m with
    | .pu (.int i) => .ok (.pu (.bool (i != 0)))
    | _ => .bad
  | .str => match m with
    | .pu (.int i) => if i.natAbs.log2 < 1920 then .ok (.pu (.str (toString i))) else .bad
    | _ => .bad
  | .isint => isM [.int, .bool] m
  | .isbool => isM [.bool] m
  | .istup => isM [.tuple] m
  | .islist => isM [.list] m
  | .isstr => isM [.str] m
  | .istl => isM [.tuple, .list] m
  | .set => setM m
def bi2 (b : Bi) (x y : M) : R M :=
  match b, x, y with
  | .max, .pu (.int i), .pu (.int j) => .ok (.pu (.int (if j > i then j else i)))
  | .min, .pu (.int i), .pu (.int j) => .ok (.pu (.int (if j < i then j else i)))
  | .set, m, .pu .none => do
    let z ← setM m
    sortM z
  | _, _, _ => .bad
def biD (b : Bi) (as : List M) : R M :=
  match as with
  | [m] => bi1 b m
  | [m, n] => bi2 b m n
  | _ => .bad
def idxD (xs : List D) (d : D) : Option Nat := xs.findIdx? fun y => PyData.eqv y d
def idxM (o a : M) : R M := match a with
  | .pu d => do
    let xs ← o.lst
    if SeqAt.shaped d && SeqAt.shaped (.list xs) then (match idxD xs d with
      | some j => .ok (.pu (.int (j : Nat)))
      | none => .bad) else .bad
  | _ => .bad
/-- the place of a whole number in a tuple of such -/
def idxT (o a : M) : R M := match o, a with
  | .pu (.tuple xs), .pu (.int k) => match intsD xs with
    | some ns => if k ∈ ns then .ok (.pu (.int (ns.idxOf k : Nat))) else .bad
    | none => .bad
  | _, _ => .bad
def cntM (o a : M) : R M := match a with
  | .pu d => do
    let xs ← o.lst
    if okD d && okD (.tuple xs) then .ok (.pu (.int (xs.countP fun z => PyData.eqv z d : Nat))) else .bad
  | _ => .bad
def getM (o a : M) (d : D) : R M := match a with
  | .pu k => do
    let kvs ← o.dic
    if keyFit kvs k then .ok (.pu ((dLook kvs k).getD d)) else .bad
  | _ => .bad
def mtD (m : Mt) (o : M) (as : List M) : R M :=
  match as with
  | [a] => match m with
    | .index => idxM o a
    | .count => cntM o a
    | .tidx => idxT o a
    | .get => getM o a .none
    | _ => .bad
  | [a, .pu d] => match m with
    | .get => getM o a d
    | _ => .bad
  | _ => .bad
def subD (o i : M) : R M :=
  match o, i with
  | .di kvs, .pu k => if keyFit kvs k then (do
      let v ← R.ofOpt (dLook kvs k)
      .ok (.pu v)) else .bad
  | .pu (.dict kvs), .pu k => if keyFit kvs k then (do
      let v ← R.ofOpt (dLook kvs k)
      .ok (.pu v)) else .bad
  | .nl xss, .pu (.int i) => (do
      let xs ← R.ofOpt ((ixOf xss.length i).bind fun j => xss[j]?)
      .ok (.li xs))
  | o, .pu (.int i) => (do
      let xs ← o.seq
      let d ← atD xs i
      .ok (.pu d))
  | _, _ => .bad
def slcD (o : M) (lo hi : Option Int) : R M :=
  match o with
  | .pu (.tuple xs) => .ok (.pu (.tuple (cutD xs lo hi)))
  | o => do
    let xs ← o.seq
    .ok (.li (cutD xs lo hi))
def revD (o : M) : R M :=
  match o with
  | .pu (.tuple xs) => .ok (.pu (.tuple xs.reverse))
  | o => do
    let xs ← o.seq
    .ok (.li xs.reverse)
def rngD (a b : Int) : List D := (List.range (b - a).toNat).map fun (i : Nat) => .int (a + (i : Int))
def rgOf : List M → R (Int × Int)
  | [.pu (.int j)] => .ok (0, j)
  | [.pu (.int i), .pu (.int j)] => .ok (i, j)
  | _ => .bad
/-- bounds of a range that is walked; of one that is laid out -/
def rgC (a b : Int) : Bool := decide (-(2 ^ 62) ≤ a ∧ a < 2 ^ 62 ∧ -(2 ^ 62) ≤ b ∧ b < 2 ^ 62)
def rgB (a b : Int) : Bool := rgC a b && decide ((b - a).toNat ≤ 16777216)
def enmD (xs : List D) (n : Nat) : List D := match xs with
  | [] => []
  | x :: r => .tuple [.int (n : Nat), x] :: enmD r (n + 1)
def zipD (xs ys : List D) : List D := xs.zipWith (fun x y => .tuple [x, y]) ys
/-! ### patterns -/
mutual
def bindP : P → D → Env → R Env
  | .v i, d, env => if i < env.length then .ok (env.set i (some (.pu d))) else .bad
  | .t ps, .tuple ds, env => bindPs ps ds env
  | .t _, _, _ => .bad
def bindPs : List P → List D → Env → R Env
  | [], [], env => .ok env
  | p :: ps, d :: ds, env => do
    let e1 ← bindP p d env
    bindPs ps ds e1
  | _, _, _ => .bad
end
mutual
def P.slots : P → List Nat
  | .v i => [i]
  | .t ps => P.slotsL ps
def P.slotsL : List P → List Nat
  | [] => []
  | p :: ps => p.slots ++ P.slotsL ps
end
def wipeE (env : Env) : List Nat → Env
  | [] => env
  | v :: vs => (wipeE env vs).set v none
/-- the slots vs as they are in old -/
def backE (env old : Env) : List Nat → Env
  | [] => env
  | v :: vs => (backE env old vs).set v (old[v]?.getD none)
/-! ### what may change -/
mutual
def muE : E → List Nat
  | .call _ as => muTs as
  | .callW _ y as => y :: muTs as
  | .callT _ as => muTs as
  | .popI y a => y :: muE a
  | .bi _ as => muEs as
  | .mt _ o as => muE o ++ muEs as
  | .bin _ a b => muE a ++ muE b
  | .cmp _ a b => muE a ++ muE b
  | .chn _ _ a b c => muE a ++ muE b ++ muE c
  | .isc _ a _ => muE a
  | .neg a => muE a
  | .not a => muE a
  | .and a b => muE a ++ muE b
  | .or a b => muE a ++ muE b
  | .ite c a b => muE c ++ muT a ++ muT b
  | .tup as => muTs as
  | .lst as => muTs as
  | .star a => muE a
  | .sub a b => muE a ++ muE b
  | .slc a lo hi => muE a ++ muO lo ++ muO hi
  | .rev a => muE a
  | .lc _ vs elt p it cs => muE it ++ ((muT elt ++ muEs cs).filter fun i => !vs.contains i)
  | .lc2 vs _ elt p it p1 it1 cs1 => muE it ++ ((muE it1 ++ muT elt ++ muEs cs1).filter fun i => !vs.contains i)
  | .dc vs k v p it => muE it ++ ((muT k ++ muT v).filter fun i => !vs.contains i)
  | .dct kvs => muTs kvs
  | .rng as => muEs as
  | .rgl _ as => muEs as
  | .enm a => muE a
  | .zip a b => muE a ++ muE b
  | .rvd a => muE a
  | .its a => muE a
  | .vls a => muE a
  | .cst _ | .var _ | .glb _ _ => []
def muT : E → List Nat
  | .var i => [i]
  | e => muE e
def muEs : List E → List Nat
  | [] => []
  | e :: es => muE e ++ muEs es
def muTs : List E → List Nat
  | [] => []
  | e :: es => muT e ++ muTs es
def muO : Option E → List Nat
  | none => []
  | some e => muE e
end
/-! ### the evaluator -/
/-- a value taken for good -/
def takeR (e : E) : M × List Nat × Env → R (D × Env)
  | (.pu d, _, env) => .ok (d, env)
  | (m, [], env) => .ok (m.toD, env)
  | (m, _ :: _, env) => match e with
    | .var i => .ok (m.toD, env.set i (some (.pu m.toD)))
    | _ => .bad
def keepR (e : E) : M × List Nat × Env → R (M × Env)
  | (.pu d, _, env) => .ok (.pu d, env)
  | (m, [], env) => .ok (m, env)
  | (m, _ :: _, env) => match e with
    | .var i => .ok (.pu m.toD, env.set i (some (.pu m.toD)))
    | _ => .bad
/-- a value handed back: a slot's own object goes with it -/
def retR (e : E) : M × List Nat × Env → R (M × Env)
  | (.pu d, _, env) => .ok (.pu d, env)
  | (m, [], env) => .ok (m, env)
  | (m, _ :: _, env) => match e with
    | .var i => .ok (m, env.set i none)
    | _ => .bad
def boolR : M × List Nat × Env → R (Bool × Env)
  | (.pu (.bool b), _, env) => .ok (b, env)
  | _ => .bad
/-- what a walk gives -/
def itR (m : M) : R (List D) := match m with
  | .di kvs => .ok (kvs.map (·.1))
  | .pu (.dict kvs) => .ok (kvs.map (·.1))
  | m => m.seq
def M.isNl : M → Bool
  | .nl _ => true
  | _ => false
def apart (rs mu : List Nat) : Bool := rs.all fun i => !mu.contains i
mutual
def noL : D → Bool
  | .list _ => false
  | .dict _ => false
  | .tuple xs => noLs xs
  | _ => true
def noLs : List D → Bool
  | [] => true
  | x :: xs => noL x && noLs xs
end
def freezeE (env : Env) : List Nat → Env
  | [] => env
  | i :: r => match env[i]? with
    | some (some m) => (freezeE env r).set i (some (.pu m.toD))
    | _ => freezeE env r
/-- the loop of a comprehension: f gives nothing where the test fails -/
def lcLoop (f : D → Env → R (Option D × Env)) : List D → Env → R (List D × Env)
  | [], env => .ok ([], env)
  | x :: xs, env => do
    let (o, e1) ← f x env
    let (ys, e2) ← lcLoop f xs e1
    .ok ((match o with | some y => y :: ys | none => ys), e2)
def lc2Loop (f : D → Env → R (List D × Env)) : List D → Env → R (List D × Env)
  | [], env => .ok ([], env)
  | x :: xs, env => do
    let (o, e1) ← f x env
    let (ys, e2) ← lc2Loop f xs e1
    .ok (o ++ ys, e2)
def nlLoop (f : D → Env → R (List D × Env)) : List D → Env → R (List (List D) × Env)
  | [], env => .ok ([], env)
  | x :: xs, env => do
    let (o, e1) ← f x env
    let (ys, e2) ← nlLoop f xs e1
    .ok (o :: ys, e2)
def dcLoop (f : D → Env → R ((D × D) × Env)) : List D → List (D × D) → Env → R (List (D × D) × Env)
  | [], acc, env => .ok (acc, env)
  | x :: xs, acc, env => do
    let (kv, e1) ← f x env
    if atomKey kv.1 && keyFit acc kv.1 then dcLoop f xs (dPut acc kv.1 kv.2) e1 else .bad
def intR : M → R Int
  | .pu (.int i) => .ok i
  | _ => .bad
def fpOf (G : List Fn) (k : Nat) : FP := match G[k]? with
  | some (.pr f) => f
  | _ => fun _ => .bad
def fwOf (G : List Fn) (k : Nat) : FW := match G[k]? with
  | some (.wr f) => f
  | _ => fun _ _ => .bad
def M.isLi : M → Bool
  | .li _ => true
  | _ => false
def isNon : M → Bool
  | .pu .none => true
  | _ => false
def blM : M → R Bool
  | .pu (.bool b) => .ok b
  | _ => .bad
def M.own : M → Bool
  | .li _ | .di _ => true
  | _ => false
/-- the slots vs hold nothing or data -/
def den (env : Env) (vs : List Nat) : Bool := vs.all fun i => match env[i]? with
  | some none => true
  | some (some (.pu _)) => true
  | _ => false
def subs (a b : List Nat) : Bool := a.all fun i => b.contains i
/-- a slot's own list of lists -/
def nlAt (m : M) (it : E) : Option (Nat × List D) := match m, it with
  | .nl xss, .var i => some (i, xss.map .list)
  | _, _ => none
/-- a new list of one's own -/
def ownR : M × List Nat × Env → R (List D × Env)
  | (.li zs, [], e) => .ok (zs, e)
  | _ => .bad
mutual
def ev (G : List Fn) : E → Env → R (M × List Nat × Env)
  | .cst d, env => .ok (.pu d, [], env)
  | .var i, env => do
    let m ← env.get i
    match m with
    | .pu d => .ok (.pu d, [], env)
    | m => .ok (m, [i], env)
  | .glb _ d, env => .ok (.pu d, [], env)
  | .call k as, env => do
    let (ds, e1) ← evTs G as env
    let m ← fpOf G k ds
    .ok (m, [], e1)
  | .callW k y as, env => do
    let _ ← env.get y
    let (ds, e1) ← evTs G as env
    let m0 ← e1.get y
    if m0.own then do
      let (m, m1) ← fwOf G k m0 ds
      if m1.own then .ok (m, [], e1.set y (some m1)) else .bad
    else .bad
  | .callT k as, env => do
    let (ds, e1) ← evTs G as env
    let (m, _) ← fwOf G k (.di []) ds
    .ok (m, [], e1)
  | .popI y a, env => do
    let m00 ← env.get y
    if m00.isLi then do
      let (m, _, e1) ← ev G a env
      let i ← intR m
      let m0 ← e1.get y
      match m0 with
      | .li xs => match ixOf xs.length i with
        | some k => match xs[k]? with
          | some d => .ok (.pu d, [], e1.set y (some (.li (xs.eraseIdx k))))
          | none => .bad
        | none => .bad
      | _ => .bad
    else .bad
  | .bi b as, env => do
    let (ms, _, e1) ← evs G as env
    let m ← biD b ms
    .ok (m, [], e1)
  | .mt k o as, env => do
    let (mo, ro, e1) ← ev G o env
    let (ms, _, e2) ← evs G as e1
    if apart ro (muEs as) then do
      let m ← mtD k mo ms
      .ok (m, [], e2)
    else .bad
  | .bin o a b, env => do
    let (ma, ra, e1) ← ev G a env
    let (mb, _, e2) ← ev G b e1
    if apart ra (muE b) then do
      let m ← binD o ma mb
      .ok (m, [], e2)
    else .bad
  | .cmp o a b, env => do
    let (ma, ra, e1) ← ev G a env
    let (mb, _, e2) ← ev G b e1
    if apart ra (muE b) then do
      let c ← cmpD o ma mb
      .ok (.pu (.bool c), [], e2)
    else .bad
  | .chn o1 o2 a b c, env => do
    let (ma, ra, e1) ← ev G a env
    let (mb, rb, e2) ← ev G b e1
    if apart ra (muE b) && apart rb (muE c) then do
      let k ← cmpD o1 ma mb
      if k then do
        let (mc, _, e3) ← ev G c e2
        let k2 ← cmpD o2 mb mc
        .ok (.pu (.bool k2), [], e3)
      else .ok (.pu (.bool false), [], e2)
    else .bad
  | .isc n a c, env => do
    let (m, _, e1) ← ev G a env
    match c with
    | .none => .ok (.pu (.bool (isNon m != n)), [], e1)
    | .bool b => do
      let x ← blM m
      .ok (.pu (.bool ((x == b) != n)), [], e1)
    | _ => .bad
  | .neg a, env => do
    let (m, _, e1) ← ev G a env
    let i ← intR m
    .ok (.pu (.int (-i)), [], e1)
  | .not a, env => do
    let r ← ev G a env
    let (b, e1) ← boolR r
    .ok (.pu (.bool (!b)), [], e1)
  | .and a b, env => do
    let r ← ev G a env
    let (c, e1) ← boolR r
    if c then do
      let r2 ← ev G b e1
      let (c2, e2) ← boolR r2
      .ok (.pu (.bool c2), [], e2)
    else .ok (.pu (.bool false), [], e1)
  | .or a b, env => do
    let r ← ev G a env
    let (c, e1) ← boolR r
    if c then .ok (.pu (.bool true), [], e1) else do
      let r2 ← ev G b e1
      let (c2, e2) ← boolR r2
      .ok (.pu (.bool c2), [], e2)
  | .ite c a b, env => do
    let r ← ev G c env
    let (k, e1) ← boolR r
    if k then do
      let r2 ← ev G a e1
      let (d, e2) ← takeR a r2
      .ok (.pu d, [], e2)
    else do
      let r2 ← ev G b e1
      let (d, e2) ← takeR b r2
      .ok (.pu d, [], e2)
  | .tup as, env => do
    let (ds, e1) ← evTs G as env
    if ds.length ≤ big then .ok (.pu (.tuple ds), [], e1) else .bad
  | .lst as, env => do
    let (ds, e1) ← evTs G as env
    if ds.length ≤ big then .ok (.li ds, [], e1) else .bad
  | .star _, _ => .bad
  | .sub a b, env => do
    let (ma, ra, e1) ← ev G a env
    let (mb, _, e2) ← ev G b e1
    if apart ra (muE b) then do
      let m ← subD ma mb
      .ok (m, (if ma.isNl then ra else []), e2)
    else .bad
  | .slc a lo hi, env => do
    let (ma, ra, e1) ← ev G a env
    let (l, e2) ← evO G lo e1
    let (h, e3) ← evO G hi e2
    if apart ra (muO lo ++ muO hi) then do
      let m ← slcD ma l h
      .ok (m, [], e3)
    else .bad
  | .rev a, env => do
    let (ma, _, e1) ← ev G a env
    let m ← revD ma
    .ok (m, [], e1)
  | .lc own vs elt p it cs, env => do
    let (m, rs, e1) ← ev G it env
    if den e1 vs && subs p.slots vs then
      if own then do
        let xs ← itR m
        if apart rs (muE elt ++ vs) then do
          let (ys, e2) ← nlLoop (fun x en => do
            let e2 ← bindP p x (wipeE en vs)
            let r ← ev G elt e2
            ownR r) xs e1
          if cs.isEmpty && decide (ys.length ≤ big) then .ok (.nl ys, [], backE e2 e1 vs) else .bad
        else .bad
      else match nlAt m it with
        | some (i, xs) =>
          if (muT elt ++ muEs cs).isEmpty && !vs.contains i then do
            let (ys, _) ← lcLoop (fun x en => do
              let e2 ← bindP p x (wipeE en vs)
              let (b, e3) ← evCs G cs e2
              if b then do
                let r ← ev G elt e3
                let (d, e4) ← takeR elt r
                .ok (some d, e4)
              else .ok (none, e3)) xs (e1.set i (some (.pu (.list xs))))
            if noLs ys && decide (ys.length ≤ big) then .ok (.li ys, [], e1) else .bad
          else .bad
        | none => do
          let xs ← itR m
          if apart rs (muT elt ++ muEs cs ++ vs) then do
            let (ys, e2) ← lcLoop (fun x en => do
              let e2 ← bindP p x (wipeE en vs)
              let (b, e3) ← evCs G cs e2
              if b then do
                let r ← ev G elt e3
                let (d, e4) ← takeR elt r
                .ok (some d, e4)
              else .ok (none, e3)) xs e1
            if ys.length ≤ big then .ok (.li ys, [], backE e2 e1 vs) else .bad
          else .bad
    else .bad
  | .lc2 vs vs1 elt p it p1 it1 cs1, env => do
    let (m, rs, e1) ← ev G it env
    let xs ← itR m
    if den e1 vs && subs p.slots vs && subs vs1 vs && subs p1.slots vs1 && apart rs (muE it1 ++ muT elt ++ muEs cs1 ++ vs) then do
      let (ys, e2) ← lc2Loop (fun x en => do
        let e2 ← bindP p x (wipeE en vs)
        let (m1, rs1, e3) ← ev G it1 e2
        let xs1 ← itR m1
        if den e3 vs1 && apart rs1 (muT elt ++ muEs cs1 ++ vs1) then
          lcLoop (fun x1 en1 => do
            let e4 ← bindP p1 x1 (wipeE en1 vs1)
            let (b, e5) ← evCs G cs1 e4
            if b then do
              let r ← ev G elt e5
              let (d, e6) ← takeR elt r
              .ok (some d, e6)
            else .ok (none, e5)) xs1 e3
        else .bad) xs e1
      if ys.length ≤ big then .ok (.li ys, [], backE e2 e1 vs) else .bad
    else .bad
  | .dc vs k v p it, env => do
    let (m, rs, e1) ← ev G it env
    let xs ← itR m
    if den e1 vs && subs p.slots vs && apart rs (muT k ++ muT v ++ vs) then do
      let (kvs, e2) ← dcLoop (fun x en => do
        let e2 ← bindP p x (wipeE en vs)
        let r ← ev G k e2
        let (dk, e3) ← takeR k r
        let r2 ← ev G v e3
        let (dv, e4) ← takeR v r2
        .ok ((dk, dv), e4)) xs [] e1
      if kvs.length < big then .ok (.di kvs, [], backE e2 e1 vs) else .bad
    else .bad
  | .dct es, env => do
    let (kvs, e1) ← evKs G es [] env
    .ok (.di kvs, [], e1)
  | .rng as, env => do
    let (ms, _, e1) ← evs G as env
    let (a, b) ← rgOf ms
    if rgC a b then .ok (.li (rngD a b), [], e1) else .bad
  | .rgl t as, env => do
    let (ms, _, e1) ← evs G as env
    let (a, b) ← rgOf ms
    if rgB a b then .ok ((if t then .pu (.tuple (rngD a b)) else .li (rngD a b)), [], e1) else .bad
  | .enm a, env => do
    let (m, rs, e1) ← ev G a env
    let xs ← m.seq
    .ok (.li (enmD xs 0), rs, e1)
  | .zip a b, env => do
    let (ma, ra, e1) ← ev G a env
    let (mb, rb, e2) ← ev G b e1
    let xs ← ma.seq
    let ys ← mb.seq
    if apart ra (muE b) then .ok (.li (zipD xs ys), ra ++ rb, e2) else .bad
  | .rvd a, env => do
    let (m, rs, e1) ← ev G a env
    let xs ← m.seq
    .ok (.li xs.reverse, rs, e1)
  | .its a, env => do
    let (m, rs, e1) ← ev G a env
    let kvs ← m.dic
    .ok (.li (kvs.map fun kv => .tuple [kv.1, kv.2]), rs, e1)
  | .vls a, env => do
    let (m, rs, e1) ← ev G a env
    let kvs ← m.dic
    .ok (.li (kvs.map (·.2)), rs, e1)
def evs (G : List Fn) : List E → Env → R (List M × List Nat × Env)
  | [], env => .ok ([], [], env)
  | e :: es, env => do
    let (m, rs, e1) ← ev G e env
    let (ms, rs2, e2) ← evs G es e1
    if apart rs (muEs es) then .ok (m :: ms, rs ++ rs2, e2) else .bad
def evTs (G : List Fn) : List E → Env → R (List D × Env)
  | [], env => .ok ([], env)
  | .star a :: es, env => do
    let (m, _, e1) ← ev G a env
    let xs ← m.seq
    let (ds, e2) ← evTs G es e1
    .ok (xs ++ ds, e2)
  | e :: es, env => do
    let r ← ev G e env
    let (d, e1) ← takeR e r
    let (ds, e2) ← evTs G es e1
    .ok (d :: ds, e2)
def evKs (G : List Fn) : List E → List (D × D) → Env → R (List (D × D) × Env)
  | k :: v :: r, acc, env => do
    let rk ← ev G k env
    let (dk, e1) ← takeR k rk
    let rv ← ev G v e1
    let (dv, e2) ← takeR v rv
    if tupKey dk && keyFit acc dk then evKs G r (dPut acc dk dv) e2 else .bad
  | [_], _, _ => .bad
  | [], acc, env => .ok (acc, env)
def evO (G : List Fn) : Option E → Env → R (Option Int × Env)
  | none, env => .ok (none, env)
  | some e, env => do
    let (m, _, e1) ← ev G e env
    let i ← intR m
    .ok (some i, e1)
def evCs (G : List Fn) : List E → Env → R (Bool × Env)
  | [], env => .ok (true, env)
  | c :: cs, env => do
    let r ← ev G c env
    let (b, e1) ← boolR r
    if b then evCs G cs e1 else .ok (false, e1)
end
end TR
set_option Elab.async false
set_option linter.all false
namespace TR
open PySem
inductive Out where
  | nx (env : Env)
  | ret (m : M) (env : Env)
  | br (env : Env)
/-! content or binding may change -/
mutual
def muS : S → List Nat
  | .asg p e => p.slots ++ muT e
  | .par ps es => ps ++ muTs es
  | .setI y i e => y :: (muT e ++ muE i)
  | .setII y i j e => y :: (muT e ++ muE i ++ muE j)
  | .augN y _ e => y :: muE e
  | .augI y i _ e => y :: (muE i ++ muE e)
  | .augII y i j _ e => y :: (muE i ++ muE j ++ muE e)
  | .app y e => y :: muT e
  | .appI y i e => y :: (muE i ++ muT e)
  | .ext y e => y :: muE e
  | .upd y e => y :: muE e
  | .set2 y i1 i2 e1 e2 => y :: (muT e1 ++ muT e2 ++ muE i1 ++ muE i2)
  | .setN y i x e1 e2 => y :: x :: (muT e1 ++ muT e2 ++ muE i)
  | .ret e => muT e
  | .retN => []
  | .ifs c a b => muE c ++ muSs a ++ muSs b
  | .for_ p it body => p.slots ++ muE it ++ muSs body
  | .whl _ c body => muE c ++ muSs body
  | .brk => []
  | .pass => []
  | .do_ e => muE e
def muSs : List S → List Nat
  | [] => []
  | s :: r => muS s ++ muSs r
end
/-! names that may be bound anew -/
mutual
def asS : S → List Nat
  | .asg p _ => p.slots
  | .par ps _ => ps
  | .augN y _ _ => [y]
  | .setN _ _ x _ _ => [x]
  | .ifs _ a b => asSs a ++ asSs b
  | .for_ p _ body => p.slots ++ asSs body
  | .whl _ _ body => asSs body
  | .setI .. | .setII .. | .augI .. | .augII .. | .app .. | .appI .. | .ext .. | .upd .. | .set2 .. | .ret _ | .retN | .brk | .pass | .do_ _ => []
def asSs : List S → List Nat
  | [] => []
  | s :: r => asS s ++ asSs r
end
def setAll : Env → List Nat → List M → R Env
  | env, [], [] => .ok env
  | env, i :: is, m :: ms => if i < env.length then setAll (env.set i (some m)) is ms else .bad
  | _, _, _ => .bad
def keepAll (G : List Fn) : List E → Env → R (List M × Env)
  | [], env => .ok ([], env)
  | e :: es, env => do
    let r ← ev G e env
    let (m, e1) ← keepR e r
    let (ms, e2) ← keepAll G es e1
    .ok (m :: ms, e2)
/-- y[i] = d -/
def putI (m i : M) (d : D) : R M :=
  match m, i with
  | .li xs, .pu (.int k) => match ixOf xs.length k with
    | some j => .ok (.li (xs.set j d))
    | none => .bad
  | .di kvs, .pu k => if keyFit kvs k && decide (kvs.length < big) then .ok (.di (dPut kvs k d)) else .bad
  | _, _ => .bad
def putII (m i j : M) (d : D) : R M :=
  match m, i, j with
  | .nl xss, .pu (.int k), .pu (.int l) => match ixOf xss.length k with
    | some a => match xss[a]? with
      | some xs => match ixOf xs.length l with
        | some b => .ok (.nl (xss.set a (xs.set b d)))
        | none => .bad
      | none => .bad
    | none => .bad
  | _, _, _ => .bad
def appM (m : M) (d : D) : R M :=
  match m with
  | .li xs => if xs.length < big then .ok (.li (xs ++ [d])) else .bad
  | _ => .bad
def appII (m i : M) (d : D) : R M :=
  match m, i with
  | .nl xss, .pu (.int k) => match ixOf xss.length k with
    | some a => match xss[a]? with
      | some xs => if xs.length < big then .ok (.nl (xss.set a (xs ++ [d]))) else .bad
      | none => .bad
    | none => .bad
  | _, _ => .bad
def extM (m n : M) : R M :=
  match m with
  | .li xs => do
    let ys ← n.seq
    if xs.length + ys.length ≤ big then .ok (.li (xs ++ ys)) else .bad
  | _ => .bad
def updM (m n : M) : R M :=
  match m, n with
  | .di kvs, .di more => if (atomKeys kvs && atomKeys more && decide (kvs.length + more.length ≤ big)) = true then .ok (.di (more.foldl (fun a kv => dPut a kv.1 kv.2) kvs)) else .bad
  | _, _ => .bad
def atI2 (m i j : M) : R D :=
  match m, i with
  | .nl xss, .pu (.int k) => match ixOf xss.length k with
    | some a => match xss[a]? with
      | some xs => match j with
        | .pu (.int l) => atD xs l
        | _ => .bad
      | none => .bad
    | none => .bad
  | _, _ => .bad
def pureR : M → R D
  | .pu d => .ok d
  | _ => .bad
def whLoop (c : Env → R (Bool × Env)) (body : Env → R Out) : Nat → Env → R Out
  | 0, _ => .bad
  | n + 1, env => do
    let (b, e1) ← c env
    if b then do
      let o ← body e1
      match o with
      | .nx e2 => whLoop c body n e2
      | .br e2 => .ok (.nx e2)
      | .ret m e2 => .ok (.ret m e2)
    else .ok (.nx e1)
def foLoop (f : D → Env → R Out) : List D → Env → R Out
  | [], env => .ok (.nx env)
  | x :: xs, env => do
    let o ← f x env
    match o with
    | .nx e2 => foLoop f xs e2
    | .br e2 => .ok (.nx e2)
    | .ret m e2 => .ok (.ret m e2)
def M.isDi : M → Bool
  | .di _ => true
  | _ => false
mutual
def ex (G : List Fn) : S → Env → R Out
  | .asg p e, env => do
    let r ← ev G e env
    match p with
    | .v i => do
      let (m, e1) ← keepR e r
      if i < e1.length then .ok (.nx (e1.set i (some m))) else .bad
    | p => do
      let (d, e1) ← takeR e r
      let e2 ← bindP p d e1
      .ok (.nx e2)
  | .par is es, env => do
    let (ms, e1) ← keepAll G es env
    let e2 ← setAll e1 is ms
    .ok (.nx e2)
  | .setI y i e, env => do
    let _ ← env.get y
    let r ← ev G e env
    let (d, e1) ← takeR e r
    let (mi, _, e2) ← ev G i e1
    let m ← e2.get y
    let m2 ← putI m mi d
    .ok (.nx (e2.set y (some m2)))
  | .setII y i j e, env => do
    let r ← ev G e env
    let (d, e1) ← takeR e r
    let (mi, _, e2) ← ev G i e1
    let (mj, _, e3) ← ev G j e2
    let m ← e3.get y
    let m2 ← putII m mi mj d
    if (muE j).contains y then .bad else .ok (.nx (e3.set y (some m2)))
  | .augN y o e, env => do
    let x ← env.get y
    let (m, _, e1) ← ev G e env
    match x, m with
    | .pu (.int i), .pu (.int j) => do
      let z ← binD o (.pu (.int i)) (.pu (.int j))
      .ok (.nx (e1.set y (some z)))
    | _, _ => .bad
  | .augI y i o e, env => do
    let (mi, _, e1) ← ev G i env
    let m ← e1.get y
    let x ← subD m mi
    let (mv, _, e2) ← ev G e e1
    let m' ← e2.get y
    match x, mv with
    | .pu (.int a), .pu (.int b) => do
      let z ← binD o (.pu (.int a)) (.pu (.int b))
      let d ← pureR z
      let m2 ← putI m' mi d
      if isTupM mi then .bad else .ok (.nx (e2.set y (some m2)))
    | _, _ => .bad
  | .augII y i j o e, env => do
    let (mi, _, e1) ← ev G i env
    let (mj, _, e2) ← ev G j e1
    let m ← e2.get y
    let x ← atI2 m mi mj
    let (mv, _, e3) ← ev G e e2
    let m' ← e3.get y
    match x, mv with
    | .int a, .pu (.int b) => do
      let z ← binD o (.pu (.int a)) (.pu (.int b))
      let d ← pureR z
      let m2 ← putII m' mi mj d
      if (muE j ++ muE e).contains y then .bad else .ok (.nx (e3.set y (some m2)))
    | _, _ => .bad
  | .app y e, env => do
    let m00 ← env.get y
    if m00.isLi then do
      let r ← ev G e env
      let (d, e1) ← takeR e r
      let m ← e1.get y
      let m2 ← appM m d
      .ok (.nx (e1.set y (some m2)))
    else .bad
  | .appI y i e, env => do
    let _ ← env.get y
    let (mi, _, e1) ← ev G i env
    let m ← e1.get y
    let r ← ev G e e1
    let (d, e2) ← takeR e r
    let m2 ← appII m mi d
    if (muT e).contains y then .bad else .ok (.nx (e2.set y (some m2)))
  | .ext y e, env => do
    let (me, _, e1) ← ev G e env
    let m ← e1.get y
    let m2 ← extM m me
    .ok (.nx (e1.set y (some m2)))
  | .upd y e, env => do
    let m00 ← env.get y
    if m00.isDi then do
      let (me, rs, e1) ← ev G e env
      let m ← e1.get y
      let m2 ← updM m me
      if rs.isEmpty then .ok (.nx (e1.set y (some m2))) else .bad
    else .bad
  | .set2 y i1 i2 a b, env => do
    let ra ← ev G a env
    let (da, e1) ← takeR a ra
    let rb ← ev G b e1
    let (db, e2) ← takeR b rb
    let (m1, _, e3) ← ev G i1 e2
    let m ← e3.get y
    let m' ← putI m m1 da
    let (m2, _, e4) ← ev G i2 (e3.set y (some m'))
    let m'' ← e4.get y
    let m3 ← putI m'' m2 db
    .ok (.nx (e4.set y (some m3)))
  | .setN y i x a b, env => do
    let ra ← ev G a env
    let (da, e1) ← takeR a ra
    let rb ← ev G b e1
    let (db, e2) ← takeR b rb
    let _ ← e2.get y
    let (m1, _, e3) ← ev G i e2
    let m ← e3.get y
    let m' ← putI m m1 da
    if !isTupM m1 && decide (x < e3.length) then .ok (.nx ((e3.set y (some m')).set x (some (.pu db)))) else .bad
  | .ret e, env => do
    let r ← ev G e env
    let (m, e1) ← retR e r
    .ok (.ret m e1)
  | .retN, env => .ok (.ret (.pu .none) env)
  | .ifs c a b, env => do
    let r ← ev G c env
    let (k, e1) ← boolR r
    if k then exs G a e1 else exs G b e1
  | .for_ p it body, env => do
    let (m, rs, e1) ← ev G it env
    let xs ← itR m
    if apart rs (muSs body ++ p.slots) then
      foLoop (fun x en => do
        let e2 ← bindP p x en
        exs G body e2) xs e1
    else .bad
  | .whl n c body, env => whLoop (fun en => do
      let r ← ev G c en
      boolR r) (fun en => exs G body en) n env
  | .brk, env => .ok (.br env)
  | .pass, env => .ok (.nx env)
  | .do_ e, env => do
    let (_, _, e1) ← ev G e env
    .ok (.nx e1)
def exs (G : List Fn) : List S → Env → R Out
  | [], env => .ok (.nx env)
  | s :: r, env => do
    let o ← ex G s env
    match o with
    | .nx e1 => exs G r e1
    | o => .ok o
end
/-- a def of data -/
def runP (G : List Fn) (n : Nat) (body : List S) : FP := fun ds => do
  let o ← exs G body (ds.map (fun d => some (.pu d)) ++ List.replicate (n - ds.length) none)
  match o with
  | .ret m _ => .ok m
  | .nx _ => .ok (.pu .none)
  | .br _ => .bad
/-- a def that writes its parameter w -/
def runW (G : List Fn) (w n : Nat) (body : List S) : FW := fun m ds => do
  let o ← exs G body ((ds.take w).map (fun d => some (.pu d)) ++ some m :: (ds.drop w).map (fun d => some (.pu d)) ++ List.replicate (n - ds.length - 1) none)
  match o with
  | .ret r e => do
    let m1 ← e.get w
    .ok (r, m1)
  | .nx e => do
    let m1 ← e.get w
    .ok (.pu .none, m1)
  | .br _ => .bad
end TR
set_option Elab.async false
set_option linter.all false
/-! how values lie in the abstract heap -/
namespace TR
open PySem L2
abbrev Zn := Addr → Prop
/-- the world of a walk -/
structure Wd where
  K : PySem.W.Frag
  P : Program
  w : World
abbrev wd (X : Cx) : Wd := ⟨X.K, X.prog, X.w⟩
def keyD : Key → D
  | .inl i => .int i
  | .inr x => .str x
/-- a list of the written part -/
def KLst (K : PySem.W.Frag) (a : Addr) (xs : List V) : Prop := ∃ (o : Obj) (its : Array Value) (n : Nat), K.lookup a = some o ∧ o.cls = .type "list" ∧ o.dict = none ∧ o.data = .seq its n ∧ its.size ≤ sizeLine ∧ Vals xs its.toList
/-- a tuple as it is laid: it has no dict of its own -/
def tupO (its : List Value) : Obj := { cls := .type "tuple", data := .seq its.toArray }
/-- a tuple of data: its object is known -/
def SqD (K : PySem.W.Frag) (H : Hp) (a : Addr) (xs : List V) : Prop := (∃ its, H a = some (.frz (tupO its) (.tup xs))) ∨ ∃ its, K.lookup a = some (tupO its) ∧ its.length ≤ sizeLine ∧ Vals xs its
theorem SqD.sq {K : PySem.W.Frag} {H : Hp} {a : Addr} {xs : List V} (h : SqD K H a xs) : SqT K H a xs := by
  rcases h with ⟨its, h⟩ | ⟨its, h1, h2, h3⟩
  · exact .inl (.inr ⟨_, h⟩)
  · exact .inr ⟨tupO its, its.toArray, 0, h1, rfl, rfl, by simpa using h2, by simpa using h3⟩
theorem SqD.keep {K : PySem.W.Frag} {H H' : Hp} {a : Addr} {xs : List V} (h : SqD K H a xs) (k2 : ∀ o u, H a = some (.frz o u) → H' a = some (.frz o u)) : SqD K H' a xs := by
  rcases h with ⟨its, h⟩ | h
  · exact .inl ⟨its, k2 _ _ h⟩
  · exact .inr h
/-- a dict as it lies: its entries are known -/
def dO (a : Addr) (es : Array DictEntry) (ep : Nat) : HO := .ext fun h => h.DictRaw a es ep
/-- entries whose keys are tuples -/
structure PinN (B : Wd) (a : Addr) (es : Array DictEntry) (xs : List (NestedKey × Addr × Value)) : Prop where
  main : (a == sysModules) = false
  ent : es.toList = xs.map (entryOfKey (nestedKind B.P B.w))
  nd : (xs.map (·.1)).Nodup
  len : xs.length ≤ sizeLine
  ne : xs ≠ []
/-- entries whose keys are whole numbers and texts -/
structure PinA (B : Wd) (a : Addr) (es : Array DictEntry) (ep : Nat) (ks : List (Key × V)) : Prop where
  main : (a == sysModules) = false
  len : ks.length ≤ sizeLine
  dict : ∃ vs, KV ks vs ∧ ∀ h : Heap, h.DictRaw a es ep → h.DictOf (mixKind B.P B.w) a vs
section
variable (B : Wd)
mutual
/-- data that is never written again: its lists and dicts lie in Z -/
inductive Rp (Z : Zn) (H : Hp) : V → D → Prop
  | non : Rp Z H .non .none
  | bl (b : Bool) : Rp Z H (.bl b) (.bool b)
  | int (i : Int) : Rp Z H (.int i) (.int i)
  | str (x : Str) : Rp Z H (.str x) (.str x)
  | tup {a : Addr} {xs : List V} {ds : List D} : SqD B.K H a xs → RpL Z H xs ds → Rp Z H (.ref a) (.tuple ds)
  | lst {a : Addr} {xs : List V} {ds : List D} : Z a → Rd H a (.lst xs) → RpL Z H xs ds → Rp Z H (.ref a) (.list ds)
  | lsK {a : Addr} {xs : List V} {ds : List D} : KLst B.K a xs → RpL Z H xs ds → Rp Z H (.ref a) (.list ds)
  | dA {a : Addr} {es : Array DictEntry} {ep : Nat} {ks : List (Key × V)} {kvs : List (D × D)} : Z a → H a = some (dO a es ep) → PinA B a es ep ks → RKV Z H ks kvs → Rp Z H (.ref a) (.dict kvs)
  | dN {a : Addr} {es : Array DictEntry} {ep : Nat} {xs : List (NestedKey × Addr × Value)} {kvs : List (D × D)} : Z a → H a = some (dO a es ep) → PinN B a es xs → REN Z H xs kvs → Rp Z H (.ref a) (.dict kvs)
inductive RpL (Z : Zn) (H : Hp) : List V → List D → Prop
  | nil : RpL Z H [] []
  | cons {v : V} {vs : List V} {d : D} {ds : List D} : Rp Z H v d → RpL Z H vs ds → RpL Z H (v :: vs) (d :: ds)
/-- a dict's pairs: keys ints and texts -/
inductive RKV (Z : Zn) (H : Hp) : List (Key × V) → List (D × D) → Prop
  | nil : RKV Z H [] []
  | cons {k : Key} {v : V} {d : D} {ks : List (Key × V)} {ds : List (D × D)} : Rp Z H v d → RKV Z H ks ds → RKV Z H ((k, v) :: ks) ((keyD k, d) :: ds)
/-- entries whose keys are tuples, their keys and values as data -/
inductive REN (Z : Zn) (H : Hp) : List (NestedKey × Addr × Value) → List (D × D) → Prop
  | nil : REN Z H [] []
  | cons {b : Addr} {k d : D} {v : V} {u : Value} {xs : List (NestedKey × Addr × Value)} {kvs : List (D × D)} : tupKey k = true → Rp Z H (.ref b) k → RelV v u → Rp Z H v d → REN Z H xs kvs → REN Z H ((nkD k, b, u) :: xs) ((k, d) :: kvs)
end
end
/-- lists of lists of one's own -/
inductive RN (B : Wd) (Z : Zn) (H : Hp) : List V → List (List D) → List Addr → Prop
  | nil : RN B Z H [] [] []
  | cons {a : Addr} {xs : List V} {ds : List D} {vs : List V} {dss : List (List D)} {O : List Addr} : H a = some (.lst xs) → RpL B Z H xs ds → RN B Z H vs dss O → RN B Z H (.ref a :: vs) (ds :: dss) (a :: O)
/-- a slot's value; O: the addresses that are one's own -/
inductive RM (B : Wd) (Z : Zn) (H : Hp) : V → M → List Addr → Prop
  | pu {v : V} {d : D} : Rp B Z H v d → RM B Z H v (.pu d) []
  | li {a : Addr} {xs : List V} {ds : List D} : H a = some (.lst xs) → RpL B Z H xs ds → RM B Z H (.ref a) (.li ds) [a]
  | nl {a : Addr} {xs : List V} {dss : List (List D)} {O : List Addr} : H a = some (.lst xs) → RN B Z H xs dss O → RM B Z H (.ref a) (.nl dss) (a :: O)
  | dA {a : Addr} {es : Array DictEntry} {ep : Nat} {ks : List (Key × V)} {kvs : List (D × D)} : H a = some (dO a es ep) → PinA B a es ep ks → RKV B Z H ks kvs → RM B Z H (.ref a) (.di kvs) [a]
  | dN {a : Addr} {es : Array DictEntry} {ep : Nat} {xs : List (NestedKey × Addr × Value)} {kvs : List (D × D)} : H a = some (dO a es ep) → PinN B a es xs → REN B Z H xs kvs → RM B Z H (.ref a) (.di kvs) [a]
section
variable {B : Wd} {K : PySem.W.Frag} {Z Z' : Zn} {H H' : Hp}
theorem SqL.keep {a : Addr} {xs : List V} (h : SqL K H a xs) (k : ∀ o, H a = some o → H' a = some o) : SqL K H' a xs := by
  rcases h with (h | ⟨o, h⟩) | h
  · exact .inl (.inl (k _ h))
  · exact .inl (.inr ⟨o, k _ h⟩)
  · exact .inr h
theorem RdL.keep {a : Addr} {xs : List V} (h : Rd H a (.lst xs)) (k : ∀ o, H a = some o → H' a = some o) : Rd H' a (.lst xs) := by
  rcases h with h | ⟨o, h⟩
  · exact .inl (k _ h)
  · exact .inr ⟨o, k _ h⟩
theorem SqT.keep {a : Addr} {xs : List V} (h : SqT K H a xs) (k : ∀ ys, H a = some (.tup ys) → H' a = some (.tup ys)) (k2 : ∀ o u, H a = some (.frz o u) → H' a = some (.frz o u)) : SqT K H' a xs := by
  rcases h with (h | ⟨o, h⟩) | h
  · exact .inl (.inl (k _ h))
  · exact .inl (.inr ⟨o, k2 _ _ h⟩)
  · exact .inr h
/-- what must stand so that data stands -/
structure Stay (Z : Zn) (H H' : Hp) : Prop where
  z : ∀ a o, Z a → H a = some o → H' a = some o
  t : ∀ a ys, H a = some (.tup ys) → H' a = some (.tup ys)
  f : ∀ a o u, H a = some (.frz o u) → H' a = some (.frz o u)
theorem Stay.refl : Stay Z H H := ⟨fun _ _ _ h => h, fun _ _ h => h, fun _ _ _ h => h⟩
mutual
theorem Rp.stay (s : Stay Z H H') (hz : ∀ a, Z a → Z' a) : ∀ {v : V} {d : D}, Rp B Z H v d → Rp B Z' H' v d
  | _, _, .non => .non
  | _, _, .bl b => .bl b
  | _, _, .int i => .int i
  | _, _, .str x => .str x
  | _, _, .tup h r => .tup (SqD.keep h (s.f _)) (RpL.stay s hz r)
  | _, _, .lst z h r => .lst (hz _ z) (RdL.keep h fun o e => s.z _ o z e) (RpL.stay s hz r)
  | _, _, .lsK h r => .lsK h (RpL.stay s hz r)
  | _, _, .dA z h p r => .dA (hz _ z) (s.z _ _ z h) p (RKV.stay s hz r)
  | _, _, .dN z h p r => .dN (hz _ z) (s.z _ _ z h) p (REN.stay s hz r)
theorem RpL.stay (s : Stay Z H H') (hz : ∀ a, Z a → Z' a) : ∀ {vs : List V} {ds : List D}, RpL B Z H vs ds → RpL B Z' H' vs ds
  | _, _, .nil => .nil
  | _, _, .cons h r => .cons (Rp.stay s hz h) (RpL.stay s hz r)
theorem RKV.stay (s : Stay Z H H') (hz : ∀ a, Z a → Z' a) : ∀ {ks : List (Key × V)} {kvs : List (D × D)}, RKV B Z H ks kvs → RKV B Z' H' ks kvs
  | _, _, .nil => .nil
  | _, _, .cons h r => .cons (Rp.stay s hz h) (RKV.stay s hz r)
theorem REN.stay (s : Stay Z H H') (hz : ∀ a, Z a → Z' a) : ∀ {xs : List (NestedKey × Addr × Value)} {kvs : List (D × D)}, REN B Z H xs kvs → REN B Z' H' xs kvs
  | _, _, .nil => .nil
  | _, _, .cons t k q h r => .cons t (Rp.stay s hz k) q (Rp.stay s hz h) (REN.stay s hz r)
end
theorem RN.stay (s : Stay Z H H') (hz : ∀ a, Z a → Z' a) : ∀ {vs : List V} {dss : List (List D)} {O : List Addr}, RN B Z H vs dss O → (∀ a o, a ∈ O → H a = some o → H' a = some o) → RN B Z' H' vs dss O
  | _, _, _, .nil, _ => .nil
  | _, _, _, .cons h r t, ho => .cons (ho _ _ List.mem_cons_self h) (r.stay s hz) (RN.stay s hz t fun a o hm => ho a o (List.mem_cons_of_mem _ hm))
theorem RM.stay (s : Stay Z H H') (hz : ∀ a, Z a → Z' a) {v : V} {m : M} {O : List Addr} (h : RM B Z H v m O) (ho : ∀ a o, a ∈ O → H a = some o → H' a = some o) : RM B Z' H' v m O := by
  cases h with
  | pu h => exact .pu (h.stay s hz)
  | li h r => exact .li (ho _ _ List.mem_cons_self h) (r.stay s hz)
  | nl h r => exact .nl (ho _ _ List.mem_cons_self h) (r.stay s hz fun a o hm => ho a o (List.mem_cons_of_mem _ hm))
  | dA h p r => exact .dA (ho _ _ List.mem_cons_self h) p (r.stay s hz)
  | dN h p r => exact .dN (ho _ _ List.mem_cons_self h) p (r.stay s hz)
theorem RpL.length {vs : List V} {ds : List D} (h : RpL B Z H vs ds) : vs.length = ds.length := by
  induction ds generalizing vs with
  | nil => cases h; rfl
  | cons d ds ih => cases h with | cons _ r => simp [ih r]
theorem RpL.get {vs : List V} {ds : List D} (h : RpL B Z H vs ds) : ∀ {i : Nat} {d : D}, ds[i]? = some d → ∃ v, vs[i]? = some v ∧ Rp B Z H v d := by
  induction ds generalizing vs with
  | nil => intro i d e; simp at e
  | cons x ds ih =>
    cases h with
    | cons h r =>
      intro i d e
      cases i with
      | zero => simp at e; subst e; exact ⟨_, rfl, h⟩
      | succ i => simpa using ih r (by simpa using e)
theorem RpL.get' {vs : List V} {ds : List D} (h : RpL B Z H vs ds) {i : Nat} {v : V} (e : vs[i]? = some v) : ∃ d, ds[i]? = some d ∧ Rp B Z H v d := by
  have hl := h.length
  have hi : i < ds.length := by rw [← hl]; exact (List.getElem?_eq_some_iff.mp e).1
  obtain ⟨w, hw, r⟩ := h.get (List.getElem?_eq_getElem hi)
  rw [e] at hw; cases hw
  exact ⟨_, List.getElem?_eq_getElem hi, r⟩
theorem RpL.append {vs ws : List V} {ds es : List D} (h : RpL B Z H vs ds) (g : RpL B Z H ws es) : RpL B Z H (vs ++ ws) (ds ++ es) := by
  induction ds generalizing vs with
  | nil => cases h; exact g
  | cons d ds ih => cases h with | cons h r => exact .cons h (ih r)
theorem RpL.drop {vs : List V} {ds : List D} (h : RpL B Z H vs ds) : ∀ n, RpL B Z H (vs.drop n) (ds.drop n) := by
  induction ds generalizing vs with
  | nil => cases h; intro n; simpa using RpL.nil
  | cons d ds ih => cases h with | cons h r => intro n; cases n with
    | zero => exact .cons h r
    | succ n => exact ih r n
theorem RpL.take {vs : List V} {ds : List D} (h : RpL B Z H vs ds) : ∀ n, RpL B Z H (vs.take n) (ds.take n) := by
  induction ds generalizing vs with
  | nil => cases h; intro n; simpa using RpL.nil
  | cons d ds ih => cases h with | cons h r => intro n; cases n with
    | zero => exact .nil
    | succ n => exact .cons h (ih r n)
theorem RpL.set {vs : List V} {ds : List D} (h : RpL B Z H vs ds) {v : V} {d : D} (hv : Rp B Z H v d) : ∀ n, RpL B Z H (vs.set n v) (ds.set n d) := by
  induction ds generalizing vs with
  | nil => cases h; intro n; simpa using RpL.nil
  | cons x ds ih => cases h with | cons h r => intro n; cases n with
    | zero => exact .cons hv r
    | succ n => exact .cons h (ih r n)
theorem RpL.reverse {vs : List V} {ds : List D} (h : RpL B Z H vs ds) : RpL B Z H vs.reverse ds.reverse := by
  induction ds generalizing vs with
  | nil => cases h; exact .nil
  | cons d ds ih => cases h with | cons h r => rw [List.reverse_cons, List.reverse_cons]; exact (ih r).append (.cons h .nil)
theorem RpL.eraseIdx {vs : List V} {ds : List D} (h : RpL B Z H vs ds) : ∀ n, RpL B Z H (vs.eraseIdx n) (ds.eraseIdx n) := by
  induction ds generalizing vs with
  | nil => cases h; intro n; simpa using RpL.nil
  | cons x ds ih => cases h with | cons h r => intro n; cases n with
    | zero => exact r
    | succ n => exact .cons h (ih r n)
theorem RpL.replicate {vs : List V} {ds : List D} (h : RpL B Z H vs ds) : ∀ n, RpL B Z H (List.replicate n vs).flatten (List.replicate n ds).flatten
  | 0 => .nil
  | n + 1 => by rw [List.replicate_succ, List.replicate_succ, List.flatten_cons, List.flatten_cons]; exact h.append (RpL.replicate h n)
theorem RpL.mem {vs : List V} {ds : List D} (h : RpL B Z H vs ds) {v : V} (hv : v ∈ vs) : ∃ d, d ∈ ds ∧ Rp B Z H v d := by
  obtain ⟨i, hi, e⟩ := List.getElem_of_mem hv
  obtain ⟨d, h1, h2⟩ := h.get' (i := i) (v := v) (by rw [List.getElem?_eq_getElem hi, e])
  exact ⟨d, List.mem_of_getElem? h1, h2⟩
/-- what is one's own stands -/
theorem RN.there : ∀ {vs : List V} {dss : List (List D)} {O : List Addr}, RN B Z H vs dss O → ∀ a ∈ O, ∃ o, H a = some o
  | _, _, _, .nil, a, h => by cases h
  | _, _, _, .cons h _ t, a, hm => by
    rcases List.mem_cons.mp hm with e | hm
    · subst e; exact ⟨_, h⟩
    · exact RN.there t a hm
theorem RM.there {v : V} {m : M} {O : List Addr} (h : RM B Z H v m O) : ∀ a ∈ O, ∃ o, H a = some o := by
  intro a ha
  cases h with
  | pu h => cases ha
  | li h r => simp at ha; subst ha; exact ⟨_, h⟩
  | nl h r =>
    rcases List.mem_cons.mp ha with e | ha
    · subst e; exact ⟨_, h⟩
    · exact r.there a ha
  | dA h p r => simp at ha; subst ha; exact ⟨_, h⟩
  | dN h p r => simp at ha; subst ha; exact ⟨_, h⟩
theorem RN.view : ∀ {vs : List V} {dss : List (List D)} {O : List Addr}, RN B Z H vs dss O → (∀ a, Z a → Z' a) → (∀ a ∈ O, Z' a) → RpL B Z' H vs (dss.map .list)
  | _, _, _, .nil, _, _ => .nil
  | _, _, _, .cons h r t, hz, ho => .cons (.lst (ho _ List.mem_cons_self) (.of h) (r.stay .refl hz)) (RN.view t hz fun a hm => ho a (List.mem_cons_of_mem _ hm))
/-- one's own, as data, where it may not be written -/
theorem RM.view {v : V} {m : M} {O : List Addr} (h : RM B Z H v m O) (hz : ∀ a, Z a → Z' a) (ho : ∀ a ∈ O, Z' a) : Rp B Z' H v m.toD := by
  cases h with
  | pu h => exact h.stay .refl hz
  | li h r => exact .lst (ho _ List.mem_cons_self) (.of h) (r.stay .refl hz)
  | nl h r => exact .lst (ho _ List.mem_cons_self) (.of h) (r.view hz fun a hm => ho a (List.mem_cons_of_mem _ hm))
  | dA h p r => exact .dA (ho _ List.mem_cons_self) h p (r.stay .refl hz)
  | dN h p r => exact .dN (ho _ List.mem_cons_self) h p (r.stay .refl hz)
/-! data as the library's own relation -/
def noDict : D → Bool
  | .dict _ => false
  | _ => true
mutual
theorem Rp.dp : ∀ {v : V} {d : D}, Rp B Z H v d → d.plain = true → Dp B.K H v d
  | _, _, .non, _ => .non
  | _, _, .bl b, _ => .bl b
  | _, _, .int i, _ => .int i
  | _, _, .str x, _ => .str x
  | _, _, .tup h r, c => .tup h.sq (RpL.dp r (by simpa [PyData.plain] using c))
  | _, _, .lst _ h r, c => .lst (.inl h) (RpL.dp r (by simpa [PyData.plain] using c))
  | _, _, .lsK h r, c => .lst (.inr h) (RpL.dp r (by simpa [PyData.plain] using c))
  | _, _, .dA _ _ _ _, c => by simp [PyData.plain] at c
  | _, _, .dN _ _ _ _, c => by simp [PyData.plain] at c
theorem RpL.dp : ∀ {vs : List V} {ds : List D}, RpL B Z H vs ds → PyData.plainAll ds = true → DpAll B.K H vs ds
  | _, _, .nil, _ => .nil
  | _, _, .cons h r, c => by
    simp only [PyData.plainAll, Bool.and_eq_true] at c
    exact .cons (Rp.dp h c.1) (RpL.dp r c.2)
end
end
end TR
set_option Elab.async false
set_option linter.all false
/-! states of the small language against the abstract heap -/
namespace TR
open PySem L2
theorem PE.of {X : Cx} {e : Expr} {t t' : TE} (h : PE X e t) (w : ∀ σ H Q, t' σ H Q → t σ H Q) : PE X e t' := ⟨fun pins s σ H Q I q => h.run pins s σ H Q I (w σ H Q q)⟩
theorem PT.of {X : Cx} {e : Expr} {t t' : TT} (h : PT X e t) (w : ∀ σ H Q, t' σ H Q → t σ H Q) : PT X e t' := ⟨fun pins s σ H Q I q => h.run pins s σ H Q I (w σ H Q q)⟩
theorem PW.of {X : Cx} {e : Expr} {t t' : TT} (h : PW X e t) (w : ∀ σ H Q, t' σ H Q → t σ H Q) : PW X e t' := ⟨fun whole pins s σ H Q I q => h.run whole pins s σ H Q I (w σ H Q q)⟩
theorem PA.of {X : Cx} {es : List Expr} {t t' : TA} (h : PA X es t) (w : ∀ σ H Q, t' σ H Q → t σ H Q) : PA X es t' := ⟨fun pos pins s σ H Q I q => h.run pos pins s σ H Q I (w σ H Q q)⟩
theorem PS.of {X : Cx} {st : Stmt} {t t' : TS} (h : PS X st t) (w : ∀ D σ H, t' D σ H → t D σ H) : PS X st t' := ⟨fun pins s σ H D I q => h.run pins s σ H D I (w D σ H q)⟩
theorem PSs.of {X : Cx} {st : List Stmt} {t t' : TS} (h : PSs X st t) (w : ∀ D σ H, t' D σ H → t D σ H) : PSs X st t' := ⟨fun pins s σ H D I q => h.run pins s σ H D I (w D σ H q)⟩
section
variable {B : Wd} {Z Z' Z'' : Zn} {H H' H'' : Hp}
theorem RN.mut : ∀ {vs : List V} {dss : List (List D)} {O : List Addr}, RN B Z H vs dss O → ∀ a ∈ O, Mut (H a)
  | _, _, _, .nil, a, h => by cases h
  | _, _, _, .cons h _ t, a, hm => by
    rcases List.mem_cons.mp hm with e | hm
    · subst e; rw [h]; trivial
    · exact RN.mut t a hm
theorem RM.mut {v : V} {m : M} {O : List Addr} (h : RM B Z H v m O) : ∀ a ∈ O, Mut (H a) := by
  intro a ha
  cases h with
  | pu h => cases ha
  | li h r => simp at ha; subst ha; rw [h]; trivial
  | nl h r =>
    rcases List.mem_cons.mp ha with e | ha
    · subst e; rw [h]; trivial
    · exact r.mut a ha
  | dA h p r => simp at ha; subst ha; rw [h]; trivial
  | dN h p r => simp at ha; subst ha; rw [h]; trivial
/-- what was tracked stands -/
def Grow (H H' : Hp) : Prop := ∀ a o, H a = some o → H' a = some o
theorem Grow.refl : Grow H H := fun _ _ h => h
theorem Grow.trans (a : Grow H H') (b : Grow H' H'') : Grow H H'' := fun x o h => b x o (a x o h)
theorem Grow.upd {p : Addr} {o : HO} (h : H p = none) : Grow H (upd H p o) := fun b x e => by rw [upd_ne (ne_of_none e h)]; exact e
theorem Grow.none (g : Grow H H') {a : Addr} (h : H' a = none) : H a = none := by
  cases q : H a with
  | none => rfl
  | some o => rw [g a o q] at h; cases h
theorem Grow.stay (g : Grow H H') : Stay Z H H' := ⟨fun a o _ h => g a o h, fun a ys h => g a _ h, fun a o u h => g a _ h⟩
structure Sat (B : Wd) (Z : Zn) (σ : St) (H : Hp) (env : Env) (Os : List (List Addr)) : Prop where
  len1 : Os.length = env.length
  len2 : σ.length = env.length
  val : ∀ (i : Nat) (m : M), env[i]? = some (some m) → ∃ v O, σ[i]? = some (some v) ∧ Os[i]? = some O ∧ RM B Z H v m O
  emp : ∀ i : Nat, env[i]? = some none → Os[i]? = some []
  nd : Os.flatten.Nodup
  nz : ∀ a ∈ Os.flatten, ¬ Z a
  zh : ∀ a, Z a → H a ≠ none
theorem mem_flat {Os : List (List Addr)} {a : Addr} : a ∈ Os.flatten ↔ ∃ (i : Nat) (O : List Addr), Os[i]? = some O ∧ a ∈ O := by
  constructor
  · intro h
    obtain ⟨O, h1, h2⟩ := List.mem_flatten.mp h
    obtain ⟨i, hi, e⟩ := List.getElem_of_mem h1
    exact ⟨i, O, by rw [List.getElem?_eq_getElem hi, e], h2⟩
  · rintro ⟨i, O, h1, h2⟩
    exact List.mem_flatten.mpr ⟨O, List.mem_of_getElem? h1, h2⟩
section
variable {σ : St} {env env' env'' : Env} {Os Os' Os'' : List (List Addr)}
theorem Sat.own (s : Sat B Z σ H env Os) : ∀ a ∈ Os.flatten, Mut (H a) := by
  intro a ha
  obtain ⟨i, O, h1, h2⟩ := mem_flat.mp ha
  have hi : i < env.length := by rw [← s.len1]; exact (List.getElem?_eq_some_iff.mp h1).1
  cases e : env[i] with
  | none =>
    have := s.emp i (by rw [List.getElem?_eq_getElem hi, e])
    rw [h1] at this; cases this; cases h2
  | some m =>
    obtain ⟨v, O', h3, h4, r⟩ := s.val i m (by rw [List.getElem?_eq_getElem hi, e])
    rw [h1] at h4; cases h4
    exact r.mut a h2
theorem Mut.some {o : Option HO} (h : Mut o) : ∃ u, o = some u := by
  cases o with
  | none => exact h.elim
  | some u => exact ⟨u, rfl⟩
theorem Sat.there (s : Sat B Z σ H env Os) {a : Addr} (h : a ∈ Os.flatten) : H a ≠ none := by
  obtain ⟨u, e⟩ := Mut.some (s.own a h)
  rw [e]; simp
theorem Sat.not_tup (s : Sat B Z σ H env Os) {a : Addr} {ys : List V} (h : H a = some (.tup ys)) : a ∉ Os.flatten := fun ha => by
  have := s.own a ha
  rw [h] at this; exact this
theorem Sat.not_frz (s : Sat B Z σ H env Os) {a : Addr} {o : Obj} {u : HO} (h : H a = some (.frz o u)) : a ∉ Os.flatten := fun ha => by
  have := s.own a ha
  rw [h] at this; exact this
theorem Sat.grow (s : Sat B Z σ H env Os) (g : Grow H H') : Sat B Z σ H' env Os :=
  ⟨s.len1, s.len2, fun i m e => let ⟨v, O, h1, h2, r⟩ := s.val i m e; ⟨v, O, h1, h2, r.stay g.stay (fun _ z => z) fun a o _ h => g a o h⟩, s.emp, s.nd, s.nz, fun a z q => s.zh a z (g.none q)⟩
/-- from one state to a later one; mu: the slots whose binding or content may change -/
structure Step (mu : List Nat) (Z : Zn) (H : Hp) (env : Env) (Os : List (List Addr)) (Z' : Zn) (H' : Hp) (env' : Env) (Os' : List (List Addr)) : Prop where
  elen : env'.length = env.length
  zz : ∀ a, Z a → Z' a
  zn : ∀ a, Z' a → Z a ∨ H a = none ∨ a ∈ Os.flatten
  on : ∀ a ∈ Os'.flatten, H a = none ∨ a ∈ Os.flatten
  keep : ∀ a o, H a = some o → a ∉ Os.flatten → H' a = some o
  dom : ∀ a, H' a = none → H a = none
  slot : ∀ i : Nat, i ∉ mu → env'[i]? = env[i]? ∧ Os'[i]? = Os[i]? ∧ ∀ O, Os[i]? = some O → ∀ a ∈ O, H' a = H a
theorem Step.refl {mu : List Nat} : Step mu Z H env Os Z H env Os :=
  ⟨rfl, fun _ z => z, fun _ z => .inl z, fun _ h => .inr h, fun _ _ h _ => h, fun _ h => h, fun _ _ => ⟨rfl, rfl, fun _ _ _ _ => rfl⟩⟩
theorem Step.mono {mu mu' : List Nat} (s : Step mu Z H env Os Z' H' env' Os') (h : ∀ i ∈ mu, i ∈ mu') : Step mu' Z H env Os Z' H' env' Os' :=
  ⟨s.elen, s.zz, s.zn, s.on, s.keep, s.dom, fun i hi => s.slot i fun z => hi (h i z)⟩
theorem Step.trans {mu1 mu2 mu : List Nat} (a : Step mu1 Z H env Os Z' H' env' Os') (b : Step mu2 Z' H' env' Os' Z'' H'' env'' Os'') (h1 : ∀ i ∈ mu1, i ∈ mu) (h2 : ∀ i ∈ mu2, i ∈ mu) : Step mu Z H env Os Z'' H'' env'' Os'' := by
  refine ⟨b.elen.trans a.elen, fun x z => b.zz x (a.zz x z), fun x z => ?_, fun x hx => ?_, fun x o e hn => ?_, fun x e => a.dom x (b.dom x e), fun i hi => ?_⟩
  · rcases b.zn x z with z | z | z
    · exact a.zn x z
    · exact .inr (.inl (a.dom x z))
    · exact .inr (a.on x z)
  · rcases b.on x hx with z | z
    · exact .inl (a.dom x z)
    · exact a.on x z
  · refine b.keep x o (a.keep x o e hn) fun z => ?_
    rcases a.on x z with z | z
    · rw [z] at e; cases e
    · exact hn z
  · obtain ⟨e1, o1, k1⟩ := a.slot i fun z => hi (h1 i z)
    obtain ⟨e2, o2, k2⟩ := b.slot i fun z => hi (h2 i z)
    refine ⟨e2.trans e1, o2.trans o1, fun O hO x hx => ?_⟩
    rw [k2 O (o1.trans hO) x hx, k1 O hO x hx]
theorem Step.stay {mu : List Nat} (s : Step mu Z H env Os Z' H' env' Os') (q : Sat B Z σ H env Os) : Stay Z H H' :=
  ⟨fun a o z e => s.keep a o e fun h => q.nz a h z, fun a ys e => s.keep a _ e (q.not_tup e), fun a o u e => s.keep a _ e (q.not_frz e)⟩
theorem Step.grow {mu : List Nat} (s : Step mu Z H env Os Z' H' env' Os') (g : Grow H' H'') (q : Sat B Z' σ H' env' Os') : Step mu Z H env Os Z' H'' env' Os' :=
  ⟨s.elen, s.zz, s.zn, s.on, fun a o e hn => g a o (s.keep a o e hn), fun a e => s.dom a (g.none e), fun i hi => by
    obtain ⟨e1, o1, k1⟩ := s.slot i hi
    refine ⟨e1, o1, fun O hO a ha => ?_⟩
    have hm : a ∈ Os'.flatten := mem_flat.mpr ⟨i, O, o1.trans hO, ha⟩
    obtain ⟨u, hu⟩ := Mut.some (q.own a hm)
    rw [g a u hu, ← hu, k1 O hO a ha]⟩
/-- what is said of the addresses of one's own in a result -/
def ResO (Z' : Zn) (H : Hp) (Os Os' : List (List Addr)) (rs : List Nat) (O : List Addr) : Prop :=
  (rs = [] → (O ++ Os'.flatten).Nodup ∧ ∀ a ∈ O, ¬ Z' a ∧ (H a = none ∨ a ∈ Os.flatten)) ∧ (rs ≠ [] → ∀ a ∈ O, ∃ i ∈ rs, ∃ Oi, Os'[i]? = some Oi ∧ a ∈ Oi) ∧ O.Nodup
/-- behind the evaluation of an expression -/
def Post (B : Wd) (mu : List Nat) (σ : St) (Z : Zn) (H : Hp) (env : Env) (Os : List (List Addr)) (m : M) (rs : List Nat) (env' : Env) (v : V) (H' : Hp) : Prop :=
  ∃ Z' Os' O, Sat B Z' σ H' env' Os' ∧ Step mu Z H env Os Z' H' env' Os' ∧ RM B Z' H' v m O ∧ ResO Z' H Os Os' rs O
/-- a reading by a run of the small language -/
def Rx (B : Wd) (mu : List Nat) (run : Env → R (M × List Nat × Env)) : TE := fun σ H Q =>
  ∃ Z env Os, Sat B Z σ H env Os ∧ ∃ m rs env', run env = .ok (m, rs, env') ∧ ∀ v H', Post B mu σ Z H env Os m rs env' v H' → Q v H'
/-- a result stands while a later part runs -/
theorem carry {mu2 : List Nat} {H0 : Hp} {Os0 : List (List Addr)} {v : V} {m : M} {O : List Addr} {rs : List Nat}
    (q : Sat B Z σ H env Os) (r : RM B Z H v m O) (ro : ResO Z H0 Os0 Os rs O) (s : Step mu2 Z H env Os Z' H' env' Os') (ap : apart rs mu2 = true) : RM B Z' H' v m O := by
  refine r.stay (s.stay q) s.zz fun a o ha e => ?_
  cases rs with
  | nil =>
    refine s.keep a o e fun hm => ?_
    have := (ro.1 rfl).1
    exact (List.nodup_append.mp this).2.2 a ha a hm rfl
  | cons i rs =>
    obtain ⟨j, hj, Oj, h1, h2⟩ := ro.2.1 (by simp) a ha
    have hn : j ∉ mu2 := by
      unfold apart at ap
      have := List.all_eq_true.mp ap j hj
      simpa using this
    rw [(s.slot j hn).2.2 Oj h1 a h2]; exact e
/-- a new value over a heap -/
def New (B : Wd) (Z : Zn) (H : Hp) (m : M) (v : V) (H' : Hp) : Prop := Grow H H' ∧ ∃ O, RM B Z H' v m O ∧ O.Nodup ∧ ∀ a ∈ O, H a = none
theorem New.pure {d : D} {v : V} (h : Rp B Z H v d) : New B Z H (.pu d) v H := ⟨Grow.refl, [], .pu h, List.nodup_nil, fun _ h => nomatch h⟩
theorem New.post {mu : List Nat} {Z0 : Zn} {H0 : Hp} {env0 : Env} {Os0 : List (List Addr)} {m : M} {v : V} (n : New B Z H m v H') (q : Sat B Z σ H env Os) (s : Step mu Z0 H0 env0 Os0 Z H env Os) :
    Post B mu σ Z0 H0 env0 Os0 m [] env v H' := by
  obtain ⟨g, O, r, nd, hn⟩ := n
  refine ⟨Z, Os, O, q.grow g, s.grow g q, r, fun _ => ⟨List.nodup_append.mpr ⟨nd, q.nd, fun a h1 b h2 e => ?_⟩, fun a ha => ⟨fun z => q.zh a z (hn a ha), .inl (s.dom a (hn a ha))⟩⟩, fun h => (h rfl).elim, nd⟩
  subst e
  exact q.there h2 (hn a h1)
end
end
end TR
set_option Elab.async false
set_option linter.all false
set_option maxHeartbeats 4000000
/-! dicts whose keys are tuples -/
namespace TR
open PySem PySem.Spec PyProof.Rows L2
/-! keys -/
theorem okKey_0 (xs : List D) : okKey 0 (.tuple xs) = false := rfl
theorem okKey_s (n : Nat) (xs : List D) : okKey (n + 1) (.tuple xs) = xs.all (okKey n) := rfl
mutual
theorem nk_depth : ∀ (d : D) (n : Nat), okKey n d = true → (nkD d).depth ≤ n
  | .none, n, _ => Nat.zero_le _
  | .bool _, n, h => by simp [okKey] at h
  | .int _, n, _ => Nat.zero_le _
  | .str _, n, _ => Nat.zero_le _
  | .list _, n, h => by simp [okKey] at h
  | .dict _, n, h => by simp [okKey] at h
  | .tuple ds, 0, h => by rw [okKey_0] at h; cases h
  | .tuple ds, n + 1, h => by
    rw [okKey_s] at h
    have := nks_depth ds n h
    simp only [nkD, NestedKey.depth]
    omega
theorem nks_depth : ∀ (ds : List D) (n : Nat), ds.all (okKey n) = true → NestedKey.depthAll (nkDs ds) ≤ n
  | [], n, _ => Nat.zero_le _
  | d :: ds, n, h => by
    rw [List.all_cons, Bool.and_eq_true] at h
    have h1 := nk_depth d n h.1
    have h2 := nks_depth ds n h.2
    simp only [nkDs, NestedKey.depthAll]
    omega
end
theorem bd_eq (i j : Int) : (i == j) = decide (i = j) := by
  by_cases h : i = j
  · rw [h]; simp
  · rw [decide_eq_false h]; simpa using h
theorem bs_eq (i j : Str) : (i == j) = decide (i = j) := by
  by_cases h : i = j
  · rw [h]; simp
  · rw [decide_eq_false h]; simpa using h
mutual
theorem nk_beq : ∀ (a b : D) (n m : Nat), okKey n a = true → okKey m b = true → PyData.eqv a b = NestedKey.beq (nkD a) (nkD b)
  | .bool _, b, n, m, h, _ => by simp [okKey] at h
  | .list _, b, n, m, h, _ => by simp [okKey] at h
  | .dict _, b, n, m, h, _ => by simp [okKey] at h
  | .none, .none, n, m, _, _ => rfl
  | .none, .int _, n, m, _, _ => rfl
  | .none, .str _, n, m, _, _ => rfl
  | .none, .tuple _, n, m, _, _ => rfl
  | .none, .bool _, n, m, _, h => by simp [okKey] at h
  | .none, .list _, n, m, _, h => by simp [okKey] at h
  | .none, .dict _, n, m, _, h => by simp [okKey] at h
  | .int i, .none, n, m, _, _ => rfl
  | .int i, .int j, n, m, _, _ => by simp only [PyData.eqv, nkD, NestedKey.beq]; exact bd_eq i j
  | .int i, .str _, n, m, _, _ => rfl
  | .int i, .tuple _, n, m, _, _ => rfl
  | .int i, .bool _, n, m, _, h => by simp [okKey] at h
  | .int i, .list _, n, m, _, h => by simp [okKey] at h
  | .int i, .dict _, n, m, _, h => by simp [okKey] at h
  | .str i, .none, n, m, _, _ => rfl
  | .str i, .int j, n, m, _, _ => rfl
  | .str i, .str j, n, m, _, _ => by simp only [PyData.eqv, nkD, NestedKey.beq]; exact bs_eq i j
  | .str i, .tuple _, n, m, _, _ => rfl
  | .str i, .bool _, n, m, _, h => by simp [okKey] at h
  | .str i, .list _, n, m, _, h => by simp [okKey] at h
  | .str i, .dict _, n, m, _, h => by simp [okKey] at h
  | .tuple i, .none, n, m, _, _ => by simp only [PyData.eqv, nkD, NestedKey.beq]
  | .tuple i, .int j, n, m, _, _ => by simp only [PyData.eqv, nkD, NestedKey.beq]
  | .tuple i, .str j, n, m, _, _ => by simp only [PyData.eqv, nkD, NestedKey.beq]
  | .tuple as, .tuple bs, 0, m, h, _ => by rw [okKey_0] at h; cases h
  | .tuple as, .tuple bs, n + 1, 0, _, h => by rw [okKey_0] at h; cases h
  | .tuple as, .tuple bs, n + 1, m + 1, h1, h2 => by
    rw [okKey_s] at h1 h2
    simp only [PyData.eqv, nkD, NestedKey.beq]
    exact nks_beq as bs n m h1 h2
  | .tuple i, .bool _, n, m, _, h => by simp [okKey] at h
  | .tuple i, .list _, n, m, _, h => by simp [okKey] at h
  | .tuple i, .dict _, n, m, _, h => by simp [okKey] at h
theorem nks_beq : ∀ (as bs : List D) (n m : Nat), as.all (okKey n) = true → bs.all (okKey m) = true → PyData.eqvAll as bs = NestedKey.beqAll (nkDs as) (nkDs bs)
  | [], [], n, m, _, _ => rfl
  | [], _ :: _, n, m, _, _ => rfl
  | _ :: _, [], n, m, _, _ => rfl
  | a :: as, b :: bs, n, m, h1, h2 => by
    rw [List.all_cons, Bool.and_eq_true] at h1 h2
    simp only [PyData.eqvAll, nkDs, NestedKey.beqAll]
    rw [nk_beq a b n m h1.1 h2.1, nks_beq as bs n m h1.2 h2.2]
end
theorem tupKey_ok {d : D} (h : tupKey d = true) : okKey 8 d = true := by
  cases d <;> first | exact h | (simp [tupKey] at h)
theorem nk_eqv {a b : D} (ha : tupKey a = true) (hb : tupKey b = true) : PyData.eqv a b = decide (nkD a = nkD b) := by
  rw [nk_beq a b 8 8 (tupKey_ok ha) (tupKey_ok hb), NestedKey.decide_eq]
theorem tupKey_tup {d : D} (h : tupKey d = true) : ∃ xs, d = .tuple xs := by
  cases d <;> first | exact ⟨_, rfl⟩ | (simp [tupKey] at h)
/-! keys in the heap -/
section
variable {X : Cx} {pins : List (Addr × Obj)} {σ : L2.St} {H : Hp} {s : Shared} {Z : Zn}
mutual
theorem nk_is (I : Inv X pins σ H s) : ∀ (d : D) (n : Nat) {v : V} {u : Value}, Rp (wd X) Z H v d → okKey n d = true → RelV v u → NestedIs s.heap (nkD d) u
  | .none, n, v, u, r, _, ru => by cases r; cases ru; exact .none
  | .int i, n, v, u, r, _, ru => by cases r; obtain ⟨t, rfl⟩ := ru; exact .int _ _
  | .str i, n, v, u, r, _, ru => by cases r; obtain ⟨t, rfl⟩ := ru; exact .text _ _
  | .bool _, n, v, u, r, h, ru => by simp [okKey] at h
  | .list _, n, v, u, r, h, ru => by simp [okKey] at h
  | .dict _, n, v, u, r, h, ru => by simp [okKey] at h
  | .tuple ds, 0, v, u, r, h, ru => by rw [okKey_0] at h; cases h
  | .tuple ds, n + 1, v, u, r, h, ru => by
    rw [okKey_s] at h
    cases r with | tup hs rl =>
    cases ru
    obtain ⟨its, rv, ⟨o, e1, e2, n', e3⟩, _⟩ := I.tuple hs.sq
    exact .tup e1 e2 e3 (by simpa using nks_is I ds n rl h rv)
theorem nks_is (I : Inv X pins σ H s) : ∀ (ds : List D) (n : Nat) {vs : List V} {us : List Value}, RpL (wd X) Z H vs ds → ds.all (okKey n) = true → Vals vs us → NestedAll s.heap (nkDs ds) us
  | [], n, vs, us, r, _, ru => by cases r; cases ru; exact .nil
  | d :: ds, n, vs, us, r, h, ru => by
    rw [List.all_cons, Bool.and_eq_true] at h
    cases r with | cons r1 r2 => cases ru with | cons u1 u2 =>
    exact .cons (nk_is I d n r1 h.1 u1) (nks_is I ds n r2 h.2 u2)
end
theorem key_is (I : Inv X pins σ H s) {d : D} {b : Addr} (r : Rp (wd X) Z H (.ref b) d) (h : tupKey d = true) : (nestedKind X.prog X.w).is s.heap (nkD d) b :=
  ⟨nk_is I d 8 r (tupKey_ok h) rfl, nk_depth d 8 (tupKey_ok h)⟩
/-- a key's value is a tuple -/
theorem tupKey_ref {B : Wd} {v : V} {d : D} (r : Rp B Z H v d) (h : tupKey d = true) : ∃ b, v = .ref b := by
  obtain ⟨xs, rfl⟩ := tupKey_tup h
  cases r with | tup _ _ => exact ⟨_, rfl⟩
/-! entries -/
theorem REN.length {B : Wd} : ∀ {xs : List (NestedKey × Addr × Value)} {kvs : List (D × D)}, REN B Z H xs kvs → xs.length = kvs.length
  | _, _, .nil => rfl
  | _, _, .cons _ _ _ _ r => by rw [List.length_cons, List.length_cons, REN.length r]
theorem REN.is (I : Inv X pins σ H s) : ∀ {xs : List (NestedKey × Addr × Value)} {kvs : List (D × D)}, REN (wd X) Z H xs kvs → ∀ x ∈ xs, (nestedKind X.prog X.w).is s.heap x.1 x.2.1
  | _, _, .nil, x, hx => by cases hx
  | _, _, .cons t k _ _ r, x, hx => by
    rcases List.mem_cons.mp hx with e | hx
    · subst e; exact key_is I k t
    · exact REN.is I r x hx
theorem REN.keys {B : Wd} : ∀ {xs : List (NestedKey × Addr × Value)} {kvs : List (D × D)}, REN B Z H xs kvs → (kvs.all fun kv => tupKey kv.1) = true
  | _, _, .nil => rfl
  | _, _, .cons t _ _ _ r => by rw [List.all_cons, t, REN.keys r]; rfl
theorem lk_cons (kv : D × D) (kvs : List (D × D)) (k : D) : dLook (kv :: kvs) k = if PyData.eqv kv.1 k = true then some kv.2 else dLook kvs k := by
  unfold dLook
  rw [List.find?_cons]
  cases h : PyData.eqv kv.1 k <;> simp
theorem ak_cons (x : NestedKey × Addr × Value) (xs : List (NestedKey × Addr × Value)) (k : NestedKey) : atKey (x :: xs) k = if x.1 = k then some x.2 else atKey xs k := by
  unfold atKey
  rw [List.find?_cons]
  by_cases h : x.1 = k
  · rw [decide_eq_true h, if_pos h]; rfl
  · rw [decide_eq_false h, if_neg h]
theorem REN.look {B : Wd} {k : D} (hk : tupKey k = true) : ∀ {xs : List (NestedKey × Addr × Value)} {kvs : List (D × D)}, REN B Z H xs kvs →
    (∃ b u v d, atKey xs (nkD k) = some (b, u) ∧ dLook kvs k = some d ∧ RelV v u ∧ Rp B Z H v d) ∨ (atKey xs (nkD k) = none ∧ dLook kvs k = none)
  | _, _, .nil => .inr ⟨rfl, rfl⟩
  | _, _, .cons (k := kd) t kr q h r => by
    rw [ak_cons, lk_cons, nk_eqv t hk]
    by_cases e : nkD kd = nkD k
    · rw [if_pos e, if_pos (decide_eq_true e)]
      exact .inl ⟨_, _, _, _, rfl, rfl, q, h⟩
    · rw [if_neg e, if_neg (by simpa using e)]
      exact REN.look hk r
theorem REN.isSome {B : Wd} {k : D} (hk : tupKey k = true) {xs : List (NestedKey × Addr × Value)} {kvs : List (D × D)} (r : REN B Z H xs kvs) : (atKey xs (nkD k)).isSome = (dLook kvs k).isSome := by
  rcases r.look hk with ⟨_, _, _, _, h1, h2, _⟩ | ⟨h1, h2⟩ <;> rw [h1, h2] <;> rfl
theorem look_any (kvs : List (D × D)) (k : D) : (kvs.any fun kv => PyData.eqv kv.1 k) = (dLook kvs k).isSome := by
  induction kvs with
  | nil => rfl
  | cons kv kvs ih =>
    rw [List.any_cons, lk_cons, ih]
    cases PyData.eqv kv.1 k <;> simp
theorem REN.repl {B : Wd} {k d : D} {v : V} {u : Value} (hk : tupKey k = true) (q : RelV v u) (h : Rp B Z H v d) : ∀ {xs : List (NestedKey × Addr × Value)} {kvs : List (D × D)}, REN B Z H xs kvs →
    REN B Z H (xs.map (putAt (nkD k) u)) (kvs.map fun kv => if PyData.eqv kv.1 k = true then (kv.1, d) else kv)
  | _, _, .nil => .nil
  | _, _, .cons (k := kd) t kr q' h' r => by
    rw [List.map_cons, List.map_cons, nk_eqv t hk, putAt]
    by_cases e : nkD kd = nkD k
    · rw [if_pos e, if_pos (decide_eq_true e)]
      exact .cons t kr q h (REN.repl hk q h r)
    · rw [if_neg e, if_neg (by simpa using e)]
      exact .cons t kr q' h' (REN.repl hk q h r)
theorem REN.snoc {B : Wd} {k d : D} {b : Addr} {v : V} {u : Value} (hk : tupKey k = true) (kr : Rp B Z H (.ref b) k) (q : RelV v u) (h : Rp B Z H v d) : ∀ {xs : List (NestedKey × Addr × Value)} {kvs : List (D × D)}, REN B Z H xs kvs →
    REN B Z H (xs ++ [(nkD k, b, u)]) (kvs ++ [(k, d)])
  | _, _, .nil => .cons hk kr q h .nil
  | _, _, .cons t kr' q' h' r => .cons t kr' q' h' (REN.snoc hk kr q h r)
theorem REN.put {B : Wd} {k d : D} {b : Addr} {v : V} {u : Value} {xs : List (NestedKey × Addr × Value)} {kvs : List (D × D)} (r : REN B Z H xs kvs) (hk : tupKey k = true) (kr : Rp B Z H (.ref b) k) (q : RelV v u) (h : Rp B Z H v d) :
    REN B Z H (storedH xs (nkD k) b u) (dPut kvs k d) := by
  unfold storedH dPut
  rw [look_any, ← r.isSome hk]
  split
  · exact r.repl hk q h
  · exact r.snoc hk kr q h
theorem stH_len (xs : List (NestedKey × Addr × Value)) (k : NestedKey) (b : Addr) (u : Value) : (storedH xs k b u).length ≤ xs.length + 1 ∧ storedH xs k b u ≠ [] := by
  unfold storedH
  split
  · rename_i h
    refine ⟨by simp, fun e => ?_⟩
    cases xs with
    | nil => simp [atKey] at h
    | cons x xs => simp at e
  · simp
/-! a dict in the heap: with tuple keys, or empty -/
def DNE (X : Cx) (H : Hp) (a : Addr) (xs : List (NestedKey × Addr × Value)) : Prop :=
  (∃ Z es ep kvs, H a = some (dO a es ep) ∧ PinN (wd X) a es xs ∧ REN (wd X) Z H xs kvs) ∨ (∃ es ep, H a = some (dO a es ep) ∧ PinA (wd X) a es ep [] ∧ xs = [])
theorem raw_of (I : Inv X pins σ H s) {a : Addr} {es : Array DictEntry} {ep : Nat} (h : H a = some (dO a es ep)) : s.heap.DictRaw a es ep := (I.hok a _ h).1
theorem DNE.dict (I : Inv X pins σ H s) {a : Addr} {xs : List (NestedKey × Addr × Value)} (h : DNE X H a xs) : s.heap.DictOfH (nestedKind X.prog X.w) a xs ∧ (a == sysModules) = false ∧ xs.length ≤ sizeLine := by
  rcases h with ⟨Z, es, ep, kvs, h, p, r⟩ | ⟨es, ep, h, p, rfl⟩
  · obtain ⟨o, h1, h2, h3⟩ := raw_of I h
    exact ⟨⟨o, es, ep, h1, h2, h3, p.ent, r.is I, p.nd⟩, p.main, p.len⟩
  · have hr := raw_of I h
    obtain ⟨vs, rel, dd⟩ := p.dict
    cases rel
    obtain ⟨es2, ep2, ⟨o2, g1, g2, g3⟩, g4, _⟩ := (dd _ hr).raw
    have e0 : es2.toList = [] := by
      apply List.length_eq_zero_iff.mp
      rw [Array.length_toList, g4]; rfl
    exact ⟨⟨o2, es2, ep2, g1, g2, g3, by rw [e0]; rfl, (fun x hx => by cases hx), List.nodup_nil⟩, p.main, Nat.zero_le _⟩
/-- a tuple as a key -/
def TK (X : Cx) (H : Hp) (y : V) (k : D) : Prop := tupKey k = true ∧ ∃ Z, Rp (wd X) Z H y k
theorem TK.at (I : Inv X pins σ H s) {y : V} {k : D} {u : Value} (h : TK X H y k) (ru : RelV y u) : ∃ b, y = .ref b ∧ u = .ref b ∧ (nestedKind X.prog X.w).is s.heap (nkD k) b := by
  obtain ⟨hk, Z, r⟩ := h
  obtain ⟨b, rfl⟩ := tupKey_ref r hk
  cases ru
  exact ⟨b, rfl, rfl, key_is I r hk⟩
theorem roomN (hu : X.A.units + 100 < cLine) : (nestedKind X.prog X.w).room X.A.in1 := by
  show X.A.units + 1 + 8 < cLine
  omega
variable {a : Addr} {xs : List (NestedKey × Addr × Value)} {k : D} {y : V} {u : Value} {E : Value → Shared → Prop}
theorem dn_in (hu : X.A.units + 100 < cLine) (I : Inv X pins σ H s) (h : DNE X H a xs) (t : TK X H y k) (ru : RelV y u) {Q : Value → Shared → Prop} (q : ∀ s', Inv X pins σ H s' → Q (.bool (atKey xs (nkD k)).isSome) s') :
    wpAny (model X.prog X.w) X.A (compareOp .In u (.ref a)) Q E s := by
  obtain ⟨b, rfl, rfl, hk⟩ := t.at I ru
  obtain ⟨hd, hm, _⟩ := h.dict I
  exact wpAny_in_heap (roomN hu) hk hm hd (q _ (I.tok _))
theorem dn_nin (hu : X.A.units + 100 < cLine) (I : Inv X pins σ H s) (h : DNE X H a xs) (t : TK X H y k) (ru : RelV y u) {Q : Value → Shared → Prop} (q : ∀ s', Inv X pins σ H s' → Q (.bool (!(atKey xs (nkD k)).isSome)) s') :
    wpAny (model X.prog X.w) X.A (compareOp .NotIn u (.ref a)) Q E s := by
  obtain ⟨b, rfl, rfl, hk⟩ := t.at I ru
  obtain ⟨hd, hm, _⟩ := h.dict I
  exact wpAny_bind (wpAny_contains_heap (roomN hu) hk hm hd (wpAny_pure (q _ (I.tok _))))
theorem dn_get (hu : X.A.units + 100 < cLine) (I : Inv X pins σ H s) (h : DNE X H a xs) (t : TK X H y k) (ru : RelV y u) {p : Addr × Value} (hp : atKey xs (nkD k) = some p) {Q : Value → Shared → Prop} (q : ∀ s', Inv X pins σ H s' → Q p.2 s') :
    wpAny (model X.prog X.w) X.A (getItem (.ref a) u) Q E s := by
  obtain ⟨b, rfl, rfl, hk⟩ := t.at I ru
  exact wpAny_getItem_heap (roomN hu) hk (h.dict I).1 hp (q _ (I.tok _))
theorem dn_get1 (hu : X.A.units + 100 < cLine) (I : Inv X pins σ H s) (h : DNE X H a xs) (t : TK X H y k) (ru : RelV y u) {Q : Value → Shared → Prop} (q : ∀ s', Inv X pins σ H s' → Q (((atKey xs (nkD k)).map (·.2)).getD .none) s') :
    wpAny (model X.prog X.w) X.A (call (.builtin "dict.get") [.ref a, u]) Q E s := by
  obtain ⟨b, rfl, rfl, hk⟩ := t.at I ru
  obtain ⟨hd, hm, _⟩ := h.dict I
  exact call_meetsIn PySem.F.slot_dict_get hd.typeIs PySem.F.entry_dict_get (PySem.F.args_dict_get_2 _ _) (meetsH_dict_get _ a b hm) ⟨roomN hu, _, xs, hk, hd, q _ (I.tok _)⟩
theorem dn_get2 (hu : X.A.units + 100 < cLine) (I : Inv X pins σ H s) (h : DNE X H a xs) (t : TK X H y k) (ru : RelV y u) {x : Value} {Q : Value → Shared → Prop} (q : ∀ s', Inv X pins σ H s' → Q (((atKey xs (nkD k)).map (·.2)).getD x) s') :
    wpAny (model X.prog X.w) X.A (call (.builtin "dict.get") [.ref a, u, x]) Q E s := by
  obtain ⟨b, rfl, rfl, hk⟩ := t.at I ru
  obtain ⟨hd, hm, _⟩ := h.dict I
  exact call_meetsIn PySem.F.slot_dict_get hd.typeIs PySem.F.entry_dict_get (PySem.F.args_dict_get_3 _ _ _) (meetsH_dict_get_default _ a b hm x) ⟨roomN hu, _, xs, hk, hd, q _ (I.tok _)⟩
theorem DNE.mut (h : DNE X H a xs) : Mut (H a) := by
  rcases h with ⟨_, _, _, _, h, _⟩ | ⟨_, _, h, _⟩ <;> rw [h] <;> trivial
theorem dn_set (hu : X.A.units + 100 < cLine) (I : Inv X pins σ H s) (h : DNE X H a xs) (t : TK X H y k) (ru : RelV y u) {r : Value} (hl : xs.length < sizeLine) {Q : Unit → Shared → Prop}
    (q : ∀ b es ep s', y = .ref b → PinN (wd X) a es (storedH xs (nkD k) b r) → Inv X pins σ (upd H a (dO a es ep)) s' → Q () s') :
    wpAny (model X.prog X.w) X.A (setItem (.ref a) u r) Q E s := by
  have hmu := h.mut
  obtain ⟨b, rfl, rfl, hk⟩ := t.at I ru
  obtain ⟨hd, hm, hz⟩ := h.dict I
  refine wpAny_setItem_heap (hsz := hz) (roomN hu) hk hd fun h' dd hs => ?_
  obtain ⟨o, es, ep, h1, h2, h3, h4, _, h6⟩ := dd
  obtain ⟨l1, l2⟩ := stH_len xs (nkD k) b r
  refine q b es ep _ rfl ⟨hm, h4, h6, by omega, l2⟩ (d_write I hmu hs ⟨o, h1⟩ ⟨⟨o, h1, h2, h3⟩, ⟨o, h1⟩, ?_⟩)
  exact fun g1 g2 w k => w.at k
/-! a dict whose keys are whole numbers and texts -/
def DAE (X : Cx) (H : Hp) (a : Addr) (ks : List (Key × V)) : Prop := ∃ es ep, H a = some (dO a es ep) ∧ PinA (wd X) a es ep ks
theorem DAE.dict (I : Inv X pins σ H s) {a : Addr} {ks : List (Key × V)} (h : DAE X H a ks) : ∃ vs, KV ks vs ∧ s.heap.DictOf (mixKind X.prog X.w) a vs ∧ (a == sysModules) = false ∧ ks.length ≤ sizeLine := by
  obtain ⟨es, ep, h, p⟩ := h
  obtain ⟨vs, rel, dd⟩ := p.dict
  exact ⟨vs, rel, dd _ (raw_of I h), p.main, p.len⟩
variable {ks : List (Key × V)} {c : Key}
theorem da_in (I : Inv X pins σ H s) (h : DAE X H a ks) (ru : RelV (kV c) u) {Q : Value → Shared → Prop} (q : ∀ s', Inv X pins σ H s' → Q (.bool (valV ks c).isSome) s') :
    wpAny (model X.prog X.w) X.A (compareOp .In u (.ref a)) Q E s := by
  obtain ⟨vs, rel, dd, hm, _⟩ := h.dict I
  refine wpAny_in_of (kV_is ru) hm dd.mapOf ?_
  rw [← (rel.val c).isSome_eq]
  exact q _ (I.tok _)
theorem da_nin (I : Inv X pins σ H s) (h : DAE X H a ks) (ru : RelV (kV c) u) {Q : Value → Shared → Prop} (q : ∀ s', Inv X pins σ H s' → Q (.bool (!(valV ks c).isSome)) s') :
    wpAny (model X.prog X.w) X.A (compareOp .NotIn u (.ref a)) Q E s := by
  obtain ⟨vs, rel, dd, hm, _⟩ := h.dict I
  refine wpAny_notIn_of (kV_is ru) hm dd.mapOf ?_
  rw [← (rel.val c).isSome_eq]
  exact q _ (I.tok _)
theorem da_get (I : Inv X pins σ H s) (h : DAE X H a ks) (ru : RelV (kV c) u) {v : V} (hv : valV ks c = some v) {Q : Value → Shared → Prop} (q : ∀ r s', Inv X pins σ H s' → RelV v r → Q r s') :
    wpAny (model X.prog X.w) X.A (getItem (.ref a) u) Q E s := by
  obtain ⟨vs, rel, dd, hm, _⟩ := h.dict I
  obtain ⟨r, hr, rr⟩ := RelO.some_of (v := v) (o := valueAt vs c) (by rw [← hv]; exact rel.val c)
  exact wpAny_getItem_of (kV_is ru) dd.mapOf hr (q r _ (I.tok _) rr)
theorem da_get1 (I : Inv X pins σ H s) (h : DAE X H a ks) (ru : RelV (kV c) u) {Q : Value → Shared → Prop} (q : ∀ r s', Inv X pins σ H s' → RelV ((valV ks c).getD .non) r → Q r s') :
    wpAny (model X.prog X.w) X.A (call (.builtin "dict.get") [.ref a, u]) Q E s := by
  obtain ⟨vs, rel, dd, hm, _⟩ := h.dict I
  exact call_meetsIn PySem.F.slot_dict_get dd.typeIs PySem.F.entry_dict_get (PySem.F.args_dict_get_2 _ _) (meets_dict_get _ a (kV_is ru) hm) ⟨_, dd.mapOf, q _ _ (I.tok _) ((rel.val c).getD rfl)⟩
theorem da_get2 (I : Inv X pins σ H s) (h : DAE X H a ks) (ru : RelV (kV c) u) {x : V} {r : Value} (rx : RelV x r) {Q : Value → Shared → Prop} (q : ∀ r s', Inv X pins σ H s' → RelV ((valV ks c).getD x) r → Q r s') :
    wpAny (model X.prog X.w) X.A (call (.builtin "dict.get") [.ref a, u, r]) Q E s := by
  obtain ⟨vs, rel, dd, hm, _⟩ := h.dict I
  exact call_meetsIn PySem.F.slot_dict_get dd.typeIs PySem.F.entry_dict_get (PySem.F.args_dict_get_3 _ _ _) (meets_dict_get_default _ a (kV_is ru) hm r) ⟨_, dd.mapOf, q _ _ (I.tok _) ((rel.val c).getD rx)⟩
theorem DAE.mut (h : DAE X H a ks) : Mut (H a) := by
  obtain ⟨_, _, h, _⟩ := h
  rw [h]; trivial
/-- the object of a dict, as its entries -/
theorem pin_of {P : Program} {w : World} {h : Heap} {vs : List (Key × Value)} (dd : h.DictOf (mixKind P w) a vs) : ∃ es ep, h.DictRaw a es ep ∧ ∀ g : Heap, g.DictRaw a es ep → g.DictOf (mixKind P w) a vs := by
  obtain ⟨o, es, ep, h1, h2, h3, h4⟩ := dd
  exact ⟨es, ep, ⟨o, h1, h2, h3⟩, fun g ⟨o', g1, g2, g3⟩ => ⟨o', es, ep, g1, g2, g3, h4⟩⟩
theorem okO {P : Program} {w : World} {H' : Hp} {h : Heap} {es : Array DictEntry} {ep : Nat} (r : h.DictRaw a es ep) : ObjOk P w H' h a (dO a es ep) :=
  ⟨r, let ⟨o, e, _⟩ := r; ⟨o, e⟩, fun g1 g2 w k => w.at k⟩
theorem da_set (I : Inv X pins σ H s) (h : DAE X H a ks) (ru : RelV (kV c) u) {v : V} {r : Value} (rv : RelV v r) (hl : ks.length < sizeLine) {Q : Unit → Shared → Prop}
    (q : ∀ es ep s', PinA (wd X) a es ep (putK ks c v) → Inv X pins σ (upd H a (dO a es ep)) s' → Q () s') : wpAny (model X.prog X.w) X.A (setItem (.ref a) u r) Q E s := by
  have hmu := h.mut
  obtain ⟨vs, rel, dd, hm, hz⟩ := h.dict I
  refine wpAny_setItem_pairs (hsz := by rw [← rel.length]; exact hz) (kV_is ru) dd fun h' dd' hs => ?_
  obtain ⟨es, ep, hr, hp⟩ := pin_of dd'
  have hlen := length_putK ks c v
  exact q es ep _ ⟨hm, by omega, _, rel.put c rv, hp⟩ (d_write I hmu hs (let ⟨o, e, _⟩ := hr; ⟨o, e⟩) (okO hr))
/-- a dict that a rule of the hand layer has laid, as its entries -/
theorem pinned_of (I : Inv X pins σ H s) (h : H a = some (.dK ks)) : ∃ es ep, PinA (wd X) a es ep ks ∧ Inv X pins σ (upd H a (dO a es ep)) s := by
  obtain ⟨z, hd, vs, rel, dd⟩ := dk_of I.hok h
  obtain ⟨es, ep, hr, hp⟩ := pin_of dd
  exact ⟨es, ep, ⟨hd, z, vs, rel, hp⟩, d_write (t' := s.toks) I (by rw [h]; trivial) (Heap.SameBut.refl _ _) (let ⟨o, e, _⟩ := hr; ⟨o, e⟩) (okO hr)⟩
theorem PE.pin {e : Expr} {t : TE} (h : PE X e t) : PE X e (fun σ H Q => t σ H fun v H' => Q v H' ∨ ∃ a ks, H' a = some (.dK ks) ∧ ∀ es ep, PinA (wd X) a es ep ks → Q v (upd H' a (dO a es ep))) :=
  ⟨fun pins s σ H Q I q => thn (h.run pins s σ H _ I q) fun v s1 ⟨x, H1, I1, r, q1⟩ => by
    rcases q1 with q1 | ⟨a, ks, e, q1⟩
    · exact ⟨x, H1, I1, r, q1⟩
    · obtain ⟨es, ep, p, I2⟩ := pinned_of I1 e
      exact ⟨x, _, I2, r, q1 es ep p⟩⟩
end
end TR
set_option Elab.async false
set_option linter.all false
set_option maxHeartbeats 4000000
set_option maxRecDepth 100000
/-! tuples are laid with their object known -/
namespace TR
open PySem PySem.Spec PyProof.Rows L2
section
variable {X : Cx} {pins : List (Addr × Obj)} {σ : L2.St} {H : Hp} {s : Shared}
theorem laidT {tk : Nat} {xs : List V} {its : List Value} (I : Inv X pins σ H s) (hv : Vals xs its) (hl : xs.length ≤ sizeLine) :
    Inv X pins σ (upd H s.heap.objs.size (.frz (tupO its) (.tup xs))) { s with heap := s.heap.push (tupO its), toks := tk } :=
  I.laid (fun _ _ e => Heap.get?_push_of_some _ e) (Nat.le_refl _) ⟨Heap.get?_push_size _ rfl, hl, its, hv, _, Heap.get?_push_size _ rfl, rfl, _, rfl⟩
end
section
variable {X : Cx}
/-- t + u -/
theorem op_catD : OpR X (binaryOp .Add) (fun x y H Q => ∃ a b xs ys, x = .ref a ∧ y = .ref b ∧ SqT X.K H a xs ∧ SqT X.K H b ys ∧ xs.length + ys.length ≤ sizeLine ∧
    (xs = [] → Q (.ref b) H) ∧ (ys = [] → Q (.ref a) H) ∧ ∀ p its, H p = none → Q (.ref p) (upd H p (.frz (tupO its) (.tup (xs ++ ys))))) := by
  intro pins s σ H x y v u Q I rx ry ⟨a, b, xs, ys, ex, ey, ta, tb, room, qb, qa, qn⟩
  subst ex ey
  cases rx; cases ry
  obtain ⟨us, ru, pu, _⟩ := I.tuple ta
  obtain ⟨ws, rw', pw, _⟩ := I.tuple tb
  cases us with
  | nil =>
    cases ru
    exact cat_tup0 pu pw ⟨.ref b, H, I, rfl, qb rfl⟩
  | cons u1 us =>
    have lu := ru.length
    have lw := rw'.length
    refine HT.cat_tup pu pw (by simp) (fun e => ?_) (fun _ => ?_) (by rw [← lu, ← lw]; exact room)
    · subst e
      cases rw'
      exact ⟨.ref a, H, I, rfl, qa rfl⟩
    · have I2 := laidT (tk := s.toks) I (ru.append rw') (by rw [List.length_append]; exact room)
      exact ⟨.ref s.heap.objs.size, _, I2, rfl, qn _ _ (I.hok.fresh (Nat.le_refl _))⟩
/-- t * k, k from 2 on, t not empty -/
theorem op_manyD : OpR X (binaryOp .Mult) (fun x y H Q => ∃ l k xs, x = .ref l ∧ y = .int k ∧ SqT X.K H l xs ∧ xs ≠ [] ∧ 2 ≤ k ∧ k ≤ 1000 ∧ xs.length ≤ 1000 ∧
    ∀ p its, H p = none → Q (.ref p) (upd H p (.frz (tupO its) (.tup (List.replicate k.toNat xs).flatten)))) := by
  intro pins s σ H x y v u Q I rx ry ⟨l, k, xs, ex, ey, hT, ne, k2, kb, lb, q⟩
  subst ex ey
  cases rx
  obtain ⟨tk, rfl⟩ := ry
  obtain ⟨its, rv, ⟨⟨c0, d0, dat, sl0⟩, hob, hcl, n0, hdt⟩, _⟩ := I.tuple hT
  simp only at hcl hdt
  subst hcl hdt
  have ll := rv.length
  have pos : 0 < its.length := by rw [← ll]; exact List.length_pos_iff.mpr ne
  have emp : its.toArray.isEmpty = false := by
    cases its with
    | nil => simp at pos
    | cons _ _ => rfl
  have sz : (its.toArray.size : Nat) = xs.length := by rw [List.size_toArray, ← ll]
  have prod : ((its.toArray.size : Nat) : Int) * k ≤ 1000000 := by
    rw [sz]
    refine Int.le_trans (Int.mul_le_mul_of_nonneg_right (show ((xs.length : Nat) : Int) ≤ 1000 by omega) (by omega)) ?_
    omega
  have nat : k.toNat * xs.length ≤ 1000000 := Nat.le_trans (Nat.mul_le_mul (show k.toNat ≤ 1000 by omega) lb) (by omega)
  have flat : (List.replicate k.toNat its).flatten.length ≤ sizeLine := by
    rw [PyProof.Rows.lm_len_rep_flat, ← ll, sizeLine_eq]; omega
  have flatx : (List.replicate k.toNat xs).flatten.length ≤ sizeLine := by
    rw [PyProof.Rows.lm_len_rep_flat, sizeLine_eq]; omega
  have b0 : (decide (k < -(2 ^ 63)) || decide (k ≥ 2 ^ 63)) = false := by rw [Bool.or_eq_false_iff]; exact ⟨decide_eq_false (by omega), decide_eq_false (by omega)⟩
  have b1 : (its.toArray.isEmpty || k == 1) = false := by rw [emp, Bool.false_or]; exact beq_eq_false_iff_ne.mpr (by omega)
  have b2 : (decide (k ≤ 0) || its.toArray.isEmpty) = false := by rw [emp, Bool.or_false]; exact decide_eq_false (by omega)
  have b3 : Builtin.Tuple.tupleTooMany (((its.toArray.size : Nat) : Int) * k) = false := by
    unfold Builtin.Tuple.tupleTooMany
    exact decide_eq_false (by rw [sizeLine_eq]; omega)
  have go := tuple_mulW l its.toArray n0 d0 sl0 k tk b0 b1 b2 (by omega) b3 (by rw [size_rep, List.size_toArray]; exact flat)
  have tyI : ∀ s' : Shared, s'.TypeIs (.int k tk) "int" := fun s' => typeIs_int s' k tk
  have tyT : s.TypeIs (.ref l) "tuple" := ⟨_, hob, rfl⟩
  refine wpAny_binaryOp_repeat_ref (by decide) tyT tyI noFill_tuple_mul F.fills_int_mul F.slot_int_rmul repeat_tuple F.slot_int_index.lookup ?_
  refine call_meets F.slot_int_rmul (tyI s) F.entry_int_rmul (F.args_int_rmul_2 _ _) (int_rmul_tuple k tk l its.toArray n0 d0 sl0) ⟨hob, rfl, tyT, ?_⟩
  refine call_meets F.slot_tuple_mul tyT F.entry_tuple_mul (F.args_tuple_mul_2 _ _) go ⟨hob, ?_⟩
  rw [size_rep]
  have I2 := laidT (tk := s.toks) I (rv.rep k.toNat) flatx
  exact ⟨.ref s.heap.objs.size, _, I2, rfl, q _ _ (I.hok.fresh (Nat.le_refl _))⟩
/-- t[lo:hi] -/
theorem sl_tupD : SlR X (fun x lo hi H Q => ∃ a xs, x = .ref a ∧ SqT X.K H a xs ∧ (HT.sIx xs.length 0 lo = 0 ∧ HT.sIx xs.length xs.length hi = xs.length → Q (.ref a) H) ∧
    ∀ p its, H p = none → Q (.ref p) (upd H p (.frz (tupO its) (.tup (cutV xs lo hi))))) := by
  intro pins s σ H x v vl vu lo hi sl Q I rx hs pl pu ⟨a, xs, ex, hx, q1, q2⟩
  subst ex
  cases rx
  obtain ⟨us, ru, pt, hz⟩ := I.tuple hx
  have hlen : us.toArray.size = xs.length := by rw [List.size_toArray, ← ru.length]
  refine ⟨"tuple", _, PyProof.Rows.slot_tuple_getitem.lookup, pt.typeIs, ?_⟩
  by_cases hw : HT.sIx xs.length 0 lo = 0 ∧ HT.sIx xs.length xs.length hi = xs.length
  · exact getItem_tuple_whole pt hs pl pu (hlen.symm ▸ hw) ⟨.ref a, H, I, rfl, q1 hw⟩
  · refine HT.getItem_tuple_cut pt hs pl pu (hlen.symm ▸ hw) ?_ (hlen.symm ▸ hz)
    rw [hlen]
    have I2 := laidT (tk := s.toks) I (xs := cutV xs lo hi) ((ru.drop (HT.sIx xs.length 0 lo)).take (HT.sIx xs.length xs.length hi - HT.sIx xs.length 0 lo)) (Nat.le_trans (cutV_length xs lo hi) hz)
    exact ⟨.ref s.heap.objs.size, _, I2, rfl, q2 _ _ (I.hok.fresh (Nat.le_refl _))⟩
/-- tuple(x) of a list or a tuple -/
theorem call_tupD : CallR X (.type "tuple") (fun xs H Q => ∃ p ys, xs = [.ref p] ∧ ((SqL X.K H p ys ∧ ∀ l its, H l = none → Q (.ref l) (upd H l (.frz (tupO its) (.tup ys)))) ∨ (SqT X.K H p ys ∧ Q (.ref p) H))) := by
  intro pins s σ H xs us Q I r ⟨p, ys, exs, h⟩
  subst exs
  obtain ⟨u, eu, rx⟩ := vals1 r
  subst eu
  cases rx
  cases h with
  | inl h =>
    obtain ⟨ws, rv, pl, hz⟩ := I.list h.1
    have ll := rv.length
    refine call_tuple_list pl.isList (fun h' kp => ?_) (by rw [List.size_toArray]; omega)
    have I1 : Inv X pins σ H { s with heap := h' } := I.kept (t' := s.toks) kp
    have I2 := laidT (tk := s.toks) I1 rv hz
    exact ⟨.ref h'.objs.size, _, I2, rfl, h.2 _ _ (I1.hok.fresh (Nat.le_refl _))⟩
  | inr h =>
    obtain ⟨ws, _, pt, _⟩ := I.tuple h.1
    exact call_tuple_same pt ⟨.ref p, H, I, rfl, h.2⟩
/-- (a, b, ..) -/
def tTupD (t : TA) : TE := fun σ H Q => t σ H fun xs H1 => xs.length ≤ sizeLine ∧ ∀ p its, H1 p = none → Q (.ref p) (upd H1 p (.frz (tupO its) (.tup xs)))
theorem pe_tupD {es : List Expr} {k : Nat} {pos : Pos} {t : TA} (h : PA X es t) : PE X (.Tuple es k pos) (tTupD t) := by
  refine ⟨fun pins s σ H Q I hq => ?_⟩
  refine wpAny_Tuple_spliced (thn (h.run pos pins s σ H _ I hq) fun us s1 ⟨xs, H1, I1, rv, room, q⟩ => ?_)
  have I2 := laidT (tk := s1.toks) I1 rv room
  exact ⟨by rw [← rv.length]; exact room, .ref s1.heap.objs.size, _, I2, rfl, q _ _ (I1.hok.fresh (Nat.le_refl _))⟩
/-- tuple(range(..)) -/
def tTupRgD (te : L2.St → Hp → (Int → Int → Hp → Prop) → Prop) : TE := fun σ H Q => te σ H fun a b H1 => RgOk a b ∧ ∀ p its, H1 p = none → Q (.ref p) (upd H1 p (.frz (tupO its) (.tup (rgV a b))))
theorem pe_tupRgD {e : Expr} {te : L2.St → Hp → (Int → Int → Hp → Prop) → Prop} {p pos : Pos} (hc : X.calm = true) (hg : Gl X "tuple") (hm : X.mg "tuple" = none) (he : PRg X e te) (na : starEach [e] X.env = (false, eval e X.env) :: starEach [] X.env := by rfl) :
    PE X (.Call (.Name "tuple" p) [e] [] pos) (tTupRgD te) := by
  refine ⟨fun pins s σ H Q I h => ?_⟩
  refine Call_ (ld_blt I hg hm boot_tuple ?_)
  refine PyProof.Rows.callWith_type1 (args_cons (thn (he pins s σ H _ I h) fun x s1 ⟨r, a, b, t, u, v, H1, ex, hr, I1, ok, q⟩ => args_nil ?_) na) na
  subst ex
  obtain ⟨b1, b2, b3, b4, b5⟩ := ok
  refine call_tuple_range (n := (b - a).toNat) (I1.ok.hd hc) hr (small_one b1 b2 b3 b4) (rangeSize_nat a b) b5 fun h' tk acc hk hi => ?_
  have I2 : Inv X pins σ H1 { s1 with heap := h', toks := tk } := I1.kept hk
  have I3 := laidT (tk := tk) I2 (xs := rgV a b) (its := acc.toList) (vals_rg hi) (by rw [rgV_length, sizeLine_eq]; omega)
  have e : tupO acc.toList = { cls := .type "tuple", data := .seq acc } := by rw [tupO, Array.toArray_toList]
  rw [e] at I3
  exact ⟨.ref h'.objs.size, _, I3, rfl, e ▸ q _ acc.toList (I2.hok.fresh (Nat.le_refl _))⟩
end
end TR
set_option Elab.async false
set_option linter.all false
set_option maxHeartbeats 4000000
/-! two-place operators of the small language over the layer's rules -/
namespace TR
open PySem PySem.Spec PyProof.Rows L2
/-- the reading of an operation on two values -/
def rOp (B : Wd) (f : M → M → R M) : R2 := fun x y H Q => ∃ Z ma mb m O1 O2, (∀ a, Z a → H a ≠ none) ∧ RM B Z H x ma O1 ∧ RM B Z H y mb O2 ∧ f ma mb = .ok m ∧ ∀ v H', New B Z H m v H' → Q v H'
section
variable {B : Wd} {Z : Zn} {H : Hp}
theorem New.tup {a : Addr} {xs : List V} {ds : List D} {its : List Value} (h : H a = none) (r : RpL B Z H xs ds) : New B Z H (.pu (.tuple ds)) (.ref a) (upd H a (.frz (tupO its) (.tup xs))) :=
  ⟨Grow.upd h, [], .pu (.tup (.inl ⟨its, upd_same⟩) (r.stay (Grow.upd h).stay fun _ z => z)), List.nodup_nil, fun _ h => nomatch h⟩
theorem New.li {a : Addr} {xs : List V} {ds : List D} (h : H a = none) (r : RpL B Z H xs ds) : New B Z H (.li ds) (.ref a) (upd H a (.lst xs)) :=
  ⟨Grow.upd h, [a], .li upd_same (r.stay (Grow.upd h).stay fun _ z => z), by simp, fun b hb => by simp at hb; subst hb; exact h⟩
/-- a sequence of data: a list (one's own or not), a tuple -/
theorem RM.seq {v : V} {m : M} {O : List Addr} (r : RM B Z H v m O) {xs : List D} (e : m.seq = .ok xs) :
    ∃ a vs, v = .ref a ∧ RpL B Z H vs xs ∧ (SqL B.K H a vs ∨ (SqD B.K H a vs ∧ m = .pu (.tuple xs))) := by
  cases r with
  | pu h =>
    cases h with
    | tup h r => simp [M.seq] at e; subst e; exact ⟨_, _, rfl, r, .inr ⟨h, rfl⟩⟩
    | lst z h r => simp [M.seq] at e; subst e; exact ⟨_, _, rfl, r, .inl (.inl h)⟩
    | lsK h r => simp [M.seq] at e; subst e; exact ⟨_, _, rfl, r, .inl (.inr h)⟩
    | _ => simp [M.seq] at e
  | li h r => simp [M.seq] at e; subst e; exact ⟨_, _, rfl, r, .inl (.inl (.of h))⟩
  | _ => simp [M.seq] at e
theorem RM.int {v : V} {i : Int} {O : List Addr} (r : RM B Z H v (.pu (.int i)) O) : v = .int i := by
  cases r with | pu h => cases h; rfl
theorem RM.boo {v : V} {b : Bool} {O : List Addr} (r : RM B Z H v (.pu (.bool b)) O) : v = .bl b := by
  cases r with | pu h => cases h; rfl
theorem RM.str {v : V} {x : Str} {O : List Addr} (r : RM B Z H v (.pu (.str x)) O) : v = .str x := by
  cases r with | pu h => cases h; rfl
theorem RM.tup {v : V} {ds : List D} {O : List Addr} (r : RM B Z H v (.pu (.tuple ds)) O) : ∃ a vs, v = .ref a ∧ SqD B.K H a vs ∧ RpL B Z H vs ds := by
  cases r with | pu h => cases h with | tup h r => exact ⟨_, _, rfl, h, r⟩
end
theorem big_eq : big = sizeLine := by rw [sizeLine_eq]; rfl
section
variable {X : Cx} {pins : List (Addr × Obj)} {σ : L2.St} {H : Hp} {s : Shared}
end
/-! ### tuple * int -/
theorem tuple_mul_same (l : Addr) (items : Array Value) (n : Nat) (dd : Option Addr) (sl : Array (Option Value)) (x : Int) (u : Tok) (c0 : (decide (x < -(2 ^ 63)) || decide (x ≥ 2 ^ 63)) = false) (c1 : (items.isEmpty || x == 1) = true) :
    Meets (Builtin.«tuple.__mul__» ⟨[.ref l, .int x u], []⟩) (fun _ R s => s.heap.get? l = some { cls := .type "tuple", dict := dd, data := .seq items n, slots := sl } ∧ R (.ok (.ret (Value.ref l))) s) :=
  .of_wp fun prog w A R s h => by
    obtain ⟨hp, g, d, tk, os⟩ := s
    obtain ⟨hl, h⟩ := h
    have f1 := AutoSeq1.idx_int
    wp_walk using wpAny_loadPart' hl
    repeat (first
      | (refine wpAny_ite_false (decide_eq_false (by rw [c0]; exact Bool.false_ne_true)) ?_; wp_walk using wpAny_loadPart' hl)
      | (refine wpAny_ite_true (decide_eq_true (by rw [c1])) ?_; wp_walk using wpAny_loadPart' hl))
    exact ⟨_, rfl, h⟩
theorem tuple_mul_none (l : Addr) (items : Array Value) (n : Nat) (dd : Option Addr) (sl : Array (Option Value)) (x : Int) (u : Tok) (c0 : (decide (x < -(2 ^ 63)) || decide (x ≥ 2 ^ 63)) = false) (c1 : (items.isEmpty || x == 1) = false) (c2 : (decide (x ≤ 0) || items.isEmpty) = true) :
    Meets (Builtin.«tuple.__mul__» ⟨[.ref l, .int x u], []⟩) (fun _ R s => s.heap.get? l = some { cls := .type "tuple", dict := dd, data := .seq items n, slots := sl } ∧
      R (.ok (.ret (Value.ref s.heap.objs.size))) { s with heap := s.heap.push { cls := Value.type "tuple", data := Data.seq #[] }, toks := s.toks }) :=
  .of_wp fun prog w A R s h => by
    obtain ⟨hp, g, d, tk, os⟩ := s
    obtain ⟨hl, h⟩ := h
    have f1 := AutoSeq1.idx_int
    wp_walk using wpAny_loadPart' hl
    repeat (first
      | (refine wpAny_ite_false (decide_eq_false (by rw [c0]; exact Bool.false_ne_true)) ?_; wp_walk using wpAny_loadPart' hl)
      | (refine wpAny_ite_false (decide_eq_false (by rw [c1]; exact Bool.false_ne_true)) ?_; wp_walk using wpAny_loadPart' hl)
      | (refine wpAny_ite_true (decide_eq_true (by rw [c2])) ?_; wp_walk using wpAny_loadPart' hl)
      | (refine wpAny_ite_false (decide_eq_false (Nat.not_lt.mpr (Nat.zero_le _))) ?_; wp_walk using wpAny_loadPart' hl))
    exact ⟨_, rfl, h⟩
theorem op_mulT {X : Cx} : OpR X (binaryOp .Mult) (fun x y H Q => ∃ l k xs, x = .ref l ∧ y = .int k ∧ SqT X.K H l xs ∧ -1000 ≤ k ∧ k ≤ 1000 ∧ xs.length ≤ 1000 ∧
    ((List.replicate k.toNat xs).flatten = xs → Q (.ref l) H) ∧ ∀ p its, H p = none → Q (.ref p) (upd H p (.frz (tupO its) (.tup (List.replicate k.toNat xs).flatten)))) := by
  intro pins s σ H x y v u Q I rx ry h
  obtain ⟨l, k, xs, rfl, rfl, hT, h0, h1, hz, q1, q2⟩ := h
  by_cases hbig : xs ≠ [] ∧ 2 ≤ k
  · exact op_manyD pins s σ H _ _ v u Q I rx ry ⟨l, k, xs, rfl, rfl, hT, hbig.1, hbig.2, h1, hz, q2⟩
  cases rx
  obtain ⟨t, rfl⟩ := ry
  obtain ⟨its, r, ⟨⟨cls, dd, data, sl⟩, ho, hc, n, hd⟩, hs⟩ := I.tuple hT
  simp only at hc hd
  subst hc hd
  have hle : its.length = xs.length := r.length.symm
  have c0 : (decide (k < -(2 ^ 63)) || decide (k ≥ 2 ^ 63)) = false := by
    rw [decide_eq_false (by omega), decide_eq_false (by omega)] <;> rfl
  have road : ∀ {R : Value → Shared → Prop}, (codeAny (model X.prog X.w) X.A (.call (.builtin "tuple.__mul__") ⟨[.ref l, .int k t], []⟩) (fun r s' => match r with | .ok (.ret v) => R v s' | _ => False) s → True) := fun _ => trivial
  by_cases c1 : (its.toArray.isEmpty || k == 1) = true
  · refine wpAny_binaryOp_repeat_ref (T := "tuple") (U := "int") (by decide) ⟨_, ho, rfl⟩ (fun s' => typeIs_int s' k t) noFill_tuple_mul F.fills_int_mul F.slot_int_rmul repeat_tuple F.slot_int_index.lookup
      (call_meets F.slot_int_rmul (typeIs_int s k t) F.entry_int_rmul (F.args_int_rmul_2 _ _) (int_rmul_tuple k t l its.toArray n dd sl)
        ⟨ho, rfl, ⟨_, ho, rfl⟩, call_meets F.slot_tuple_mul ⟨_, ho, rfl⟩ F.entry_tuple_mul (F.args_tuple_mul_2 _ _) (tuple_mul_same l its.toArray n dd sl k t c0 c1) ⟨ho, ?_⟩⟩)
    refine ⟨.ref l, H, I, rfl, q1 ?_⟩
    rcases Bool.or_eq_true_iff.mp c1 with c | c
    · have e : xs = [] := List.eq_nil_of_length_eq_zero (by
        rw [← hle]
        have : its.toArray = #[] := Array.isEmpty_iff.mp c
        have := congrArg Array.size this
        simpa using this)
      subst e
      rw [List.flatten_replicate_nil]
    · have e : k = 1 := by simpa using c
      subst e
      simp
  · have c1' : (its.toArray.isEmpty || k == 1) = false := by simpa using c1
    have hne : xs ≠ [] := fun e => by
      apply c1
      rw [e] at hle
      have : its = [] := List.eq_nil_of_length_eq_zero hle
      rw [this]; rfl
    have hk1 : k ≠ 1 := fun e => c1 (by rw [e]; simp)
    have hk0 : k ≤ 0 := by
      rcases Classical.not_and_iff_not_or_not.mp hbig with z | z
      · exact absurd hne z
      · omega
    have c2 : (decide (k ≤ 0) || its.toArray.isEmpty) = true := by rw [decide_eq_true hk0]; rfl
    refine wpAny_binaryOp_repeat_ref (T := "tuple") (U := "int") (by decide) ⟨_, ho, rfl⟩ (fun s' => typeIs_int s' k t) noFill_tuple_mul F.fills_int_mul F.slot_int_rmul repeat_tuple F.slot_int_index.lookup
      (call_meets F.slot_int_rmul (typeIs_int s k t) F.entry_int_rmul (F.args_int_rmul_2 _ _) (int_rmul_tuple k t l its.toArray n dd sl)
        ⟨ho, rfl, ⟨_, ho, rfl⟩, call_meets F.slot_tuple_mul ⟨_, ho, rfl⟩ F.entry_tuple_mul (F.args_tuple_mul_2 _ _) (tuple_mul_none l its.toArray n dd sl k t c0 c1' c2) ⟨ho, ?_⟩⟩)
    have e : (List.replicate k.toNat xs).flatten = [] := by
      have : k.toNat = 0 := by omega
      rw [this]; rfl
    have e0 : xs.length ≤ sizeLine := by rw [sizeLine_eq]; omega
    have I2 := laidT (tk := s.toks) I (xs := (List.replicate k.toNat xs).flatten) (its := []) (by rw [e]; exact .nil) (by rw [e]; exact Nat.zero_le _)
    exact ⟨.ref s.heap.objs.size, _, I2, rfl, q2 _ _ (I.hok.fresh (Nat.le_refl _))⟩
/-! ### the operators -/
def opOf : BOp → Operator
  | .add => .Add
  | .sub => .Sub
  | .mul => .Mult
  | .fdiv => .FloorDiv
  | .mod => .Mod
  | .pow => .Pow
theorem or_bin {X : Cx} (o : BOp) : OpR X (binaryOp (opOf o)) (rOp (wd X) (binD o)) := by
  intro pins s σ H x y v u Q I rx ry ⟨Z, ma, mb, m, O1, O2, zh, r1, r2, e, q⟩
  unfold binD at e
  split at e
  · cases e; have := r1.int; subst this; have := r2.int; subst this
    exact op_add pins s σ H _ _ v u Q I rx ry ⟨_, _, rfl, rfl, q _ _ (.pure (.int _))⟩
  · cases e; have := r1.int; subst this; have := r2.int; subst this
    exact op_sub pins s σ H _ _ v u Q I rx ry ⟨_, _, rfl, rfl, q _ _ (.pure (.int _))⟩
  · split at e
    · rename_i hc
      cases e; have := r1.int; subst this; have := r2.int; subst this
      refine op_mul pins s σ H _ _ v u Q I rx ry ⟨_, _, rfl, rfl, ?_, q _ _ (.pure (.int _))⟩
      simp only [okBits, Bool.or_eq_true, decide_eq_true_eq] at hc
      exact hc
    · cases e
  · split at e
    · rename_i hc
      cases e; have := r1.int; subst this; have := r2.int; subst this
      exact op_fdivN pins s σ H _ _ v u Q I rx ry ⟨_, _, rfl, rfl, hc, q _ _ (.pure (.int _))⟩
    · cases e
  · split at e
    · rename_i hc
      cases e; have := r1.int; subst this; have := r2.int; subst this
      exact op_modN pins s σ H _ _ v u Q I rx ry ⟨_, _, rfl, rfl, hc, q _ _ (.pure (.int _))⟩
    · cases e
  · split at e
    · rename_i hc
      cases e; have := r1.int; subst this; have := r2.int; subst this
      exact op_pow pins s σ H _ _ v u Q I rx ry ⟨_, _, rfl, rfl, hc, q _ _ (.pure (.int _))⟩
    · cases e
  · split at e
    · rename_i hc
      cases e
      obtain ⟨a, xs, rfl, ha, ra⟩ := r1.tup
      obtain ⟨b, ys, rfl, hb, rb⟩ := r2.tup
      have l1 := ra.length
      have l2 := rb.length
      refine op_catD pins s σ H _ _ v u Q I rx ry ⟨a, b, xs, ys, rfl, rfl, ha.sq, hb.sq, by rw [← big_eq]; omega, fun e => ?_, fun e => ?_, fun p its hp => q _ _ (.tup hp (ra.append rb))⟩
      · subst e; cases ra; exact q _ _ (.pure (.tup hb rb))
      · subst e; cases rb; simp only [List.append_nil] at q; exact q _ _ (.pure (.tup ha ra))
    · cases e
  · split at e
    · rename_i hc
      cases e; have := r1.str; subst this; have := r2.str; subst this
      exact op_add_str pins s σ H _ _ v u Q I rx ry ⟨_, _, rfl, rfl, by rw [← big_eq]; exact hc, q _ _ (.pure (.str _))⟩
    · cases e
  · split at e
    · rename_i hc
      cases e
      obtain ⟨a, xs, rfl, ha, ra⟩ := r1.tup
      have := r2.int; subst this
      have l1 := ra.length
      refine op_mulT pins s σ H _ _ v u Q I rx ry ⟨a, _, xs, rfl, rfl, ha.sq, hc.1, hc.2.1, by omega, fun e => ?_, fun p its hp => q _ _ (.tup hp (ra.replicate _))⟩
      exact q _ _ (.pure (.tup ha (e ▸ ra.replicate _)))
    · cases e
  · split at e
    · rename_i hc
      cases e
      cases r1 with | li ha ra =>
      cases r2 with | li hb rb =>
      have l1 := ra.length
      have l2 := rb.length
      exact op_cat pins s σ H _ _ v u Q I rx ry ⟨_, _, _, _, rfl, rfl, ha, hb, by rw [← big_eq]; omega, fun p hp => q _ _ (.li hp (ra.append rb))⟩
    · cases e
  · split at e
    · rename_i hc
      cases e
      have := r2.int; subst this
      cases r1 with
      | li h ra =>
        have l1 := ra.length
        refine op_rep pins s σ H _ _ v u Q I rx ry ⟨_, _, _, rfl, rfl, h, by omega, by omega, ?_, fun p hp => q _ _ (.li hp (ra.replicate _))⟩
        have two : ∀ a b : Nat, a ≤ 1000 → b ≤ 1000 → a * b ≤ sizeLine := fun a b h1 h2 => by
          rw [sizeLine_eq]
          exact Nat.le_trans (Nat.mul_le_mul h1 h2) (by decide)
        exact two _ _ (by omega) (by omega)
    · cases e
  · cases e
end TR
set_option Elab.async false
set_option linter.all false
set_option maxHeartbeats 4000000
/-! comparisons -/
namespace TR
open PySem PySem.Spec PyProof.Rows L2
section
variable {B : Wd} {Z : Zn} {H : Hp}
theorem RN.dp : ∀ {vs : List V} {dss : List (List D)} {O : List Addr}, RN B Z H vs dss O → PyData.plainAll (dss.map .list) = true → DpAll B.K H vs (dss.map .list)
  | _, _, _, .nil, _ => .nil
  | _, _, _, .cons h r t, c => by
    simp only [List.map_cons, PyData.plainAll, Bool.and_eq_true] at c
    exact .cons (.lst (.inl (.of h)) (r.dp (by simpa [PyData.plain] using c.1))) (RN.dp t c.2)
theorem RM.dp {v : V} {m : M} {O : List Addr} (r : RM B Z H v m O) (c : m.toD.plain = true) : Dp B.K H v m.toD := by
  cases r with
  | pu h => exact h.dp c
  | li h r => exact .lst (.inl (.of h)) (r.dp (by simpa [M.toD, PyData.plain] using c))
  | nl h r => exact .lst (.inl (.of h)) (r.dp (by simpa [M.toD, PyData.plain] using c))
  | dA h p r => simp [M.toD, PyData.plain] at c
  | dN h p r => simp [M.toD, PyData.plain] at c
end
theorem okD_plain {d : D} (h : okD d = true) : d.plain = true := by unfold okD at h; simp only [Bool.and_eq_true] at h; exact h.1
theorem okD_depth {d : D} (h : okD d = true) : d.depth ≤ 60 := by unfold okD at h; simp only [Bool.and_eq_true, decide_eq_true_eq] at h; exact h.2
theorem depth_tuple (xs : List D) : (PyData.tuple xs).depth = PyData.depthAll xs + 1 := by simp [PyData.depth]
def cmpOf : COp → CmpOp
  | .eq => .Eq
  | .ne => .NotEq
  | .lt => .Lt
  | .le => .LtE
  | .gt => .Gt
  | .ge => .GtE
  | .inn => .In
  | .nin => .NotIn
section
variable {X : Cx} {pins : List (Addr × Obj)} {σ : L2.St} {H : Hp} {s : Shared}
theorem Rp.reads {Z : Zn} (I : Inv X pins σ H s) {v : V} {d : D} {u : Value} (r : Rp (wd X) Z H v d) (c : d.plain = true) (ru : RelV v u) : ∃ as, Reads s.heap u d as := Dp.reads I d v u (r.dp c) ru
theorem RpL.reads {Z : Zn} (I : Inv X pins σ H s) {vs : List V} {ds : List D} {us : List Value} (r : RpL (wd X) Z H vs ds) (c : PyData.plainAll ds = true) (ru : Vals vs us) : ∃ as, ReadsAll s.heap us ds as := by
  induction ds generalizing vs us with
  | nil => cases r; cases ru; exact ⟨_, .nil⟩
  | cons d ds ih =>
    cases r with | cons h r => cases ru with | cons h2 r2 =>
    simp only [PyData.plainAll, Bool.and_eq_true] at c
    obtain ⟨as, h3⟩ := h.reads I c.1 h2
    obtain ⟨bs, h4⟩ := ih r c.2 r2
    exact ⟨_, .cons h3 h4⟩
theorem RM.reads {Z : Zn} {O : List Addr} (I : Inv X pins σ H s) {v : V} {m : M} {u : Value} (r : RM (wd X) Z H v m O) (c : m.toD.plain = true) (ru : RelV v u) : ∃ as, Reads s.heap u m.toD as := Dp.reads I _ v u (r.dp c) ru
/-! dicts: keys ints and texts -/
theorem atomKey_key {d : D} (h : atomKey d = true) : ∃ k : Key, keyD k = d := by
  cases d <;> simp [atomKey] at h
  · exact ⟨.inl _, rfl⟩
  · exact ⟨.inr _, rfl⟩
theorem eqv_int (i j : Int) : PyData.eqv (.int i) (.int j) = decide (i = j) := by simp [PyData.eqv, Bool.beq_eq_decide_eq]
theorem eqv_str (x y : Str) : PyData.eqv (.str x) (.str y) = decide (x = y) := by simp [PyData.eqv, Bool.beq_eq_decide_eq]
theorem eqv_key (a b : Key) : PyData.eqv (keyD a) (keyD b) = decide (a = b) := by
  cases a <;> cases b
  · rw [keyD, keyD, eqv_int]; simp
  · simp [keyD, PyData.eqv]
  · simp [keyD, PyData.eqv]
  · rw [keyD, keyD, eqv_str]; simp
theorem dLook_cons (kv : D × D) (kvs : List (D × D)) (k : D) : dLook (kv :: kvs) k = if PyData.eqv kv.1 k = true then some kv.2 else dLook kvs k := by
  unfold dLook
  rw [List.find?_cons]
  cases h : PyData.eqv kv.1 k <;> simp
theorem RKV.look {B : Wd} {Z : Zn} {ks : List (Key × V)} {kvs : List (D × D)} (r : RKV B Z H ks kvs) (k : Key) :
    (∃ v d, valV ks k = some v ∧ dLook kvs (keyD k) = some d ∧ Rp B Z H v d) ∨ (valV ks k = none ∧ dLook kvs (keyD k) = none) := by
  induction kvs generalizing ks with
  | nil => cases r; exact .inr ⟨rfl, rfl⟩
  | cons kv kvs ih =>
    cases r with
    | cons h r =>
      rename_i j v ks d
      rw [dLook_cons, eqv_key]
      by_cases e : j = k
      · rw [valV_pos (p := (j, v)) e]
        simp only [decide_eq_true e, if_true]
        exact .inl ⟨_, _, rfl, rfl, h⟩
      · rw [valV_neg (p := (j, v)) e]
        simp only [decide_eq_false e, Bool.false_eq_true, if_false]
        exact ih r
theorem RKV.isSome {B : Wd} {Z : Zn} {ks : List (Key × V)} {kvs : List (D × D)} (r : RKV B Z H ks kvs) (k : Key) : (valV ks k).isSome = (dLook kvs (keyD k)).isSome := by
  rcases r.look k with ⟨v, d, h1, h2, _⟩ | ⟨h1, h2⟩ <;> rw [h1, h2] <;> rfl
/-- a dict: its keys atoms, or tuples -/
theorem RM.dic {X : Cx} {Z : Zn} {O : List Addr} {v : V} {m : M} (r : RM (wd X) Z H v m O) {kvs : List (D × D)} (e : m.dic = .ok kvs) :
    ∃ a, v = .ref a ∧ ((∃ ks, DAE X H a ks ∧ RKV (wd X) Z H ks kvs) ∨ ∃ es ep xs, H a = some (dO a es ep) ∧ PinN (wd X) a es xs ∧ REN (wd X) Z H xs kvs) := by
  cases r with
  | pu h =>
    cases h with
    | dA z h p r => simp [M.dic] at e; subst e; exact ⟨_, rfl, .inl ⟨_, ⟨_, _, h, p⟩, r⟩⟩
    | dN z h p r => simp [M.dic] at e; subst e; exact ⟨_, rfl, .inr ⟨_, _, _, h, p, r⟩⟩
    | _ => simp [M.dic] at e
  | dA h p r => simp [M.dic] at e; subst e; exact ⟨_, rfl, .inl ⟨_, ⟨_, _, h, p⟩, r⟩⟩
  | dN h p r => simp [M.dic] at e; subst e; exact ⟨_, rfl, .inr ⟨_, _, _, h, p, r⟩⟩
  | _ => simp [M.dic] at e
theorem rkv_atoms {B : Wd} {Z : Zn} : ∀ {ks : List (Key × V)} {kvs : List (D × D)}, RKV B Z H ks kvs → atomKeys kvs = true
  | _, _, .nil => rfl
  | _, _, .cons (k := k) _ r => by
    have := rkv_atoms r
    unfold atomKeys at this ⊢
    rw [List.all_cons, this]
    cases k <;> rfl
theorem atom_tup {d : D} (h : atomKey d = true) (h2 : tupKey d = true) : False := by cases d <;> simp [atomKey, tupKey] at h h2
theorem atoms_tups {kvs : List (D × D)} (h : atomKeys kvs = true) (h2 : (kvs.all fun kv => tupKey kv.1) = true) : kvs = [] := by
  cases kvs with
  | nil => rfl
  | cons kv kvs =>
    unfold atomKeys at h
    rw [List.all_cons, Bool.and_eq_true] at h h2
    exact (atom_tup h.1 h2.1).elim
theorem ren_ne {B : Wd} {Z : Zn} {xs : List (NestedKey × Addr × Value)} {kvs : List (D × D)} (r : REN B Z H xs kvs) (h : xs ≠ []) : kvs ≠ [] := by
  cases r with
  | nil => exact (h rfl).elim
  | cons _ _ _ _ _ => simp
theorem keyFit_or {kvs : List (D × D)} {d : D} (h : keyFit kvs d = true) : (atomKey d = true ∧ atomKeys kvs = true) ∨ (tupKey d = true ∧ (kvs.all fun kv => tupKey kv.1) = true) := by
  unfold keyFit at h
  rw [Bool.or_eq_true, Bool.and_eq_true, Bool.and_eq_true] at h
  exact h
/-- a key that fits: an atom, the keys atoms; or a tuple, the keys tuples -/
theorem RM.fit {X : Cx} {Z : Zn} {O O2 : List Addr} {v y : V} {m : M} {d : D} (r : RM (wd X) Z H v m O) {kvs : List (D × D)} (e : m.dic = .ok kvs) {Z2 : Zn} (r2 : RM (wd X) Z2 H y (.pu d) O2) (h : keyFit kvs d = true) :
    ∃ a, v = .ref a ∧ ((∃ ks k, DAE X H a ks ∧ RKV (wd X) Z H ks kvs ∧ d = keyD k ∧ y = kV k) ∨ ∃ xs, DNE X H a xs ∧ REN (wd X) Z H xs kvs ∧ TK X H y d) := by
  obtain ⟨a, ea, q⟩ := r.dic e
  refine ⟨a, ea, ?_⟩
  have r3 : Rp (wd X) Z2 H y d := by cases r2 with | pu r3 => exact r3
  rcases keyFit_or h with ⟨h1, h2⟩ | ⟨h1, h2⟩
  · obtain ⟨k, rfl⟩ := atomKey_key h1
    have hy : y = kV k := by cases k <;> (unfold keyD at r3; cases r3; rfl)
    rcases q with ⟨ks, q1, q2⟩ | ⟨es, ep, xs, q1, q2, q3⟩
    · exact .inl ⟨ks, k, q1, q2, rfl, hy⟩
    · exact (ren_ne q3 q2.ne (atoms_tups h2 q3.keys)).elim
  · rcases q with ⟨ks, q1, q2⟩ | ⟨es, ep, xs, q1, q2, q3⟩
    · obtain rfl := atoms_tups (rkv_atoms q2) h2
      cases q2
      obtain ⟨es, ep, q1, p⟩ := q1
      exact .inr ⟨[], .inr ⟨es, ep, q1, p, rfl⟩, .nil, h1, Z2, r3⟩
    · exact .inr ⟨xs, .inl ⟨Z, es, ep, kvs, q1, q2, q3⟩, q3, h1, Z2, r3⟩
theorem R.of_if {α : Type} {c : Prop} [Decidable c] {a : R α} {x : α} (h : (if c then a else R.bad) = .ok x) : c ∧ a = .ok x := by
  split at h
  · exact ⟨by assumption, h⟩
  · cases h
theorem R.bind_ok {α β : Type} {r : R α} {f : α → R β} {x : β} (h : (r >>= f) = .ok x) : ∃ a, r = .ok a ∧ f a = .ok x := by
  cases r with
  | ok a => exact ⟨a, rfl, h⟩
  | exc y => cases h
  | bad => cases h
theorem ord_at (hu : X.A.units + 100 < cLine) {op : CmpOp} {f : D → D → Bool}
    (hf : ∀ (s : Shared) (a b : Value) (da db : PyData) (as bs : List Addr) (Q : Value → Shared → Prop), Reads s.heap a da as → Reads s.heap b db bs → W.alike da db = true → da ≠ .none → X.A.units + min da.depth db.depth < cLine → Q (.bool (f da db)) s → wpAny (model X.prog X.w) X.A (compareOp op a b) Q X.xe s) :
    OpR X (compareOp op) (rOp (wd X) fun a b => do
      let c ← ordC a b f
      .ok (.pu (.bool c))) := by
  intro pins s σ H x y v u Q I rx ry ⟨Z, ma, mb, m, O1, O2, zh, r1, r2, e, q⟩
  obtain ⟨c, e1, e2⟩ := R.bind_ok e
  cases e2; clear e; have e := e1; clear e1
  unfold ordC at e
  split at e
  · rename_i da db
    obtain ⟨hc, e⟩ := R.of_if e
    cases e
    simp only [Bool.and_eq_true] at hc
    obtain ⟨⟨⟨h1, h2⟩, h3⟩, h4⟩ := hc
    obtain ⟨as, ra⟩ := r1.reads I (okD_plain h1) rx
    obtain ⟨bs, rb⟩ := r2.reads I (okD_plain h2) ry
    have d1 := okD_depth h1
    have hm : min da.depth db.depth ≤ da.depth := Nat.min_le_left _ _
    have hn : da ≠ .none := fun z => by subst z; cases h4
    exact hf s v u da db as bs _ ra rb h3 hn (by omega) ⟨.bl _, H, I, rfl, q _ _ (.pure (.bl _))⟩
  · cases e
theorem or_cmp (hu : X.A.units + 100 < cLine) (o : COp) : OpR X (compareOp (cmpOf o)) (rOp (wd X) fun a b => do
    let c ← cmpD o a b
    .ok (.pu (.bool c))) := by
  cases o with
  | lt => exact ord_at hu fun s a b da db as bs Q ra rb h hn hr q => W.lt_data ra rb h hn hr q
  | le => exact ord_at hu fun s a b da db as bs Q ra rb h hn hr q => W.le_data ra rb h hn hr q
  | gt => exact ord_at hu fun s a b da db as bs Q ra rb h hn hr q => W.gt_data ra rb h hn hr q
  | ge => exact ord_at hu fun s a b da db as bs Q ra rb h hn hr q => W.ge_data ra rb h hn hr q
  | eq =>
    intro pins s σ H x y v u Q I rx ry ⟨Z, ma, mb, m, O1, O2, zh, r1, r2, e, q⟩
    obtain ⟨c, e1, e2⟩ := R.bind_ok e
    cases e2; clear e; have e := e1; clear e1
    obtain ⟨hc, e⟩ := R.of_if (show (if (okD ma.toD && okD mb.toD) = true then R.ok (PyData.eqv ma.toD mb.toD) else R.bad) = .ok c from e)
    cases e
    simp only [Bool.and_eq_true] at hc
    obtain ⟨as, ra⟩ := r1.reads I (okD_plain hc.1) rx
    obtain ⟨bs, rb⟩ := r2.reads I (okD_plain hc.2) ry
    have d1 := okD_depth hc.1
    have hm : min ma.toD.depth mb.toD.depth ≤ ma.toD.depth := Nat.min_le_left _ _
    exact SeqAt.eq_plain ra rb (okD_plain hc.1) (okD_plain hc.2) (by omega) ⟨.bl _, H, I, rfl, q _ _ (.pure (.bl _))⟩
  | ne =>
    intro pins s σ H x y v u Q I rx ry ⟨Z, ma, mb, m, O1, O2, zh, r1, r2, e, q⟩
    obtain ⟨c, e1, e2⟩ := R.bind_ok e
    cases e2; clear e; have e := e1; clear e1
    obtain ⟨hc, e⟩ := R.of_if (show (if (okD ma.toD && okD mb.toD) = true then R.ok (!PyData.eqv ma.toD mb.toD) else R.bad) = .ok c from e)
    cases e
    simp only [Bool.and_eq_true] at hc
    obtain ⟨as, ra⟩ := r1.reads I (okD_plain hc.1) rx
    obtain ⟨bs, rb⟩ := r2.reads I (okD_plain hc.2) ry
    have d1 := okD_depth hc.1
    have hm : min ma.toD.depth mb.toD.depth ≤ ma.toD.depth := Nat.min_le_left _ _
    exact SeqAt.ne_plain ra rb (okD_plain hc.1) (okD_plain hc.2) (by omega) ⟨.bl _, H, I, rfl, q _ _ (.pure (.bl _))⟩
  | inn =>
    intro pins s σ H x y v u Q I rx ry ⟨Z, ma, mb, m, O1, O2, zh, r1, r2, e, q⟩
    obtain ⟨c, e1, e2⟩ := R.bind_ok e
    cases e2; clear e; have e := e1; clear e1
    have dic : ∀ {d : D} {kvs : List (D × D)} {O1 O2 : List Addr}, RM (wd X) Z H x (.pu d) O1 → RM (wd X) Z H y mb O2 → mb.dic = .ok kvs → keyFit kvs d = true → c = (dLook kvs d).isSome →
        wpAny (model X.prog X.w) X.A (compareOp .In v u) (EP X pins σ Q) X.xe s := fun {d kvs O1 O2} r1 r2 hd hk e => by
      obtain ⟨a, rfl, h⟩ := r2.fit hd r1 hk
      cases ry
      rcases h with ⟨ks, k, ha, rk, rfl, rfl⟩ | ⟨xs, hn, rn, tk⟩
      · refine da_in I ha rx fun s' I' => ⟨.bl _, H, I', rfl, ?_⟩
        rw [rk.isSome k, ← e]
        exact q _ _ (.pure (.bl _))
      · refine dn_in hu I hn tk rx fun s' I' => ⟨.bl _, H, I', rfl, ?_⟩
        rw [rn.isSome tk.1, ← e]
        exact q _ _ (.pure (.bl _))
    unfold cmpD at e
    simp only at e
    split at e
    · rename_i d kvs
      obtain ⟨hc, e⟩ := R.of_if e
      exact dic r1 r2 rfl hc (by cases e; rfl)
    · rename_i d kvs
      obtain ⟨hc, e⟩ := R.of_if e
      exact dic r1 r2 rfl hc (by cases e; rfl)
    · rename_i d n1 n2
      obtain ⟨xs, hs, e⟩ := R.bind_ok e
      obtain ⟨hc, e⟩ := R.of_if e
      cases e
      simp only [Bool.and_eq_true] at hc
      obtain ⟨as, ra⟩ : ∃ as, Reads s.heap v d as := r1.reads I (okD_plain hc.1) rx
      have hp : PyData.plainAll xs = true := by simpa [PyData.plain] using okD_plain hc.2
      have d1 : d.depth ≤ 60 := okD_depth hc.1
      have hm : min (PyData.depthAll xs) d.depth ≤ d.depth := Nat.min_le_right _ _
      have r2' := r2
      obtain ⟨a, vs, rfl, rv, hq⟩ := r2.seq hs
      cases ry
      rcases hq with hq | ⟨hq, e3⟩
      · obtain ⟨bs, rb⟩ := Dp.reads I (.list xs) (.ref a) (.ref a) (.lst hq (rv.dp hp)) rfl
        exact SeqAt.in_list_data rb ra hp (okD_plain hc.1) (by omega) ⟨.bl _, H, I, rfl, q _ _ (.pure (.bl _))⟩
      · obtain ⟨bs, rb⟩ := Dp.reads I (.tuple xs) (.ref a) (.ref a) (.tup hq.sq (rv.dp hp)) rfl
        exact SeqAt.in_tuple_data rb ra hp (okD_plain hc.1) (by omega) ⟨.bl _, H, I, rfl, q _ _ (.pure (.bl _))⟩
    · cases e
  | nin =>
    intro pins s σ H x y v u Q I rx ry ⟨Z, ma, mb, m, O1, O2, zh, r1, r2, e, q⟩
    obtain ⟨c, e1, e2⟩ := R.bind_ok e
    cases e2; clear e; have e := e1; clear e1
    have dic : ∀ {d : D} {kvs : List (D × D)} {O1 O2 : List Addr}, RM (wd X) Z H x (.pu d) O1 → RM (wd X) Z H y mb O2 → mb.dic = .ok kvs → keyFit kvs d = true → c = (!(dLook kvs d).isSome) →
        wpAny (model X.prog X.w) X.A (compareOp .NotIn v u) (EP X pins σ Q) X.xe s := fun {d kvs O1 O2} r1 r2 hd hk e => by
      obtain ⟨a, rfl, h⟩ := r2.fit hd r1 hk
      cases ry
      rcases h with ⟨ks, k, ha, rk, rfl, rfl⟩ | ⟨xs, hn, rn, tk⟩
      · refine da_nin I ha rx fun s' I' => ⟨.bl _, H, I', rfl, ?_⟩
        rw [rk.isSome k, ← e]
        exact q _ _ (.pure (.bl _))
      · refine dn_nin hu I hn tk rx fun s' I' => ⟨.bl _, H, I', rfl, ?_⟩
        rw [rn.isSome tk.1, ← e]
        exact q _ _ (.pure (.bl _))
    unfold cmpD at e
    simp only at e
    split at e
    · rename_i d kvs
      obtain ⟨hc, e⟩ := R.of_if e
      exact dic r1 r2 rfl hc (by cases e; rfl)
    · rename_i d kvs
      obtain ⟨hc, e⟩ := R.of_if e
      exact dic r1 r2 rfl hc (by cases e; rfl)
    · rename_i d n1 n2
      obtain ⟨xs, hs, e⟩ := R.bind_ok e
      obtain ⟨hc, e⟩ := R.of_if e
      cases e
      simp only [Bool.and_eq_true] at hc
      obtain ⟨as, ra⟩ : ∃ as, Reads s.heap v d as := r1.reads I (okD_plain hc.1) rx
      have hp : PyData.plainAll xs = true := by simpa [PyData.plain] using okD_plain hc.2
      have d1 : d.depth ≤ 60 := okD_depth hc.1
      have hm : min (PyData.depthAll xs) d.depth ≤ d.depth := Nat.min_le_right _ _
      obtain ⟨a, vs, rfl, rv, hq⟩ := r2.seq hs
      cases ry
      rcases hq with hq | ⟨hq, e3⟩
      · obtain ⟨bs, rb⟩ := Dp.reads I (.list xs) (.ref a) (.ref a) (.lst hq (rv.dp hp)) rfl
        exact SeqAt.notIn_list_data rb ra hp (okD_plain hc.1) (by omega) ⟨.bl _, H, I, rfl, q _ _ (.pure (.bl _))⟩
      · obtain ⟨bs, rb⟩ := Dp.reads I (.tuple xs) (.ref a) (.ref a) (.tup hq.sq (rv.dp hp)) rfl
        exact SeqAt.notIn_tuple_data rb ra hp (okD_plain hc.1) (by omega) ⟨.bl _, H, I, rfl, q _ _ (.pure (.bl _))⟩
    · cases e
end
end TR
set_option Elab.async false
set_option linter.all false
set_option maxHeartbeats 4000000
/-! the entries of a dict, whatever its keys -/
namespace TR
open PySem PySem.Spec PyProof.Rows L2
section
variable {B : Wd} {Z : Zn} {H : Hp}
theorem RKV.keys {ks : List (Key × V)} : ∀ {kvs : List (D × D)}, RKV B Z H ks kvs → RpL B Z H (ks.map fun kv => kV kv.1) (kvs.map (·.1)) := by
  intro kvs
  induction kvs generalizing ks with
  | nil => intro h; cases h; exact .nil
  | cons kv kvs ih =>
    intro h
    cases h with | cons h r =>
    rename_i k v ks d
    refine .cons ?_ (ih r)
    cases k
    · exact .int _
    · exact .str _
theorem RKV.length {ks : List (Key × V)} {kvs : List (D × D)} (h : RKV B Z H ks kvs) : ks.length = kvs.length := by
  have := h.keys.length
  simpa using this
theorem RKV.vals {ks : List (Key × V)} : ∀ {kvs : List (D × D)}, RKV B Z H ks kvs → RpL B Z H (ks.map (·.2)) (kvs.map (·.2)) := by
  intro kvs
  induction kvs generalizing ks with
  | nil => intro h; cases h; exact .nil
  | cons kv kvs ih => intro h; cases h with | cons h r => exact .cons h (ih r)
end
section
variable {X : Cx} {pins : List (Addr × Obj)} {σ : L2.St} {H : Hp} {s : Shared} {Z : Zn} {O : List Addr} {v : V} {m : M} {kvs : List (D × D)}
theorem kv_vals : ∀ {ks : List (Key × V)} {vs : List (Key × Value)}, KV ks vs → Vals (ks.map (·.2)) (vs.map (·.2))
  | _, _, .nil => .nil
  | _, _, .cons h t => .cons h.2 (kv_vals t)
theorem ren_vals : ∀ {xs : List (NestedKey × Addr × Value)} {kvs : List (D × D)}, REN (wd X) Z H xs kvs → ∃ vs ws : List V, RpL (wd X) Z H vs (kvs.map (·.1)) ∧ RpL (wd X) Z H ws (kvs.map (·.2)) ∧ Vals vs (xs.map fun x => Value.ref x.2.1) ∧ Vals ws (xs.map (·.2.2))
  | _, _, .nil => ⟨[], [], .nil, .nil, .nil, .nil⟩
  | _, _, .cons t k q h r => by
    obtain ⟨vs, ws, h1, h2, h3, h4⟩ := ren_vals r
    exact ⟨_ :: vs, _ :: ws, .cons k h1, .cons h h2, .cons rfl h3, .cons q h4⟩
theorem pin_vals {P : Program} {w : World} {h : Heap} {a : Addr} {es : Array DictEntry} {ep : Nat} {ks : List (Key × V)} {vs : List (Key × Value)} (rel : KV ks vs) (dd : h.DictOf (mixKind P w) a vs) (hr : h.DictRaw a es ep) :
    Vals (ks.map fun kv => kV kv.1) (es.toList.map (·.key)) ∧ Vals (ks.map (·.2)) (es.toList.map (·.val)) := by
  obtain ⟨es2, ep2, ⟨o2, g1, g2, g3⟩, hs, hx⟩ := dd.raw
  obtain ⟨o, h1, h2, h3⟩ := hr
  have hes : es2 = es := by
    rw [g1] at h1
    cases h1
    rw [g3] at h3
    cases h3
    rfl
  subst hes
  clear h1 h2 h3 g1 g2 g3
  refine ⟨?_, ?_⟩
  · have ek : (ks.map fun kv => kV kv.1) = vs.map fun p => kV p.1 := by
      have e := congrArg (List.map kV) rel.keys
      rw [List.map_map, List.map_map] at e
      exact e
    rw [ek]
    refine keys_at (by simp [hs]) fun j v hj => ?_
    rw [List.getElem?_map] at hj
    cases hq : es2.toList[j]? with
    | none => rw [hq] at hj; cases hj
    | some en =>
      rw [hq] at hj
      cases hj
      rw [Array.getElem?_toList] at hq
      obtain ⟨hj2, he⟩ := Array.getElem?_eq_some_iff.mp hq
      have hj3 : j < vs.length := by omega
      obtain ⟨x1, x2⟩ := hx j hj2 vs[j].1 vs[j].2 (by rw [List.getElem?_eq_getElem hj3])
      rw [he] at x1
      exact ⟨_, _, List.getElem?_eq_getElem hj3, x1⟩
  · have ev : es2.toList.map (·.val) = vs.map (·.2) := by
      apply List.ext_getElem
      · simp [hs]
      · intro i h1 h2
        simp only [List.length_map, Array.length_toList] at h1 h2
        have h3 : i < vs.length := h2
        obtain ⟨_, x2⟩ := hx i h1 vs[i].1 vs[i].2 (by rw [List.getElem?_eq_getElem h3])
        simp [x2]
    rw [ev]
    exact kv_vals rel
theorem raw_any (I : Inv X pins σ H s) (r : RM (wd X) Z H v m O) (e : m.dic = .ok kvs) : ∃ a es ep, v = .ref a ∧ s.heap.DictRaw a es ep ∧ (a == sysModules) = false ∧ kvs.length ≤ sizeLine ∧ es.size = kvs.length ∧
    ∃ vs ws : List V, RpL (wd X) Z H vs (kvs.map (·.1)) ∧ RpL (wd X) Z H ws (kvs.map (·.2)) ∧ Vals vs (es.toList.map (·.key)) ∧ Vals ws (es.toList.map (·.val)) := by
  obtain ⟨a, rfl, ⟨ks, h, rk⟩ | ⟨es, ep, xs, h, p, rn⟩⟩ := r.dic e
  · obtain ⟨vs, rel, dd, hd, z⟩ := h.dict I
    obtain ⟨es, ep, hr, hs, hx⟩ := dd.raw
    have hl : ks.length = vs.length := Paired.length rel
    have hk := rk.length
    exact ⟨a, es, ep, rfl, hr, hd, by omega, by omega, ks.map fun kv => kV kv.1, ks.map (·.2), rk.keys, rk.vals, pin_vals rel dd hr⟩
  · obtain ⟨vs, ws, h1, h2, h3, h4⟩ := ren_vals rn
    have hl := rn.length
    have hs : es.size = xs.length := by rw [← Array.length_toList, p.ent, List.length_map]
    have hz := p.len
    refine ⟨a, es, ep, rfl, raw_of I h, p.main, by omega, by omega, vs, ws, h1, h2, ?_, ?_⟩
    · rw [p.ent, List.map_map]; exact h3
    · rw [p.ent, List.map_map]; exact h4
/-- what list(..) has laid -/
theorem list_src {α : Type} {es : Array α} (f : α → Value) {acc : List Value} (n : acc.length = es.size) (h : ∀ (j : Nat) (v : Value), acc[j]? = some v → ∃ hi : j < es.size, v = f es[j]) : acc = es.toList.map f := by
  apply List.ext_getElem
  · simp [n]
  · intro i h1 h2
    obtain ⟨hi, e⟩ := h i acc[i] (List.getElem?_eq_getElem h1)
    simp [e]
theorem list_raw {T : String} {r d : Addr} {n : Nat} {P : Nat → Value → Prop} {OK : Heap → Prop} {Q : VK} {vs : List V} (I : Inv X pins σ H s) (hh : X.A.handled = none) (K : PySem.W.KdlSrc X.prog X.w T r d n P OK) (hok : OK s.heap) (hn : n ≤ sizeLine)
    (hv : ∀ acc : List Value, acc.length = n → (∀ j v, acc[j]? = some v → P j v) → Vals vs acc) (q : ∀ p, H p = none → Q (.ref p) (upd H p (.lst vs))) :
    wpAny (model X.prog X.w) X.A (call (.type "list") [.ref r]) (EP X pins σ Q) X.xe s := by
  refine PySem.W.kdl_call K hh hok hn fun h' tk acc c' hk hD hacc => ?_
  have hvs := hv acc.toList (by rw [Array.length_toList]; exact hacc.1) fun j v e => hacc.2 j v (by rw [← Array.getElem?_toList]; exact e)
  have hl := Vals.length hvs
  have hl2 : acc.toList.length = n := by rw [Array.length_toList]; exact hacc.1
  refine ⟨.ref s.heap.objs.size, upd H s.heap.objs.size (.lst vs), I.laid (t' := tk) hk (Nat.le_refl _) ?_, rfl, q _ (I.hok.fresh (Nat.le_refl _))⟩
  exact ⟨by rw [hl, hl2]; exact hn, acc.toList, c', hvs, by rw [Array.toArray_toList]; exact hD⟩
end
end TR
set_option Elab.async false
set_option linter.all false
set_option maxHeartbeats 4000000
/-! builtins of one and two values -/
namespace TR
open PySem PySem.Spec PyProof.Rows L2
def rB1 (B : Wd) (f : M → R M) : List V → Hp → VK → Prop := fun xs H Q => ∃ x Z ma m O, xs = [x] ∧ (∀ a, Z a → H a ≠ none) ∧ RM B Z H x ma O ∧ f ma = .ok m ∧ ∀ v H', New B Z H m v H' → Q v H'
def rB2 (B : Wd) (f : M → M → R M) : List V → Hp → VK → Prop := fun xs H Q => ∃ x y Z ma mb m O1 O2, xs = [x, y] ∧ (∀ a, Z a → H a ≠ none) ∧ RM B Z H x ma O1 ∧ RM B Z H y mb O2 ∧ f ma mb = .ok m ∧ ∀ v H', New B Z H m v H' → Q v H'
section
variable {B : Wd} {Z : Zn} {H : Hp}
theorem RM.lst {v : V} {m : M} {O : List Addr} (r : RM B Z H v m O) {xs : List D} (e : m.lst = .ok xs) : ∃ a vs, v = .ref a ∧ RpL B Z H vs xs ∧ SqL B.K H a vs := by
  cases r with
  | pu h =>
    cases h with
    | lst z h r => simp [M.lst] at e; subst e; exact ⟨_, _, rfl, r, .inl h⟩
    | lsK h r => simp [M.lst] at e; subst e; exact ⟨_, _, rfl, r, .inr h⟩
    | _ => simp [M.lst] at e
  | li h r => simp [M.lst] at e; subst e; exact ⟨_, _, rfl, r, .inl (.of h)⟩
  | _ => simp [M.lst] at e
theorem RM.sq {v : V} {m : M} {O : List Addr} (r : RM B Z H v m O) {xs : List D} (e : m.seq = .ok xs) : ∃ a vs, v = .ref a ∧ RpL B Z H vs xs ∧ (SqL B.K H a vs ∨ SqD B.K H a vs) := by
  obtain ⟨a, vs, h1, h2, h3⟩ := r.seq e
  exact ⟨a, vs, h1, h2, h3.elim (fun h => .inl h) fun h => .inr h.1⟩
theorem RpL.ints {vs : List V} : ∀ {is : List Int}, RpL B Z H vs (is.map .int) → vs = is.map .int := by
  intro is
  induction is generalizing vs with
  | nil => intro h; cases h; rfl
  | cons i is ih => intro h; cases h with | cons h r => cases h; rw [ih r]; rfl
theorem RpL.boos {vs : List V} : ∀ {is : List Bool}, RpL B Z H vs (is.map .bool) → vs = is.map .bl := by
  intro is
  induction is generalizing vs with
  | nil => intro h; cases h; rfl
  | cons i is ih => intro h; cases h with | cons h r => cases h; rw [ih r]; rfl
end
theorem sumD_ints : ∀ {xs : List D} {a i : Int}, sumD a xs = .ok i → ∃ is : List Int, xs = is.map .int ∧ i = a + is.sum := by
  intro xs
  induction xs with
  | nil => intro a i h; simp [sumD] at h; exact ⟨[], rfl, by simp [h]⟩
  | cons x xs ih =>
    intro a i h
    cases x <;> simp only [sumD] at h <;> try (cases h)
    obtain ⟨is, rfl, rfl⟩ := ih h
    exact ⟨_ :: is, rfl, by simp only [List.sum_cons]; omega⟩
theorem boolsD_bools : ∀ {xs : List D} {bs : List Bool}, boolsD xs = .ok bs → xs = bs.map .bool := by
  intro xs
  induction xs with
  | nil => intro bs h; simp [boolsD] at h; subst h; rfl
  | cons x xs ih =>
    intro bs h
    cases x <;> simp only [boolsD] at h <;> try (cases h)
    obtain ⟨cs, h1, h2⟩ := R.bind_ok h
    cases h2
    rw [ih h1]; rfl
theorem okD_tup {xs : List D} (h : okD (.tuple xs) = true) : PyData.plainAll xs = true ∧ PyData.depthAll xs ≤ 60 := by
  refine ⟨by simpa [PyData.plain] using okD_plain h, ?_⟩
  have := okD_depth h
  rw [depth_tuple] at this
  omega
theorem cmpAll_alike {xs : List D} (h : cmpAll xs = true) : W.AlikeAll xs ∧ PyData.plainAll xs = true ∧ PyData.depthAll xs ≤ 60 := by
  unfold cmpAll at h
  simp only [Bool.and_eq_true, List.all_eq_true] at h
  obtain ⟨⟨h1, h2⟩, h3⟩ := h
  refine ⟨⟨fun x hx y hy => h1 x hx y hy, fun x hx e => ?_⟩, okD_tup h3⟩
  subst e
  cases h2 _ hx
theorem plain_at : ∀ {xs : List D} {x : D}, PyData.plainAll xs = true → x ∈ xs → x.plain = true
  | y :: ys, x, h, m => by
    simp only [PyData.plainAll, Bool.and_eq_true] at h
    rcases List.mem_cons.mp m with e | m
    · subst e; exact h.1
    · exact plain_at h.2 m
section
variable {X : Cx}
theorem cr_len : CallR X (.builtin "len") (rB1 (wd X) lenD) := by
  intro pins s σ H xs us Q I rv ⟨x, Z, ma, m, O, ex, zh, r, e, q⟩
  subst ex
  have seq : ∀ {ys : List D}, ma.seq = .ok ys → m = .pu (.int ys.length) → wpAny (model X.prog X.w) X.A (call (.builtin "len") us) (EP X pins σ Q) X.xe s := fun {ys} es em => by
    obtain ⟨a, vs, rfl, rl, h⟩ := r.sq es
    subst em
    refine call_len_seq pins s σ H _ us Q I rv ⟨a, vs, rfl, h.imp id SqD.sq, ?_⟩
    rw [rl.length]
    exact q _ _ (.pure (.int _))
  have dict : ∀ {ys : List (D × D)}, ma.dic = .ok ys → m = .pu (.int ys.length) → wpAny (model X.prog X.w) X.A (call (.builtin "len") us) (EP X pins σ Q) X.xe s := fun {ys} es em => by
    obtain ⟨a, es', ep, rfl, hr, hm, hz, hs, _⟩ := raw_any I r es
    subst em
    cases rv with | cons h1 h2 =>
    cases h2
    cases (show _ = Value.ref a from h1)
    · refine PyProof.Rows.call_len_slot (n := ys.length) hr.typeIs PySem.F.slot_dict_len (fun Q' hq => call_len_raw hm hr (by rw [hs]; exact hq)) (by have := sizeLine_eq; omega) (by rw [sizeLine_eq] at hz; omega) ?_
      exact ⟨.int ys.length, H, I.tok _, ⟨_, rfl⟩, q _ _ (.pure (.int _))⟩
  unfold lenD at e
  split at e
  · cases r with | nl h rn =>
    cases e
    refine call_len_seq pins s σ H _ us Q I rv ⟨_, _, rfl, .inl (.inl (.of h)), ?_⟩
    have := (rn.view (Z' := fun a => Z a ∨ a ∈ _) (fun a z => .inl z) fun a h => .inr h).length
    rw [this, List.length_map]
    exact q _ _ (.pure (.int _))
  · cases e; exact dict rfl rfl
  · obtain ⟨hc, e⟩ := R.of_if e
    cases e
    have := r.str; subst this
    exact call_len_str pins s σ H _ us Q I rv ⟨_, rfl, by rw [← big_eq]; exact hc, q _ _ (.pure (.int _))⟩
  · cases e; exact dict rfl rfl
  · cases e; exact seq rfl rfl
  · cases e; exact seq rfl rfl
  · cases e; exact seq rfl rfl
  · cases e
theorem best_at {id : String} {f : D → List D → D}
    (hl : ∀ (s : Shared) (l : Addr) (vs : Array Value) (x : D) (xs : List D) (as : List Addr) (Q : Value → Shared → Prop), s.heap.IsList l vs → ReadsAll s.heap vs.toList (x :: xs) as → W.AlikeAll (x :: xs) → X.A.units + 1 + PyData.depthAll (x :: xs) < cLine →
      (∀ (i : Nat) v h' tk bs, vs[i]? = some v → Reads h' v (f x xs) bs → (∀ b o, s.heap.get? b = some o → h'.get? b = some o) → Q v { s with heap := h', toks := tk }) → wpAny (model X.prog X.w) X.A (call (.builtin id) [.ref l]) Q X.xe s)
    (ht : ∀ (s : Shared) (l : Addr) (vs : Array Value) (x : D) (xs : List D) (as : List Addr) (Q : Value → Shared → Prop), s.heap.IsTuple l vs → ReadsAll s.heap vs.toList (x :: xs) as → W.AlikeAll (x :: xs) → X.A.units + 1 + PyData.depthAll (x :: xs) < cLine →
      (∀ (i : Nat) v h' tk bs, vs[i]? = some v → Reads h' v (f x xs) bs → (∀ b o, s.heap.get? b = some o → h'.get? b = some o) → Q v { s with heap := h', toks := tk }) → wpAny (model X.prog X.w) X.A (call (.builtin id) [.ref l]) Q X.xe s)
    (hu : X.A.units + 100 < cLine) : CallR X (.builtin id) (rB1 (wd X) (bestD f)) := by
  intro pins s σ H xs us Q I rv ⟨x, Z, ma, m, O, ex, zh, r, e, q⟩
  subst ex
  obtain ⟨ys, e1, e2⟩ := R.bind_ok e
  split at e2
  · cases e2
  · rename_i y ys
    obtain ⟨hc, e2⟩ := R.of_if e2
    cases e2
    obtain ⟨hA, hP, hD⟩ := cmpAll_alike hc
    obtain ⟨a, vs, rfl, rl, h⟩ := r.sq e1
    cases rv with | cons h1 h2 =>
    cases h2
    cases (show _ = Value.ref a from h1)
    have fin : ∀ {its : List Value}, Vals vs its → ∀ (i : Nat) v h' tk bs, its.toArray[i]? = some v → Reads h' v (f y ys) bs → (∀ b o, s.heap.get? b = some o → h'.get? b = some o) → EP X pins σ Q v { s with heap := h', toks := tk } := by
      intro its rv i v h' tk bs hi hr hk
      have hi' : its[i]? = some v := by simpa using hi
      have hv : ∃ x, vs[i]? = some x := by
        cases z : vs[i]? with
        | none => rw [rv.none_of z] at hi'; cases hi'
        | some x => exact ⟨x, rfl⟩
      obtain ⟨x, hx⟩ := hv
      obtain ⟨u, hu1, ru⟩ := rv.get hx
      rw [hi'] at hu1; cases hu1
      obtain ⟨d, hd, rd⟩ := rl.get' hx
      have hpd := plain_at hP (List.mem_of_getElem? hd)
      obtain ⟨as, hra⟩ := rd.reads I hpd ru
      have e3 : d = f y ys := SeqAt.plain_unique d _ v _ _ hpd (PyProof.Rows.Reads.keeps hk hra) hr
      subst e3
      exact ⟨x, H, I.kept hk, ru, q _ _ (.pure rd)⟩
    rcases h with h | h
    · obtain ⟨its, rv, p, hz⟩ := I.list h
      obtain ⟨as, hr⟩ := rl.reads I hP rv
      exact hl s a its.toArray y ys as _ p.isList (by simpa using hr) hA (by omega) (fin rv)
    · obtain ⟨its, rv, p, hz⟩ := I.tuple h.sq
      obtain ⟨as, hr⟩ := rl.reads I hP rv
      exact ht s a its.toArray y ys as _ p (by simpa using hr) hA (by omega) (fin rv)
theorem cr_bestMax (hc : X.calm = true) (hok : X.A.handled = none) (hu : X.A.units + 100 < cLine) : CallR X (.builtin "max") (rB1 (wd X) (bestD maxD)) :=
  best_at (fun s l vs x xs as Q a b c d e => W.max_list_data hok a b c d e) (fun s l vs x xs as Q a b c d e => W.max_tuple_data hok a b c d e) hu
theorem cr_bestMin (hc : X.calm = true) (hok : X.A.handled = none) (hu : X.A.units + 100 < cLine) : CallR X (.builtin "min") (rB1 (wd X) (bestD minD)) :=
  best_at (fun s l vs x xs as Q a b c d e => W.min_list_data hok a b c d e) (fun s l vs x xs as Q a b c d e => W.min_tuple_data hok a b c d e) hu
def rSumT (K : PySem.W.Frag) : List V → Hp → VK → Prop := fun vs H Q => ∃ (a : Addr) (ns : List Int), vs = [V.ref a] ∧ SqT K H a (ns.map V.int) ∧ Q (.int ns.sum) H
theorem cr_sumT (hc : X.calm = true) : CallR X (.builtin "sum") (rSumT X.K) := by
  intro pins s σ H vs us Q I r h
  obtain ⟨a, ns, rfl, hs, q⟩ := h
  obtain ⟨its, rv, hl, _⟩ := I.tuple hs
  rw [Vals.ref1 r]
  have hi : IntsAre its.toArray.toList ns := by simpa using RZ.intsAre_vals rv
  obtain ⟨xs, hx⟩ := hi.allInts.items
  have hn : numsOf its.toArray.toList = ns := hi.numsOf
  rw [hx] at hl hn
  rw [nums_intItems] at hn
  refine PySem.W.ktm_sumG (I.ok.hd hc) hl fun h' tk t' hk => ?_
  rw [preSum_eq, List.take_of_length_le (by simp), hn]
  exact ⟨.int _, H, I.kept hk, ⟨_, rfl⟩, q⟩
theorem cr_sumM (hc : X.calm = true) : CallR X (.builtin "sum") (rB1 (wd X) sumM) := by
  intro pins s σ H xs us Q I rv ⟨x, Z, ma, m, O, ex, zh, r, e, q⟩
  subst ex
  obtain ⟨ys, e1, e2⟩ := R.bind_ok e
  obtain ⟨i, e3, e4⟩ := R.bind_ok e2
  cases e4
  obtain ⟨is, rfl, rfl⟩ := sumD_ints e3
  obtain ⟨a, vs, rfl, rl, h⟩ := r.sq e1
  have := rl.ints; subst this
  rcases h with h | h
  · refine cr_sum hc pins s σ H _ us Q I rv ⟨a, is, rfl, h, ?_⟩
    have := q _ _ (.pure (.int _))
    simpa using this
  · refine cr_sumT hc pins s σ H _ us Q I rv ⟨a, is, rfl, h.sq, ?_⟩
    have := q _ _ (.pure (.int _))
    simpa using this
theorem cr_anyM (hc : X.calm = true) : CallR X (.builtin "any") (rB1 (wd X) (quaM (·.any id))) := by
  intro pins s σ H xs us Q I rv ⟨x, Z, ma, m, O, ex, zh, r, e, q⟩
  subst ex
  obtain ⟨ys, e1, e2⟩ := R.bind_ok e
  obtain ⟨bs, e3, e4⟩ := R.bind_ok e2
  cases e4
  have := boolsD_bools e3; subst this
  obtain ⟨a, vs, rfl, rl, h⟩ := r.lst e1
  have := rl.boos; subst this
  exact cr_any hc pins s σ H _ us Q I rv ⟨a, bs, rfl, h, q _ _ (.pure (.bl _))⟩
theorem cr_allM (hc : X.calm = true) : CallR X (.builtin "all") (rB1 (wd X) (quaM (·.all id))) := by
  intro pins s σ H xs us Q I rv ⟨x, Z, ma, m, O, ex, zh, r, e, q⟩
  subst ex
  obtain ⟨ys, e1, e2⟩ := R.bind_ok e
  obtain ⟨bs, e3, e4⟩ := R.bind_ok e2
  cases e4
  have := boolsD_bools e3; subst this
  obtain ⟨a, vs, rfl, rl, h⟩ := r.lst e1
  have := rl.boos; subst this
  exact cr_all hc pins s σ H _ us Q I rv ⟨a, bs, rfl, h, q _ _ (.pure (.bl _))⟩
theorem each_of {B : Wd} {Z : Zn} {H : Hp} : ∀ {vs : List V} {ds : List D} {us : List Value}, RpL B Z H vs ds → Vals vs us → W.EachIs (fun u d => ∃ v, RelV v u ∧ Rp B Z H v d) us ds := by
  intro vs ds
  induction ds generalizing vs with
  | nil => intro us h r; cases h; cases r; exact .nil
  | cons d ds ih => intro us h r; cases h with | cons h h2 => cases r with | cons r r2 => exact .cons ⟨_, r, h⟩ (ih h2 r2)
theorem of_each {B : Wd} {Z : Zn} {H : Hp} : ∀ {ds : List D} {us : List Value}, W.EachIs (fun u d => ∃ v, RelV v u ∧ Rp B Z H v d) us ds → ∃ vs, Vals vs us ∧ RpL B Z H vs ds := by
  intro ds
  induction ds with
  | nil => intro us h; cases h; exact ⟨[], .nil, .nil⟩
  | cons d ds ih =>
    intro us h
    cases h with | cons h h2 =>
    obtain ⟨v, h3, h4⟩ := h
    obtain ⟨vs, h5, h6⟩ := ih h2
    exact ⟨v :: vs, .cons h3 h5, .cons h4 h6⟩
theorem ints_vals {B : Wd} {Z : Zn} {H : Hp} : ∀ {vs : List V} {xs : List D} {ns : List Int}, RpL B Z H vs xs → intsD xs = some ns → vs = ns.map V.int
  | _, _, ns, .nil, h => by cases h; rfl
  | _, _, ns, .cons (d := d) r rs, h => by
    cases r with
    | int i =>
      rw [intsD] at h
      obtain ⟨ms, h1, rfl⟩ := Option.map_eq_some_iff.1 h
      rw [ints_vals rs h1]; rfl
    | _ => simp [intsD] at h
theorem SqD.bare {pins : List (Addr × Obj)} {s : Shared} {p : Addr} {xs : List V} (I : Inv X pins σ H s) (h : SqD X.K H p xs) : ∃ its, s.heap.get? p = some (tupO its) ∧ Vals xs its := by
  rcases h with ⟨its, h⟩ | ⟨its, h, _, hv⟩
  · obtain ⟨h1, _, ws, hv, h2⟩ := I.hok p _ h
    obtain ⟨o, e1, _, n, e2⟩ := h2
    rw [h1] at e1
    cases e1
    have : its = ws := by
      simp only [tupO, Data.seq.injEq] at e2
      have := congrArg Array.toList e2.1
      simpa using this
    exact ⟨its, h1, this ▸ hv⟩
  · exact ⟨its, I.kIn p _ h, hv⟩
theorem er_ints {h : Heap} {a : Addr} : ∀ {ns : List Int} {its : List Value}, Vals (ns.map V.int) its → W.EachIs (fun v b => ∃ as, Reads h v (id b) as ∧ a ∉ as) its (ns.map PyData.int) := by
  intro ns
  induction ns with
  | nil => intro its r; cases r; exact .nil
  | cons n ns ih =>
    intro its r
    cases r with | cons r r2 =>
    obtain ⟨tk, rfl⟩ := (show ∃ tk, _ = Value.int n tk from r)
    exact .cons ⟨[], .int _ _, by simp⟩ (ih r2)
theorem intsD_eq : ∀ {xs : List D} {ns : List Int}, intsD xs = some ns → xs = ns.map PyData.int
  | [], ns, h => by cases h; rfl
  | d :: ds, ns, h => by
    cases d with
    | int i =>
      simp only [intsD, Option.map_eq_some_iff] at h
      obtain ⟨ms, h1, rfl⟩ := h
      rw [intsD_eq h1]; rfl
    | _ => simp [intsD] at h
/-- the items of a tuple as a new list -/
theorem collect_tup {prog : Program} {w : World} {A : Around} {E : Value → Shared → Prop} {s : Shared} {t : Addr} {its : List Value} {Q : List Value → Shared → Prop} (hg : s.heap.get? t = some (tupO its)) (hL : its.length ≤ sizeLine)
    (h : ∀ h', (∀ b o, s.heap.get? b = some o → h'.get? b = some o) → s.heap.objs.size ≤ h'.objs.size → Q its { s with heap := h' }) : wpAny (model prog w) A (collect (.ref t)) Q E s := by
  have hL2 : its.toArray.size ≤ sizeLine := by rw [List.size_toArray]; exact hL
  unfold collect
  refine wpAny_bind (wpAny_runValue (codeAny_builtin entry_proto_collect' ?_))
  show wpAny _ _ (newList [] >>= fun l => again (.builtin "list.__iadd__" ⟨[l, .ref t], []⟩)) _ _ s
  refine wpAny_bind (wpAny_newList (wpAny_pure ⟨Code.quiet_builtin _ (by decide +kernel), codeAny_builtin entry_list_iadd' ?_⟩))
  show wpAny _ _ (Builtin.List.listExtendWith (.ref s.heap.objs.size) (.ref t) (.ref s.heap.objs.size)) _ _ _
  unfold Builtin.List.listExtendWith
  refine wpAny_bind (wpAny_typeOf (T := "tuple") ⟨_, Heap.get?_push_of_some _ hg, rfl⟩ ?_)
  rw [if_pos (by rw [show (Value.type "tuple" == Value.type "tuple") = true by rfl]; simp)]
  refine wpAny_bind (listItems_at (Heap.get?_push_of_some _ hg) rfl ?_)
  refine wpAny_bind (listItems_at (xs := #[]) (n := 0) (Heap.get?_push_size _ rfl) rfl ?_)
  rw [if_neg (by simp)]
  refine wpAny_bind (listUpdate_at (xs := #[]) (n := 0) (Heap.get?_push_size _ rfl) rfl ?_ (Nat.zero_le _) (by show (#[] ++ its.toArray).size ≤ sizeLine + 1; simp only [Array.size_append, List.size_toArray, List.length_nil]; omega))
  refine wpAny_pure ?_
  show wpAny _ A (load s.heap.objs.size >>= _) _ _ _
  refine wpAny_bind (wpAny_load (get?_update_seq (Heap.get?_push_size _ rfl) _) ?_)
  show wpAny _ _ (pure ((#[] : Array Value) ++ its.toArray).toList) Q E _
  rw [show ((#[] : Array Value) ++ its.toArray).toList = its by simp]
  refine wpAny_pure (h _ (fun b o hb => ?_) ?_)
  · exact (Heap.get?_update_other _ _ (Nat.ne_of_gt (Heap.lt_size hb))).trans (Heap.get?_push_of_some _ hb)
  · rw [Heap.size_update, size_push']; exact Nat.le_succ _
/-- sorted(t), t a tuple of whole numbers -/
theorem sorted_tup {prog : Program} {w : World} {A : Around} {E : Value → Shared → Prop} {s : Shared} {t : Addr} {its : List Value} {ns : List Int} {Q : Value → Shared → Prop} {R : Value → D → Prop} (hg : s.heap.get? t = some (tupO its)) (hi : Vals (ns.map V.int) its)
    (hR : W.EachIs R its (ns.map PyData.int)) (hal : W.AllAlike (ns.map PyData.int)) (hk : W.Sortable (ns.map PyData.int)) (hL : ns.length ≤ sizeLine) (hu : A.units + 2 + 1 < cLine)
    (h : ∀ D h' out ep, (∀ b o, s.heap.get? b = some o → h'.get? b = some o) → s.heap.objs.size ≤ D → h'.get? D = some (seqObj "list" (List.toArray out) ep) → out.length = ns.length → W.EachIs R out ((ns.map PyData.int).mergeSort (W.dataLe false id)) → Q (.ref D) { s with heap := h' }) :
    wpAny (model prog w) A (call (.builtin "sorted") [.ref t]) Q E s := by
  have hl : its.length = ns.length := by have := hi.length; simpa using this.symm
  refine Calls.call_function_entry kind_sorted plain_sorted entry_sorted (args_sorted1 _) ?_
  unfold Builtin.«sorted»
  refine wpAny_bind (m := checkCount "sorted" 1 1 _) (wpAny_pure ?_)
  refine wpAny_bind (collect_tup hg (by rw [hl]; exact hL) fun h1 k1 hsz => ?_)
  refine wpAny_bind (wpAny_newList ?_ (by simpa [hl] using hL))
  have ho : (h1.push { cls := .type "list", data := .seq its.toArray }).get? h1.objs.size = some (seqObj "list" its.toArray 0) := Heap.get?_push_size _ rfl
  have key : wpAny (model prog w) A.in1 (call (.builtin "list.sort") [.ref h1.objs.size]) (fun _ s' => Q (.ref h1.objs.size) s') E { s with heap := h1.push { cls := .type "list", data := .seq its.toArray } } := by
    refine W.list_sort_data (R := R) (enc := id) (vs := its) (bs := ns.map PyData.int) (n := 0) ho hR (er_ints hi) (by rw [List.map_id]; exact hal) (by rw [List.map_id]; exact hk) (by simpa using hL) (fun b hb => ?_) fun out h2 h3 => ?_
    · obtain ⟨n, _, rfl⟩ := List.mem_map.1 hb
      show A.units + 1 + 1 + 0 < cLine
      omega
    · obtain ⟨ep, he⟩ := sortedHeap_at (vs := its) (out := out.toArray) ho
      refine h _ _ out ep (fun b o e => ?_) hsz he (by simpa using h2) h3
      have hb := Heap.lt_size (k1 _ _ e)
      rw [sortedHeap_old (Nat.ne_of_lt hb) (by rw [size_push']; exact Nat.lt_succ_of_lt hb)]
      exact Heap.get?_push_of_some _ (k1 _ _ e)
  refine wpAny_bind (wpAny_holding (wpAny_mono key (fun _ s' x => ?_) fun _ _ e => e))
  exact wpAny_pure ⟨_, rfl, x⟩
theorem cr_sortM (hu : X.A.units + 100 < cLine) : CallR X (.builtin "sorted") (rB1 (wd X) sortM) := by
  intro pins s σ H xs us Q I rv ⟨x, Z, ma, m, O, ex, zh, r, e, q⟩
  subst ex
  by_cases ht : ∃ ds, ma = .pu (.tuple ds)
  · obtain ⟨ds, rfl⟩ := ht
    simp only [sortM] at e
    split at e
    · rename_i ns hns
      obtain ⟨hc, e⟩ := R.of_if e
      cases e
      unfold sortAll at hc
      simp only [Bool.and_eq_true, Bool.or_eq_true, decide_eq_true_eq, List.all_eq_true] at hc
      obtain ⟨⟨hc, hk⟩, hL⟩ := hc
      obtain ⟨hA, hP, hD⟩ := cmpAll_alike hc
      obtain ⟨a, vs, rfl, h, rl⟩ := r.tup
      have hd := intsD_eq hns
      have hv := ints_vals rl hns
      subst hd; subst hv
      cases rv with | cons h1 h2 =>
      cases h2
      cases (show _ = Value.ref a from h1)
      obtain ⟨its, hg, rv⟩ := SqD.bare I h
      refine sorted_tup (R := fun u d => ∃ v, RelV v u ∧ Rp (wd X) Z H v d) hg rv (each_of rl rv) hA.1 (.inr fun d hd => ⟨hA.2 d hd, fun zs e => ?_⟩) (by have z := hL; rw [List.length_map] at z; rw [← big_eq]; exact z) (by show X.A.units + 2 + 1 < cLine; omega) fun D h' out ep k1 k2 k3 k4 k5 => ?_
      · subst e; obtain ⟨n, _, e⟩ := List.mem_map.1 hd; cases e
      · obtain ⟨ws, h3, h4⟩ := of_each k5
        refine ⟨.ref _, upd H D (.lst ws), I.laid (t' := s.toks) k1 k2 ⟨?_, out, ep, h3, k3⟩, rfl, q _ _ (.li (I.hok.fresh k2) h4)⟩
        rw [h3.length, k4, ← big_eq]
        have z := hL; rw [List.length_map] at z; exact z
    · cases e
  have e0 : (do let xs ← ma.lst; if sortAll xs then R.ok (M.li (sortD xs)) else R.bad) = R.ok m := by
    cases ma <;> first | exact e | (cases r)
    rename_i d
    cases d <;> first | exact e | exact absurd ⟨_, rfl⟩ ht
  have e := e0
  obtain ⟨ys, e1, e2⟩ := R.bind_ok e
  obtain ⟨hc, e2⟩ := R.of_if e2
  cases e2
  unfold sortAll at hc
  simp only [Bool.and_eq_true, Bool.or_eq_true, decide_eq_true_eq, List.all_eq_true] at hc
  obtain ⟨⟨hc, hk⟩, hL⟩ := hc
  obtain ⟨hA, hP, hD⟩ := cmpAll_alike hc
  obtain ⟨a, vs, rfl, rl, h⟩ := r.lst e1
  cases rv with | cons h1 h2 =>
  cases h2
  cases (show _ = Value.ref a from h1)
  obtain ⟨its, rv, p, hz⟩ := I.list h
  have hS : W.Sortable ys := by
    rcases hk with hk | hk
    · refine .inl fun d hd => ?_
      have := hk d hd
      cases d with
      | tuple zs => cases zs with
        | nil => cases this
        | cons z zs => exact ⟨z, zs, rfl⟩
      | _ => cases this
    · refine .inr fun d hd => ⟨hA.2 d hd, fun zs e => ?_⟩
      have := hk d hd
      subst e
      cases this
  have ea := each_of rl rv
  refine W.sorted_data (R := fun u d => ∃ v, RelV v u ∧ Rp (wd X) Z H v d) (enc := id) p.isList ea ?_ ?_ ?_ (by rw [← big_eq]; exact hL) (fun b hb => ?_) fun out h1 h2 => ?_
  · have : ∀ {us : List Value} {ds : List D}, PyData.plainAll ds = true → W.EachIs (fun u d => ∃ v, RelV v u ∧ Rp (wd X) Z H v d) us ds → W.EachIs (fun v b => ∃ as, Reads s.heap v (id b) as) us ds := by
      intro us ds
      induction ds generalizing us with
      | nil => intro _ h; cases h; exact .nil
      | cons d ds ih =>
        intro hp h
        simp only [PyData.plainAll, Bool.and_eq_true] at hp
        cases h with | cons h h2 =>
        obtain ⟨v, h3, h4⟩ := h
        exact .cons (h4.reads I hp.1 h3) (ih hp.2 h2)
    exact this hP ea
  · rw [List.map_id]; exact hA.1
  · rw [List.map_id]; exact hS
  · have : ∀ {ds : List D}, b ∈ ds → b.depth ≤ PyData.depthAll ds := by
      intro ds
      induction ds with
      | nil => intro h; cases h
      | cons d ds ih =>
        intro h
        simp only [PyData.depthAll]
        rcases List.mem_cons.mp h with e | h
        · subst e; exact Nat.le_max_left _ _
        · exact Nat.le_trans (ih h) (Nat.le_max_right _ _)
    have := this hb
    show X.A.units + 2 + b.depth < cLine
    omega
  · obtain ⟨ws, h3, h4⟩ := of_each h2
    obtain ⟨ep, he'⟩ := PyProof.Rows.sortedAll_at s.heap its out.toArray
    refine ⟨.ref _, upd H (s.heap.objs.size + 1) (.lst ws), I.laid (t' := s.toks) (fun _ _ => PyProof.Rows.sortedAll_old) (Nat.le_succ _) ⟨?_, out, ep, h3, he'⟩, rfl, q _ _ (.li (I.hok.fresh (Nat.le_succ _)) h4)⟩
    rw [h3.length, h1, ← big_eq]
    exact hL
theorem cr_listM (hc : X.calm = true) : CallR X (.type "list") (rB1 (wd X) listM) := by
  intro pins s σ H xs us Q I rv ⟨x, Z, ma, m, O, ex, zh, r, e, q⟩
  subst ex
  have dict : ∀ {ys : List (D × D)}, ma.dic = .ok ys → m = .li (ys.map (·.1)) → wpAny (model X.prog X.w) X.A (call (.type "list") us) (EP X pins σ Q) X.xe s := fun {ys} es em => by
    obtain ⟨a, es', ep, rfl, hr, hm, hz, hs, vs, ws, h1, h2, h3, h4⟩ := raw_any I r es
    subst em
    cases rv with | cons g1 g2 =>
    cases g2
    cases (show _ = Value.ref a from g1)
    exact list_raw I (I.ok.hd hc) (PySem.KdlSrc.rawDict (es := es') (ep := ep) hm) hr (by rw [hs]; exact hz) (fun acc n hp => by
      have : acc = es'.toList.map (·.key) := list_src (fun e : DictEntry => e.key) n hp
      rw [this]; exact h3) fun p hp => q _ _ (.li hp h1)
  unfold listM at e
  split at e
  · cases e; exact dict rfl rfl
  · cases e; exact dict rfl rfl
  · obtain ⟨ys, h1, h2⟩ := R.bind_ok e
    cases h2
    obtain ⟨a, vs, rfl, rl, h⟩ := r.sq h1
    exact call_list_of pins s σ H _ us Q I rv ⟨a, vs, rfl, h.imp id SqD.sq, fun p hp => q _ _ (.li hp rl)⟩
theorem cr_tupM : CallR X (.type "tuple") (rB1 (wd X) tupM) := by
  intro pins s σ H xs us Q I rv ⟨x, Z, ma, m, O, ex, zh, r, e, q⟩
  subst ex
  obtain ⟨ys, h1, h2⟩ := R.bind_ok e
  cases h2
  obtain ⟨a, vs, rfl, rl, h⟩ := r.sq h1
  refine call_tupD pins s σ H _ us Q I rv ⟨a, vs, rfl, ?_⟩
  rcases h with h | h
  · exact .inl ⟨h, fun p its hp => q _ _ (.tup hp rl)⟩
  · exact .inr ⟨h.sq, q _ _ (.pure (.tup h rl))⟩
theorem cr_intM : CallR X (.type "int") (rB1 (wd X) intM) := by
  intro pins s σ H xs us Q I rv ⟨x, Z, ma, m, O, ex, zh, r, e, q⟩
  subst ex
  unfold intM at e
  split at e
  · cases e; have := r.int; subst this
    exact call_int1 pins s σ H _ us Q I rv (.inl ⟨_, rfl, q _ _ (.pure (.int _))⟩)
  · cases e; have := r.boo; subst this
    exact call_int1 pins s σ H _ us Q I rv (.inr ⟨_, rfl, q _ _ (.pure (.int _))⟩)
  · cases e
theorem cr_boolM : CallR X (.type "bool") (rB1 (wd X) (bi1 .bool)) := by
  intro pins s σ H xs us Q I rv ⟨x, Z, ma, m, O, ex, zh, r, e, q⟩
  subst ex
  simp only [bi1] at e
  split at e
  · cases e; have := r.int; subst this
    exact call_bool1 pins s σ H _ us Q I rv (.inl ⟨_, rfl, q _ _ (.pure (.bl _))⟩)
  · cases e
theorem cr_strM : CallR X (.type "str") (rB1 (wd X) (bi1 .str)) := by
  intro pins s σ H xs us Q I rv ⟨x, Z, ma, m, O, ex, zh, r, e, q⟩
  subst ex
  simp only [bi1] at e
  split at e
  · obtain ⟨hc, e⟩ := R.of_if e
    cases e; have := r.int; subst this
    exact call_str_int pins s σ H _ us Q I rv ⟨_, rfl, hc, q _ _ (.pure (.str _))⟩
  · cases e
theorem cr_absM : CallR X (.builtin "abs") (rB1 (wd X) (bi1 .abs)) := by
  intro pins s σ H xs us Q I rv ⟨x, Z, ma, m, O, ex, zh, r, e, q⟩
  subst ex
  simp only [bi1] at e
  split at e
  · cases e; have := r.int; subst this
    exact call_abs pins s σ H _ us Q I rv ⟨_, rfl, q _ _ (.pure (.int _))⟩
  · cases e
theorem cr_max2M (hc : X.calm = true) : CallR X (.builtin "max") (rB2 (wd X) (bi2 .max)) := by
  intro pins s σ H xs us Q I rv ⟨x, y, Z, ma, mb, m, O1, O2, ex, zh, r, r2, e, q⟩
  subst ex
  unfold bi2 at e
  split at e
  · cases e; have := r.int; subst this; have := r2.int; subst this
    exact call_max2 hc pins s σ H _ us Q I rv ⟨_, _, rfl, q _ _ (.pure (.int _))⟩
  · rename_i h; cases h
  · cases (by assumption : Bi.max = Bi.set)
  · cases e
theorem cr_min2M (hc : X.calm = true) : CallR X (.builtin "min") (rB2 (wd X) (bi2 .min)) := by
  intro pins s σ H xs us Q I rv ⟨x, y, Z, ma, mb, m, O1, O2, ex, zh, r, r2, e, q⟩
  subst ex
  unfold bi2 at e
  split at e
  · rename_i h; cases h
  · cases e; have := r.int; subst this; have := r2.int; subst this
    exact call_min2 hc pins s σ H _ us Q I rv ⟨_, _, rfl, q _ _ (.pure (.int _))⟩
  · cases (by assumption : Bi.min = Bi.set)
  · cases e
/-! ### isinstance -/
def tyName : Ty → String
  | .non => "NoneType"
  | .bool => "bool"
  | .int => "int"
  | .str => "str"
  | .list => "list"
  | .tuple => "tuple"
  | .dict => "dict"
theorem isM_ok {ts : List Ty} {ma m : M} (h : isM ts ma = .ok m) : m = .pu (.bool (ts.contains (tyD ma))) ∧ ma.dic = .bad := by
  unfold isM at h
  split at h
  · cases h
  · cases h
  · rename_i h1 h2
    cases h
    refine ⟨rfl, ?_⟩
    unfold M.dic
    split
    · exact (h2 _ rfl).elim
    · exact (h1 _ rfl).elim
    · rfl
theorem RM.ty {B : Wd} {Z : Zn} {H : Hp} {v : V} {m : M} {O : List Addr} (r : RM B Z H v m O) (nd : m.dic = .bad) : TyX B.K H v (.type (tyName (tyD m))) := by
  cases r with
  | pu h =>
    cases h with
    | non => exact .base .non
    | bl b => exact .base (.bl b)
    | int i => exact .base (.int i)
    | str x => exact .base (.str x)
    | tup h r =>
      rcases h.sq with (h | ⟨o, h⟩) | ⟨o, its, n, hk, hc, _⟩
      · exact .base (.tup h)
      · exact .fTuple h
      · exact .kTuple hk hc
    | lst z h r =>
      rcases h with h | ⟨o, h⟩
      · exact .base (.lst h)
      · exact .base (.frz h)
    | lsK h r => obtain ⟨o, its, n, hk, hc, _⟩ := h; exact .kList hk hc
    | dA z h p r => simp [M.dic] at nd
    | dN z h p r => simp [M.dic] at nd
  | li h r => exact .base (.lst h)
  | nl h r => exact .base (.lst h)
  | dA h p r => simp [M.dic] at nd
  | dN h p r => simp [M.dic] at nd
theorem kit_all (a b : Ty) (hb : b ≠ .non) : kitB (tyName a) (tyName b) = some (decide (a = b) || (decide (a = .bool) && decide (b = .int))) := by
  cases a <;> cases b <;> first | exact absurd rfl hb | (simp only [tyName]; decide +kernel)
end
end TR
set_option Elab.async false
set_option linter.all false
set_option maxHeartbeats 4000000
/-! items, slices, methods -/
namespace TR
open PySem PySem.Spec PyProof.Rows L2
/-- an item: data, or one of a list's own lists -/
def rSub (B : Wd) : R2 := fun x y H Q => ∃ Z ma mb m O1 O2, (∀ a, Z a → H a ≠ none) ∧ RM B Z H x ma O1 ∧ RM B Z H y mb O2 ∧ subD ma mb = .ok m ∧
  ∀ v, (∃ O, RM B Z H v m O ∧ (∀ a ∈ O, a ∈ O1) ∧ O.length ≤ 1 ∧ (ma.isNl = false → O = [])) → Q v H
theorem ixOf_eq (n : Nat) (i : Int) : ixOf n i = ixN n i := rfl
theorem slIx_eq (n d : Nat) (o : Option Int) : slIx n d o = HT.sIx n d o := by
  cases o with
  | none => rfl
  | some i =>
    show (if 0 ≤ i then min i.toNat n else (i + n).toNat) = if i < 0 then (i + (n : Int)).toNat else min i.toNat n
    by_cases h : 0 ≤ i
    · rw [if_pos h, if_neg (by omega)]
    · rw [if_neg h, if_pos (by omega)]
section
variable {B : Wd} {Z : Zn} {H : Hp}
theorem RpL.atI {vs : List V} {ds : List D} (h : RpL B Z H vs ds) {i : Int} {d : D} (e : atD ds i = .ok d) : ∃ v, L2.atI vs i = some v ∧ Rp B Z H v d := by
  unfold atD at e
  rw [ixOf_eq, ← h.length] at e
  unfold L2.atI
  cases q : ixN vs.length i with
  | none => rw [q] at e; cases e
  | some j =>
    rw [q] at e
    simp only [Option.bind_some] at e ⊢
    cases w : ds[j]? with
    | none => rw [w] at e; cases e
    | some d' =>
      rw [w] at e
      cases e
      exact h.get w
theorem RpL.cut {vs : List V} {ds : List D} (h : RpL B Z H vs ds) (lo hi : Option Int) : RpL B Z H (cutV vs lo hi) (cutD ds lo hi) := by
  unfold cutV cutD
  rw [slIx_eq, slIx_eq, h.length]
  exact (h.drop _).take _
theorem RN.at : ∀ {vs : List V} {dss : List (List D)} {O : List Addr}, RN B Z H vs dss O → ∀ {j : Nat} {xs : List D}, dss[j]? = some xs → ∃ a ws, vs[j]? = some (.ref a) ∧ O[j]? = some a ∧ H a = some (.lst ws) ∧ RpL B Z H ws xs
  | _, _, _, .nil, j, xs, e => by simp at e
  | _, _, _, .cons h r t, 0, xs, e => by simp at e; subst e; exact ⟨_, _, rfl, rfl, h, r⟩
  | _, _, _, .cons h r t, j + 1, xs, e => by simpa using RN.at t (by simpa using e)
theorem RN.length : ∀ {vs : List V} {dss : List (List D)} {O : List Addr}, RN B Z H vs dss O → vs.length = dss.length
  | _, _, _, .nil => rfl
  | _, _, _, .cons _ _ t => by simp [RN.length t]
end
section
variable {X : Cx}
theorem tail_of {value slice : Expr} {T id : String} {o i : Value} {s : Shared} {E : Value → Shared → Prop} {Q : Value → Shared → Prop} (hl : typeLookup (.type T) "__getitem__" = pure (some (.builtin id)))
    (hs : subscripted slice false o i = operate [o, i] (getItem o i)) (hT : s.TypeIs o T) (h : wpAny (model X.prog X.w) X.A (getItem o i) Q E s) : wpAny (model X.prog X.w) X.A (subscriptTail value slice o i) Q E s := by
  unfold subscriptTail
  refine wpAny_bind ?_
  rw [getitemInPython_of_ne hT.not_modules]
  have fin : wpAny (model X.prog X.w) X.A (subscripted slice false o i) (fun r s3 => wpAny (model X.prog X.w) X.A (do letTemporaryGo value o r; pure r) Q E s3) E s := by
    rw [hs]
    exact wpAny_operating (wpAny_mono h (fun r s3 h3 => wpAny_bind (wpAny_letTemporaryGo (wpAny_pure h3))) fun _ _ z => z)
  refine wpAny_bind (wpAny_specialOf hT hl ?_)
  first
    | exact wpAny_bind (wpAny_pure (wpAny_bind fin))
    | exact wpAny_pure (wpAny_bind fin)
    | exact wpAny_bind fin
theorem ix_dic (hu : X.A.units + 100 < cLine) : IxR X (fun x y H Q => ∃ a v, x = .ref a ∧ DGet H a y (some v) ∧ Q v H) := by
  intro value slice pins s σ H x y v u Q I rx ry ⟨a, z, ex, g, q⟩ hs
  subst ex
  cases (show v = Value.ref a from rx)
  exact tail_of PySem.F.slot_dict_getitem.lookup hs (dict_typeIs I g) (d_getItem (by omega) I g ry fun w' s3 I3 rw' => ⟨z, H, I3, rw', q⟩)
theorem ix_sub (hu : X.A.units + 100 < cLine) : IxR X (rSub (wd X)) := by
  intro value slice pins s σ H x y v u Q I rx ry ⟨Z, ma, mb, m, O1, O2, zh, r1, r2, e, q⟩ hs
  have dic : ∀ {kvs : List (D × D)} {k : D} {O2 : List Addr}, ma.dic = .ok kvs → RM (wd X) Z H y (.pu k) O2 → keyFit kvs k = true → (do
      let v ← R.ofOpt (dLook kvs k)
      R.ok (M.pu v)) = .ok m → wpAny (model X.prog X.w) X.A (subscriptTail value slice v u) (EP X pins σ Q) X.xe s := fun {kvs k O2} hd r2 hk e => by
    obtain ⟨d, h1, h2⟩ := R.bind_ok e
    cases h2
    obtain ⟨a, rfl, ⟨ks, k, ha, rk, rfl, rfl⟩ | ⟨xs, hn, rn, tk⟩⟩ := r1.fit hd r2 hk
    · rcases rk.look k with ⟨w, d', h3, h4, h5⟩ | ⟨h3, h4⟩
      · rw [h4] at h1
        cases h1
        cases (show v = Value.ref a from rx)
        obtain ⟨_, _, dd, _⟩ := ha.dict I
        exact tail_of PySem.F.slot_dict_getitem.lookup hs dd.typeIs (da_get I ha ry h3 fun r s3 I3 rr => ⟨w, H, I3, rr, q _ ⟨[], .pu h5, by simp, by simp, fun _ => rfl⟩⟩)
      · rw [h4] at h1; cases h1
    · rcases rn.look tk.1 with ⟨b, w, vv, d', h3, h4, h5, h6⟩ | ⟨h3, h4⟩
      · rw [h4] at h1
        cases h1
        cases (show v = Value.ref a from rx)
        exact tail_of PySem.F.slot_dict_getitem.lookup hs (hn.dict I).1.typeIs (dn_get hu I hn tk ry h3 fun s3 I3 => ⟨vv, H, I3, h5, q _ ⟨[], .pu h6, by simp, by simp, fun _ => rfl⟩⟩)
      · rw [h4] at h1; cases h1
  unfold subD at e
  split at e
  · obtain ⟨hk, e⟩ := R.of_if e
    exact dic rfl r2 hk e
  · obtain ⟨hk, e⟩ := R.of_if e
    exact dic rfl r2 hk e
  · obtain ⟨ys, h1, h2⟩ := R.bind_ok e
    cases h2
    have := r2.int; subst this
    cases r1 with | nl h rn =>
    rename_i xss i a vs O
    rw [ixOf_eq] at h1
    cases hj : ixN xss.length i with
    | none => rw [hj] at h1; cases h1
    | some j =>
      rw [hj] at h1
      simp only [Option.bind_some] at h1
      cases hx : xss[j]? with
      | none => rw [hx] at h1; cases h1
      | some zs =>
        rw [hx] at h1
        cases h1
        obtain ⟨b, ws, h3, h4, h5, h6⟩ := rn.at hx
        refine ix_seq value slice pins s σ H _ _ v u Q I rx ry (.inl ⟨a, vs, i, .ref b, rfl, rfl, .inl (.of h), ?_, q _ ⟨[b], .li h5 h6, fun c hc => ?_, by simp, fun z => by simp [M.isNl] at z⟩⟩) hs
        · unfold L2.atI
          rw [rn.length, hj]
          exact h3
        · simp at hc; subst hc
          exact List.mem_cons_of_mem _ (List.mem_of_getElem? h4)
  · rename_i i n1 n2 n3
    obtain ⟨ys, h1, h2⟩ := R.bind_ok e
    obtain ⟨d, h3, h4⟩ := R.bind_ok h2
    cases h4
    have := r2.int; subst this
    obtain ⟨a, vs, rfl, rl, h⟩ := r1.sq h1
    obtain ⟨w, h5, h6⟩ := rl.atI h3
    have hq := q w ⟨[], .pu h6, by simp, by simp, fun _ => rfl⟩
    rcases h with h | h
    · exact ix_seq value slice pins s σ H _ _ v u Q I rx ry (.inl ⟨a, vs, i, w, rfl, rfl, h, h5, hq⟩) hs
    · exact ix_seq value slice pins s σ H _ _ v u Q I rx ry (.inr (.inl ⟨a, vs, i, w, rfl, rfl, h.sq, h5, hq⟩)) hs
  · cases e
/-- slices -/
def rSlc (B : Wd) : V → Option Int → Option Int → Hp → VK → Prop := fun x lo hi H Q => ∃ Z ma m O, (∀ a, Z a → H a ≠ none) ∧ RM B Z H x ma O ∧ slcD ma lo hi = .ok m ∧ ∀ v H', New B Z H m v H' → Q v H'
theorem cut_whole (xs : List D) (lo hi : Option Int) (h : HT.sIx xs.length 0 lo = 0 ∧ HT.sIx xs.length xs.length hi = xs.length) : cutD xs lo hi = xs := by
  unfold cutD
  rw [slIx_eq, slIx_eq, h.1, h.2]
  simp
theorem sl_slc : SlR X (rSlc (wd X)) := by
  intro pins s σ H x v vl vu lo hi sl Q I rx hs pl pu ⟨Z, ma, m, O, zh, r, e, q⟩
  unfold slcD at e
  split at e
  · rename_i xs
    cases e
    obtain ⟨a, vs, rfl, h, rl⟩ := r.tup
    refine sl_tupD pins s σ H _ v vl vu lo hi sl Q I rx hs pl pu ⟨a, vs, rfl, h.sq, fun hw => ?_, fun p its hp => q _ _ (.tup hp (rl.cut lo hi))⟩
    rw [rl.length] at hw
    rw [cut_whole xs lo hi hw] at q
    exact q _ _ (.pure (.tup h rl))
  · rename_i n1
    obtain ⟨ys, h1, h2⟩ := R.bind_ok e
    cases h2
    obtain ⟨a, vs, rfl, rl, h⟩ := r.seq h1
    rcases h with h | ⟨_, h⟩
    · exact sl_list pins s σ H _ v vl vu lo hi sl Q I rx hs pl pu ⟨a, vs, rfl, h, fun p hp => q _ _ (.li hp (rl.cut lo hi))⟩
    · exact (n1 _ h).elim
/-! methods of lists -/
def rM1 (B : Wd) (f : M → M → R M) : V → List V → Hp → VK → Prop := fun x xs H Q => ∃ y Z ma mb m O1 O2, xs = [y] ∧ (∀ a, Z a → H a ≠ none) ∧ RM B Z H x ma O1 ∧ RM B Z H y mb O2 ∧ f ma mb = .ok m ∧ ∀ v H', New B Z H m v H' → Q v H'
theorem shaped_plain {d : D} (h : SeqAt.shaped d = true) : d.plain = true := PyData.plain_of_canLay0 d (SeqAt.canLay_of_shaped h)
theorem mt_indexM (hu : X.A.units + 100 < cLine) : MtR X "list.index" (rM1 (wd X) idxM) := by
  intro pins s σ H x xs v us Q I rx rxs ⟨y, Z, ma, mb, m, O1, O2, exs, zh, r1, r2, e, q⟩
  subst exs
  unfold idxM at e
  split at e
  case h_2 => cases e
  rename_i d
  obtain ⟨ys, h1, h2⟩ := R.bind_ok e
  obtain ⟨hc, h3⟩ := R.of_if h2
  simp only [Bool.and_eq_true] at hc
  cases hi : idxD ys d with
  | none => rw [hi] at h3; cases h3
  | some j =>
    rw [hi] at h3
    cases h3
    obtain ⟨a, vs, rfl, rl, h⟩ := r1.lst h1
    obtain ⟨hj, h4, h5⟩ := List.findIdx?_eq_some_iff_getElem.mp hi
    refine mt_indexD (by omega) pins s σ H _ _ v us Q I rx rxs ⟨a, y, d, ys, j, ys[j], rfl, rfl, .lst h (rl.dp (by simpa [PyData.plain] using shaped_plain hc.2)), r2.dp (m := .pu d) (shaped_plain hc.1), hc.2, hc.1, List.getElem?_eq_getElem hj, h4, fun m z' hm hz => ?_, q _ _ (.pure (.int _))⟩
    have hl : m < ys.length := by omega
    rw [List.getElem?_eq_getElem hl] at hz
    cases hz
    simpa using h5 m hm
theorem mt_countM (hu : X.A.units + 100 < cLine) : MtR X "list.count" (rM1 (wd X) cntM) := by
  intro pins s σ H x xs v us Q I rx rxs ⟨y, Z, ma, mb, m, O1, O2, exs, zh, r1, r2, e, q⟩
  subst exs
  unfold cntM at e
  split at e
  case h_2 => cases e
  rename_i d
  obtain ⟨ys, h1, h2⟩ := R.bind_ok e
  obtain ⟨hc, h3⟩ := R.of_if h2
  cases h3
  simp only [Bool.and_eq_true] at hc
  obtain ⟨a, vs, rfl, rl, h⟩ := r1.lst h1
  cases (show v = Value.ref a from rx)
  cases rxs with | cons ry rt =>
  cases rt
  obtain ⟨hp, hd⟩ := okD_tup hc.2
  obtain ⟨its, rv, p, hz⟩ := I.list h
  obtain ⟨as, hr⟩ := rl.reads I hp rv
  obtain ⟨bs, hb⟩ := r2.reads I (okD_plain hc.1) ry
  have hm : min (PyData.depthAll ys) (M.toD (.pu d)).depth ≤ PyData.depthAll ys := Nat.min_le_left _ _
  exact SeqAt.count_list_data p.isList (by simpa using hr) hb hp (okD_plain hc.1) (by omega) ⟨.int _, H, I.tok _, ⟨_, rfl⟩, q _ _ (.pure (.int _))⟩
end
end TR
set_option Elab.async false
set_option linter.all false
set_option maxHeartbeats 4000000
/-! d.get(k), d.get(k, x), whatever the keys -/
namespace TR
open PySem PySem.Spec PyProof.Rows L2
section
variable {X : Cx} {pins : List (Addr × Obj)} {σ : L2.St} {H : Hp} {s : Shared} {o e f : Expr} {apos cpos : Pos} {td ty tx : TE}
def IsDX (H : Hp) (a : Addr) : Prop := ∃ es ep, H a = some (dO a es ep)
theorem isDX_at {a : Addr} (I : Inv X pins σ H s) (d : IsDX H a) : s.TypeIs (.ref a) "dict" ∧ ∀ b, Value.ref a = .ref b → ∃ ob, s.heap.get? b = some ob ∧ ob.dict = none := by
  have key : ∀ {es ep}, s.heap.DictRaw a es ep → s.TypeIs (.ref a) "dict" ∧ ∀ b, Value.ref a = .ref b → ∃ ob, s.heap.get? b = some ob ∧ ob.dict = none := fun h => by
    refine ⟨h.typeIs, fun b q => ?_⟩
    cases q
    obtain ⟨ob, h1, h2, _⟩ := h
    exact ⟨ob, h1, h2.2.1⟩
  obtain ⟨es, ep, h⟩ := d
  exact key (raw_of I h)
def GetN (X : Cx) (H : Hp) (a : Addr) (y z : V) (Q : V → Hp → Prop) : Prop := (∃ ks c, DAE X H a ks ∧ y = kV c ∧ Q ((valV ks c).getD z) H) ∨
  ∃ xs k, DNE X H a xs ∧ TK X H y k ∧ ((∃ b u v, atKey xs (nkD k) = some (b, u) ∧ RelV v u ∧ Q v H) ∨ (atKey xs (nkD k) = none ∧ Q z H))
def tGetA (X : Cx) (td ty : TE) : TE := fun σ H Q => td σ H fun x H1 => ∃ a, x = .ref a ∧ IsDX H1 a ∧ ty σ H1 fun y H2 => GetN X H2 a y .non Q
def tGetB (X : Cx) (td ty tx : TE) : TE := fun σ H Q => td σ H fun x H1 => ∃ a, x = .ref a ∧ IsDX H1 a ∧ ty σ H1 fun y H2 => tx σ H2 fun z H3 => GetN X H3 a y z Q
theorem pe_getA (hu : X.A.units + 100 < cLine) (ho : PE X o td) (he : PE X e ty) (m : M1 X o "get" apos e cpos) : PE X (.Call (.Attribute o "get" apos) [e] [] cpos) (tGetA X td ty) := by
  refine ⟨fun pins s σ H Q I h => wpAny_Call_method m.base m.few m.line PySem.F.plainAttrs_dict PySem.F.slot_dict_get PySem.F.type_dict_get (thn (ho.run pins s σ H _ I h) ?_)⟩
  rintro u s1 ⟨x, H1, I1, rx, a, rfl, d, q1⟩
  cases (show u = Value.ref a from rx)
  obtain ⟨t1, t2⟩ := isDX_at I1 d
  refine ⟨t1, t2, ?_⟩
  rw [m.trees]
  refine Calls.callWith_builtin rfl (Calls.evalArgs_plain (Calls.spliced_cons (thn (he.run pins s1 σ H1 _ I1 q1) ?_)))
  rintro iv s2 ⟨y, H2, I2, ry, g⟩
  refine Calls.spliced_nil ?_
  rcases g with ⟨ks, c, g, rfl, q2⟩ | ⟨xs, k, hn, tk, g⟩
  · exact da_get1 I2 g ry fun w' s3 I3 rw' => ⟨_, H2, I3, rw', q2⟩
  · refine dn_get1 hu I2 hn tk ry fun s3 I3 => ?_
    rcases g with ⟨b, w, v, h1, h2, h3⟩ | ⟨h1, h3⟩
    · rw [h1]; exact ⟨v, H2, I3, h2, h3⟩
    · rw [h1]; exact ⟨.non, H2, I3, rfl, h3⟩
theorem pe_getB (hu : X.A.units + 100 < cLine) (ho : PE X o td) (he : PE X e ty) (hf : PE X f tx) (m : M2 X o "get" apos e f cpos) : PE X (.Call (.Attribute o "get" apos) [e, f] [] cpos) (tGetB X td ty tx) := by
  refine ⟨fun pins s σ H Q I h => wpAny_Call_method m.base m.few m.line PySem.F.plainAttrs_dict PySem.F.slot_dict_get PySem.F.type_dict_get (thn (ho.run pins s σ H _ I h) ?_)⟩
  rintro u s1 ⟨x, H1, I1, rx, a, rfl, d, q1⟩
  cases (show u = Value.ref a from rx)
  obtain ⟨t1, t2⟩ := isDX_at I1 d
  refine ⟨t1, t2, ?_⟩
  rw [m.trees]
  refine Calls.callWith_builtin rfl (Calls.evalArgs_plain (Calls.spliced_cons (thn (he.run pins s1 σ H1 _ I1 q1) ?_)))
  rintro iv s2 ⟨y, H2, I2, ry, q2⟩
  refine Calls.spliced_cons (thn (hf.run pins s2 σ H2 _ I2 q2) ?_)
  rintro fv s3 ⟨z, H3, I3, rz, g⟩
  refine Calls.spliced_nil ?_
  rcases g with ⟨ks, c, g, rfl, q3⟩ | ⟨xs, k, hn, tk, g⟩
  · exact da_get2 I3 g ry rz fun w' s4 I4 rw' => ⟨_, H3, I4, rw', q3⟩
  · refine dn_get2 hu I3 hn tk ry fun s4 I4 => ?_
    rcases g with ⟨b, w, v, h1, h2, h3⟩ | ⟨h1, h3⟩
    · rw [h1]; exact ⟨v, H3, I4, h2, h3⟩
    · rw [h1]; exact ⟨z, H3, I4, rz, h3⟩
/-- a fit key's look-up -/
theorem get_fit {Z Z2 : Zn} {O O2 : List Addr} {y z : V} {m : M} {d : D} {kvs : List (D × D)} {a : Addr} {Q : V → Hp → Prop} (r : RM (wd X) Z H (.ref a) m O) (he : m.dic = .ok kvs) (r2 : RM (wd X) Z2 H y (.pu d) O2) (hk : keyFit kvs d = true)
    (h1 : ∀ w d', dLook kvs d = some d' → Rp (wd X) Z H w d' → Q w H) (h2 : dLook kvs d = none → Q z H) : GetN X H a y z Q := by
  obtain ⟨a', ea, ⟨ks, k, ha, rk, rfl, rfl⟩ | ⟨xs, hn, rn, tk⟩⟩ := r.fit he r2 hk
  · cases ea
    refine .inl ⟨ks, k, ha, rfl, ?_⟩
    rcases rk.look k with ⟨w, d', h3, h4, h5⟩ | ⟨h3, h4⟩
    · rw [h3]; exact h1 w d' h4 h5
    · rw [h3]; exact h2 h4
  · cases ea
    refine .inr ⟨xs, d, hn, tk, ?_⟩
    rcases rn.look tk.1 with ⟨b, w, vv, d', h3, h4, h5, h6⟩ | ⟨h3, h4⟩
    · exact .inl ⟨b, w, vv, h3, h5, h1 vv d' h4 h6⟩
    · exact .inr ⟨h3, h2 h4⟩
theorem isDX_rm {Z : Zn} {O : List Addr} {v : V} {m : M} {kvs : List (D × D)} (r : RM (wd X) Z H v m O) (he : m.dic = .ok kvs) : ∃ a, v = .ref a ∧ IsDX H a := by
  obtain ⟨a, rfl, ⟨ks, ⟨es, ep, h, _⟩, _⟩ | ⟨es, ep, xs, h, _⟩⟩ := r.dic he
  · exact ⟨a, rfl, es, ep, h⟩
  · exact ⟨a, rfl, es, ep, h⟩
end
end TR
set_option Elab.async false
set_option linter.all false
set_option maxHeartbeats 4000000
/-! readings by runs; the parts of expressions -/
namespace TR
open PySem PySem.Spec PyProof.Rows L2
section
variable {B : Wd} {Z Z' Z0 : Zn} {H H' H0 : Hp} {σ : L2.St} {env env' env0 env1 env2 : Env} {Os Os' Os0 : List (List Addr)} {mu mu1 mu2 : List Nat} {v : V} {m : M} {d : D}
/-- behind a value that is data -/
def TPost (B : Wd) (mu : List Nat) (σ : L2.St) (Z : Zn) (H : Hp) (env : Env) (Os : List (List Addr)) (d : D) (env' : Env) (v : V) (H' : Hp) : Prop :=
  ∃ Z' Os', Sat B Z' σ H' env' Os' ∧ Step mu Z H env Os Z' H' env' Os' ∧ Rp B Z' H' v d
def Tx (B : Wd) (mu : List Nat) (run : Env → R (D × Env)) : TE := fun σ H Q =>
  ∃ Z env Os, Sat B Z σ H env Os ∧ ∃ d env', run env = .ok (d, env') ∧ ∀ v H', TPost B mu σ Z H env Os d env' v H' → Q v H'
/-- behind a list of data -/
def LPost (B : Wd) (mu : List Nat) (σ : L2.St) (Z : Zn) (H : Hp) (env : Env) (Os : List (List Addr)) (ds : List D) (env' : Env) (vs : List V) (H' : Hp) : Prop :=
  ∃ Z' Os', Sat B Z' σ H' env' Os' ∧ Step mu Z H env Os Z' H' env' Os' ∧ RpL B Z' H' vs ds
def Lx (B : Wd) (mu : List Nat) (run : Env → R (List D × Env)) : TA := fun σ H Q =>
  ∃ Z env Os, Sat B Z σ H env Os ∧ ∃ ds env', run env = .ok (ds, env') ∧ ∀ vs H', LPost B mu σ Z H env Os ds env' vs H' → Q vs H'
/-- behind a test -/
def BPost (B : Wd) (mu : List Nat) (σ : L2.St) (Z : Zn) (H : Hp) (env : Env) (Os : List (List Addr)) (env' : Env) (H' : Hp) : Prop :=
  ∃ Z' Os', Sat B Z' σ H' env' Os' ∧ Step mu Z H env Os Z' H' env' Os'
def Bx (B : Wd) (mu : List Nat) (run : Env → R (Bool × Env)) : TT := fun σ H Q =>
  ∃ Z env Os, Sat B Z σ H env Os ∧ ∃ b env', run env = .ok (b, env') ∧ ∀ H', BPost B mu σ Z H env Os env' H' → Q b H'
theorem Rx.go {run : Env → R (M × List Nat × Env)} {Q : VK} (q : Sat B Z σ H env Os) {rs : List Nat} (e : run env = .ok (m, rs, env')) (h : ∀ v H', Post B mu σ Z H env Os m rs env' v H' → Q v H') : Rx B mu run σ H Q :=
  ⟨Z, env, Os, q, m, rs, env', e, h⟩
/-- a pure result as Post -/
theorem TPost.post (p : TPost B mu σ Z H env Os d env' v H') : Post B mu σ Z H env Os (.pu d) [] env' v H' := by
  obtain ⟨Z', Os', q, s, r⟩ := p
  exact ⟨Z', Os', [], q, s, .pu r, fun _ => ⟨by simpa using q.nd, fun a h => nomatch h⟩, fun h => (h rfl).elim, List.nodup_nil⟩
theorem Post.mono (p : Post B mu1 σ Z H env Os m rs env' v H') (h : ∀ i ∈ mu1, i ∈ mu) : Post B mu σ Z H env Os m rs env' v H' := by
  obtain ⟨Z', Os', O, q, s, r, ro⟩ := p
  exact ⟨Z', Os', O, q, s.mono h, r, ro⟩
theorem Post.pure (p : Post B mu σ Z H env Os (.pu d) rs env' v H') : TPost B mu σ Z H env Os d env' v H' := by
  obtain ⟨Z', Os', O, q, s, r, ro⟩ := p
  cases r with | pu r => exact ⟨Z', Os', q, s, r⟩
theorem TPost.mono (p : TPost B mu1 σ Z H env Os d env' v H') (h : ∀ i ∈ mu1, i ∈ mu) : TPost B mu σ Z H env Os d env' v H' := by
  obtain ⟨Z', Os', q, s, r⟩ := p
  exact ⟨Z', Os', q, s.mono h, r⟩
theorem BPost.mono (p : BPost B mu1 σ Z H env Os env' H') (h : ∀ i ∈ mu1, i ∈ mu) : BPost B mu σ Z H env Os env' H' := by
  obtain ⟨Z', Os', q, s⟩ := p
  exact ⟨Z', Os', q, s.mono h⟩
theorem app_sub {a b mu : List Nat} (h : ∀ i ∈ a ++ b, i ∈ mu) : (∀ i ∈ a, i ∈ mu) ∧ ∀ i ∈ b, i ∈ mu := ⟨fun i hi => h i (List.mem_append_left _ hi), fun i hi => h i (List.mem_append_right _ hi)⟩
/-- one value, then an operation -/
theorem Rx.one {r1 : Env → R (M × List Nat × Env)} {f : M → R M} {Q : VK} (q : Sat B Z σ H env Os) {ma m : M} {ra : List Nat} {e1 : Env} (h1 : r1 env = .ok (ma, ra, e1)) (h3 : f ma = .ok m)
    (h : ∀ v H', Post B mu1 σ Z H env Os m [] e1 v H' → Q v H') :
    Rx B mu1 r1 σ H fun x H1 => ∃ Z ma m O, (∀ a, Z a → H1 a ≠ none) ∧ RM B Z H1 x ma O ∧ f ma = .ok m ∧ ∀ v H', New B Z H1 m v H' → Q v H' :=
  Rx.go q h1 fun x H1 ⟨Z1, Os1, O1, q1, s1, r, ro1⟩ => ⟨Z1, ma, m, O1, q1.zh, r, h3, fun v H' n => h v H' (n.post q1 s1)⟩
/-- two values, then an operation -/
theorem Rx.two {r1 r2 : Env → R (M × List Nat × Env)} {f : M → M → R M} {Q : VK} (q : Sat B Z σ H env Os) {ma mb m : M} {ra rb : List Nat} {e1 e2 : Env} (h1 : r1 env = .ok (ma, ra, e1)) (h3 : r2 e1 = .ok (mb, rb, e2)) (ap : apart ra mu2 = true) (h5 : f ma mb = .ok m)
    (h : ∀ v H', Post B (mu1 ++ mu2) σ Z H env Os m [] e2 v H' → Q v H') :
    Rx B mu1 r1 σ H fun x H1 => Rx B mu2 r2 σ H1 fun y H2 => rOp B f x y H2 Q := by
  refine Rx.go q h1 fun x H1 ⟨Z1, Os1, O1, q1, s1, ra1, ro1⟩ => Rx.go q1 h3 fun y H2 ⟨Z2, Os2, O2, q2, s2, ra2, ro2⟩ => ?_
  exact ⟨Z2, ma, mb, m, O1, O2, q2.zh, carry q1 ra1 ro1 s2 ap, ra2, h5, fun v H' n => h v H' (n.post q2 (s1.trans s2 (fun i hi => List.mem_append_left _ hi) fun i hi => List.mem_append_right _ hi))⟩
/-! ### a value taken for good -/
/-- addresses given up: they are data now -/
theorem Sat.give {O : List Addr} (q : Sat B Z σ H env Os) (nd : (O ++ Os.flatten).Nodup) (th : ∀ a ∈ O, H a ≠ none) : Sat B (fun a => Z a ∨ a ∈ O) σ H env Os where
  len1 := q.len1
  len2 := q.len2
  val := fun i m e => let ⟨v, O', h1, h2, r⟩ := q.val i m e; ⟨v, O', h1, h2, r.stay .refl (fun a z => .inl z) fun a o _ h => h⟩
  emp := q.emp
  nd := q.nd
  nz := fun a ha z => z.elim (q.nz a ha) fun h => (List.nodup_append.mp nd).2.2 a h a ha rfl
  zh := fun a z => z.elim (q.zh a) (th a)
theorem RM.ne {v : V} {m : M} {O : List Addr} (r : RM B Z H v m O) : ∀ a ∈ O, H a ≠ none := fun a ha => by
  obtain ⟨o, e⟩ := r.there a ha
  rw [e]; simp
/-- a slot's content put another way: Os at i emptied -/
theorem flat_set_nil {Os : List (List Addr)} {i : Nat} {a : Addr} (h : a ∈ (Os.set i []).flatten) : a ∈ Os.flatten ∧ ∀ O, Os[i]? = some O → Os.flatten.Nodup → a ∉ O := by
  obtain ⟨j, O, h1, h2⟩ := mem_flat.mp h
  by_cases hj : i = j
  · subst hj
    by_cases hl : i < Os.length
    · rw [List.getElem?_set_self hl] at h1; cases h1; cases h2
    · rw [List.getElem?_eq_none (by rw [List.length_set]; omega)] at h1; cases h1
  · rw [List.getElem?_set_ne hj] at h1
    refine ⟨mem_flat.mpr ⟨j, O, h1, h2⟩, fun O' hO nd ha => ?_⟩
    exact flat_apart nd hj hO h1 ha h2
where
  flat_apart : ∀ {Os : List (List Addr)} {i j : Nat} {O O' : List Addr} {a : Addr}, Os.flatten.Nodup → i ≠ j → Os[i]? = some O → Os[j]? = some O' → a ∈ O → a ∈ O' → False
    | [], i, j, O, O', a, _, _, h, _, _, _ => by simp at h
    | P :: Os, 0, 0, _, _, _, _, hn, _, _, _, _ => hn rfl
    | P :: Os, 0, j + 1, O, O', a, nd, _, h1, h2, ha, hb => by
      simp at h1 h2; subst h1
      rw [List.flatten_cons] at nd
      exact (List.nodup_append.mp nd).2.2 a ha a (mem_flat.mpr ⟨j, O', h2, hb⟩) rfl
    | P :: Os, i + 1, 0, O, O', a, nd, _, h1, h2, ha, hb => by
      simp at h1 h2; subst h2
      rw [List.flatten_cons] at nd
      exact (List.nodup_append.mp nd).2.2 a hb a (mem_flat.mpr ⟨i, O, h1, ha⟩) rfl
    | P :: Os, i + 1, j + 1, O, O', a, nd, hn, h1, h2, ha, hb => by
      simp at h1 h2
      rw [List.flatten_cons] at nd
      exact flat_apart (List.nodup_append.mp nd).2.1 (fun e => hn (by rw [e])) h1 h2 ha hb
theorem nodup_set_nil : ∀ {Os : List (List Addr)} {i : Nat}, Os.flatten.Nodup → (Os.set i []).flatten.Nodup
  | [], i, h => by simpa using h
  | P :: Os, 0, h => by
    simp only [List.set_cons_zero, List.flatten_cons, List.nil_append]
    rw [List.flatten_cons] at h
    exact (List.nodup_append.mp h).2.1
  | P :: Os, i + 1, h => by
    simp only [List.set_cons_succ, List.flatten_cons]
    rw [List.flatten_cons] at h
    obtain ⟨h1, h2, h3⟩ := List.nodup_append.mp h
    refine List.nodup_append.mpr ⟨h1, nodup_set_nil h2, fun a ha b hb => h3 a ha b (flat_set_nil hb).1⟩
theorem getElem?_set_or {α : Type} {l : List α} {i j : Nat} {x y : α} (h : (l.set i x)[j]? = some y) : (j = i ∧ y = x ∧ i < l.length) ∨ (j ≠ i ∧ l[j]? = some y) := by
  by_cases e : i = j
  · subst e
    by_cases hl : i < l.length
    · rw [List.getElem?_set_self hl] at h; cases h; exact .inl ⟨rfl, rfl, hl⟩
    · rw [List.getElem?_eq_none (by rw [List.length_set]; omega)] at h; cases h
  · rw [List.getElem?_set_ne e] at h
    exact .inr ⟨fun z => e z.symm, h⟩
/-- a slot's own object becomes data where it is -/
theorem Sat.freeze {i : Nat} {w : M} {Oi : List Addr} (q : Sat B Z σ H env Os) (e : env[i]? = some (some w)) (eo : Os[i]? = some Oi) :
    Sat B (fun a => Z a ∨ a ∈ Oi) σ H (env.set i (some (.pu w.toD))) (Os.set i []) where
  len1 := by rw [List.length_set, List.length_set]; exact q.len1
  len2 := by rw [List.length_set]; exact q.len2
  val := fun j m h => by
    rcases getElem?_set_or h with ⟨rfl, h1, h2⟩ | ⟨hj, h1⟩
    · cases h1
      obtain ⟨v, O, h3, h4, r⟩ := q.val j w e
      rw [eo] at h4; cases h4
      exact ⟨v, [], h3, by rw [List.getElem?_set_self (by rw [q.len1]; exact h2)], .pu (r.view (fun a z => .inl z) fun a h => .inr h)⟩
    · obtain ⟨v, O, h3, h4, r⟩ := q.val j m h1
      exact ⟨v, O, h3, by rw [List.getElem?_set_ne (Ne.symm hj)]; exact h4, r.stay .refl (fun a z => .inl z) fun a o _ h => h⟩
  emp := fun j h => by
    rcases getElem?_set_or h with ⟨rfl, h1, h2⟩ | ⟨hj, h1⟩
    · cases h1
    · rw [List.getElem?_set_ne (Ne.symm hj)]; exact q.emp j h1
  nd := nodup_set_nil q.nd
  nz := fun a ha z => by
    obtain ⟨h1, h2⟩ := flat_set_nil ha
    exact z.elim (q.nz a h1) (h2 Oi eo q.nd)
  zh := fun a z => z.elim (q.zh a) fun h => q.there (mem_flat.mpr ⟨i, Oi, eo, h⟩)
theorem Step.freeze {i : Nat} {w : M} {Oi : List Addr} (hi : i ∈ mu) (q : Sat B Z' σ H' env' Os') (eo : Os'[i]? = some Oi) (s : Step mu Z H env Os Z' H' env' Os') :
    Step mu Z H env Os (fun a => Z' a ∨ a ∈ Oi) H' (env'.set i w) (Os'.set i []) where
  elen := by rw [List.length_set]; exact s.elen
  zz := fun a z => .inl (s.zz a z)
  zn := fun a z => z.elim (s.zn a) fun h => .inr (s.on a (mem_flat.mpr ⟨i, Oi, eo, h⟩))
  on := fun a ha => s.on a (flat_set_nil ha).1
  keep := s.keep
  dom := s.dom
  slot := fun j hj => by
    have hn : i ≠ j := fun e => hj (e ▸ hi)
    rw [List.getElem?_set_ne hn, List.getElem?_set_ne hn]
    exact s.slot j hj
theorem Step.give {O : List Addr} (s : Step mu Z H env Os Z' H' env' Os') (h : ∀ a ∈ O, H a = none ∨ a ∈ Os.flatten) : Step mu Z H env Os (fun a => Z' a ∨ a ∈ O) H' env' Os' :=
  ⟨s.elen, fun a z => .inl (s.zz a z), fun a z => z.elim (s.zn a) fun k => .inr (h a k), s.on, s.keep, s.dom, s.slot⟩
theorem muT_of (p : E) : (∀ i ∈ muE p, i ∈ muT p) ∧ ∀ i, p = .var i → i ∈ muT p := by
  cases p <;> first | exact ⟨fun i h => h, fun i h => by cases h⟩ | (simp [muE, muT])
theorem Env.get_ok {env : Env} {i : Nat} {m : M} (h : env.get i = .ok m) : env[i]? = some (some m) := by
  unfold Env.get at h
  split at h
  · cases h; assumption
  · cases h
theorem ev_var {G : List Fn} {i : Nat} {env env' : Env} {m : M} {rs : List Nat} (h : ev G (.var i) env = .ok (m, rs, env')) : env' = env ∧ env[i]? = some (some m) ∧ ((∃ d, m = .pu d ∧ rs = []) ∨ ((∀ d, m ≠ .pu d) ∧ rs = [i])) := by
  simp only [ev] at h
  obtain ⟨m', h1, h2⟩ := R.bind_ok h
  have := Env.get_ok h1
  split at h2
  · cases h2; exact ⟨rfl, this, .inl ⟨_, rfl, rfl⟩⟩
  · rename_i n1
    cases h2; exact ⟨rfl, this, .inr ⟨fun d hd => n1 d hd, rfl⟩⟩
/-- taking: what ev gives becomes data -/
theorem take_post {G : List Fn} {p : E} {rs : List Nat} (he : ev G p env = .ok (m, rs, env1)) (ht : takeR p (m, rs, env1) = .ok (d, env2)) (hp : Post B (muE p) σ Z H env Os m rs env1 v H') : TPost B (muT p) σ Z H env Os d env2 v H' := by
  obtain ⟨Z1, Os1, O, q, s, r, ro⟩ := hp
  have hm := (muT_of p).1
  unfold takeR at ht
  split at ht
  · rename_i d' rs' env'' heq
    cases heq; cases ht
    cases r with | pu r => exact ⟨Z1, Os1, q, s.mono hm, r⟩
  · rename_i n1 heq
    cases heq
    cases ht
    exact ⟨_, Os1, q.give (ro.1 rfl).1 r.ne, (s.mono hm).give fun a ha => ((ro.1 rfl).2 a ha).2, r.view (fun a z => .inl z) fun a h => .inr h⟩
  · rename_i n1 heq
    cases heq
    split at ht
    · rename_i i
      cases ht
      obtain ⟨e1, e2, e3⟩ := ev_var he
      cases e1
      rcases e3 with ⟨d, e4, e5⟩ | ⟨e4, e5⟩
      · cases e5
      · cases e5
        obtain ⟨w, Oi, h3, ho, hr⟩ := q.val _ m e2
        refine ⟨_, _, q.freeze e2 ho, Step.freeze ((muT_of (.var _)).2 _ rfl) q ho (s.mono hm), r.view (fun a z => .inl z) fun a ha => ?_⟩
        obtain ⟨j, hj, Oj, h1, h2⟩ := ro.2.1 (by simp) a ha
        simp at hj; subst hj
        rw [ho] at h1; cases h1
        exact .inr h2
    · cases ht
end
end TR
set_option Elab.async false
set_option linter.all false
set_option maxHeartbeats 4000000
/-! each form of an expression by its parts -/
namespace TR
open PySem PySem.Spec PyProof.Rows L2
def visB (sc : Scope) (x : Str) : Bool := match sc.names.lookup x with
  | some .local => true
  | some .cell => true
  | some .free => true
  | _ => false
def glB (sc : Scope) (x : Str) : Bool := decide (sc.names.lookup x = some .globalImplicit)
def noDbg (x : Str) : Bool := !(x == ("__debug__" : Str)) && !(x == ("__classdict__" : Str)) && !(x == ("__name__" : Str))
def noStar : Expr → Bool
  | .Starred .. => false
  | _ => true
def noSet : Expr → Bool
  | .Set .. => false
  | _ => true
def plainIx : Expr → Bool
  | .Slice .. => false
  | _ => true
/-- a test in the plain way: what it gives, then its truth -/
def plainT : Expr → Bool
  | .UnaryOp .. => false
  | .BoolOp .. => false
  | .IfExp .. => false
  | .Compare .. => false
  | _ => true
def bnames : List Str := ["len", "abs", "max", "min", "sum", "any", "all", "sorted", "list", "tuple", "set", "int", "bool", "str", "isinstance", "range", "enumerate", "zip", "reversed"]
/-- behind a call of a def: new data, a new value -/
def NewC (B : Wd) (Z : Zn) (H : Hp) (m : M) (v : V) (H' : Hp) : Prop :=
  Grow H H' ∧ ∃ Z' O, (∀ a, Z a → Z' a) ∧ (∀ a, Z' a → (Z a ∨ H a = none) ∧ H' a ≠ none) ∧ RM B Z' H' v m O ∧ O.Nodup ∧ ∀ a ∈ O, H a = none ∧ ¬ Z' a
/-- what a def of data promises -/
def spP (B : Wd) (n : Nat) (f : FP) : Sp := fun vs H Q _ => vs.length = n ∧ ∃ Z ds m, (∀ a, Z a → H a ≠ none) ∧ RpL B Z H vs ds ∧ f ds = .ok m ∧ ∀ v H', NewC B Z H m v H' → Q v H'
/-- behind a call of a def that writes what it is given: H ahead, O its own addresses -/
def NewW (B : Wd) (Z : Zn) (H : Hp) (O : List Addr) (w : V) (m m1 : M) (v : V) (H' : Hp) : Prop :=
  (∀ a o, H a = some o → a ∉ O → H' a = some o) ∧ (∀ a, H' a = none → H a = none) ∧ ∃ Z' O' O1, (∀ a, Z a → Z' a) ∧ (∀ a, Z' a → (Z a ∨ H a = none ∨ a ∈ O) ∧ H' a ≠ none) ∧ RM B Z' H' v m O' ∧ RM B Z' H' w m1 O1 ∧
    (O' ++ O1).Nodup ∧ ∀ a ∈ O' ++ O1, (H a = none ∨ a ∈ O) ∧ ¬ Z' a
/-- .. its first parameter is written -/
def spW (B : Wd) (n : Nat) (f : FW) : Sp := fun vs H Q _ => vs.length = n ∧ ∃ Z m0 x ds m m1 O us, (∀ a, Z a → H a ≠ none) ∧ vs = x :: us ∧ RpL B Z H us ds ∧ RM B Z H x m0 O ∧ O.Nodup ∧ (∀ a ∈ O, ¬ Z a) ∧ f m0 ds = .ok (m, m1) ∧
  ∀ v H', NewW B Z H O x m m1 v H' → Q v H'
def FnAt (X : Cx) (x : Str) (n : Nat) : Fn → Prop
  | .pr f => ∃ (j : Nat) (a : Addr) (fd : FuncData) (ps : List Str), X.mg x = some (.ref a) ∧ PySem.W.keepIn X.K (.ref a) = true ∧ Binds X.K fd ps [] ∧ ps.length = n ∧ FnOk X.prog X.w X.K X.mg X.base CX0 j a fd ps (spP (wd X) n f) ∧ Room j X.A
  | .wr f => ∃ (j : Nat) (a : Addr) (fd : FuncData) (ps : List Str), X.mg x = some (.ref a) ∧ PySem.W.keepIn X.K (.ref a) = true ∧ Binds X.K fd ps [] ∧ ps.length = n ∧ FnOk X.prog X.w X.K X.mg X.base CX0 j a fd ps (spW (wd X) n f) ∧ Room j X.A
structure Ctx where
  N : List Str
  sc : Scope
  fn : List (Str × Nat)
  con : List (Str × D)
  loc : List Str
structure XOk (G : List Fn) (C : Ctx) (X : Cx) : Prop where
  N : X.N = C.N
  nd : C.N.Nodup
  sc : X.env.scope = C.sc
  calm : X.calm = true
  hu : X.A.units + 100 < cLine
  hd : X.A.handled = none
  bl : ∀ x ∈ bnames, X.mg x = none
  fns : ∀ (k : Nat) (x : Str) (n : Nat) (f : Fn), C.fn[k]? = some (x, n) → G[k]? = some f → FnAt X x n f
  loc : ∀ x ∈ C.loc, Loc X.env.scope x ∧ (X.fn x = true ∨ X.env.scope.names.lookup x = some .local)
  con : ∀ (k : Nat) (x : Str) (d : D), C.con[k]? = some (x, d) → ∃ v u, X.mg x = some u ∧ RelV v u ∧ ∀ Z H, Rp (wd X) Z H v d
section
variable {G : List Fn} {C : Ctx} {X : Cx} {B : Wd} {Z Z' : Zn} {H H' : Hp} {σ : L2.St} {env env' : Env} {Os Os' : List (List Addr)} {mu : List Nat} {v : V} {m : M} {d : D}
theorem starEach_no {e : Expr} {es : List Expr} {env : PySem.Env} (h : noStar e = true) : starEach (e :: es) env = (false, eval e env) :: starEach es env := by
  cases e <;> first | rfl | cases h
theorem backTo_no {pos : Pos} {env : PySem.Env} : ∀ {es : List Expr}, es.all noStar = true → (backTo pos (starEach es env)).any (·.1) = false
  | [], _ => rfl
  | e :: es, h => by
    simp only [List.all_cons, Bool.and_eq_true] at h
    rw [starEach_no h.1]
    show (false || (backTo pos (starEach es env)).any (·.1)) = false
    rw [backTo_no h.2]; rfl
theorem behind_no {e : Expr} {op : CmpOp} (h : noSet e = true) : behindInMarks op e = false := by
  cases e <;> first | rfl | cases h
theorem plainIx_ok {e : Expr} (h : plainIx e = true) : PlainIx e := by
  intro o i
  cases e <;> first | rfl | cases h
theorem vis_of {x : Str} (ok : XOk G C X) (h : visB C.sc x = true) : Vis X.env.scope x := by
  rw [ok.sc]
  unfold visB at h
  split at h
  · exact .inl (by assumption)
  · exact .inr (.inl (by assumption))
  · exact .inr (.inr (by assumption))
  · cases h
theorem gl_of {x : Str} (ok : XOk G C X) (h : glB C.sc x = true) : Gl X x := by
  unfold glB at h
  show X.env.scope.names.lookup x = _
  rw [ok.sc]
  exact of_decide_eq_true h
theorem noDbg_of {x : Str} (h : noDbg x = true) : (x == ("__debug__" : Str)) = false ∧ (x == ("__classdict__" : Str)) = false ∧ x ≠ "__name__" := by
  unfold noDbg at h
  simp only [Bool.and_eq_true, Bool.not_eq_true'] at h
  refine ⟨h.1.1, h.1.2, fun e => ?_⟩
  subst e
  simp at h
theorem flat_mem : ∀ {Os : List (List Addr)} {O : List Addr}, Os.flatten.Nodup → O ∈ Os → O.Nodup
  | P :: Os, O, h, hm => by
    rw [List.flatten_cons] at h
    rcases List.mem_cons.mp hm with e | hm
    · subst e; exact (List.nodup_append.mp h).1
    · exact flat_mem (List.nodup_append.mp h).2.1 hm
/-! ### names, constants -/
theorem Rx.val {run : Env → R (M × List Nat × Env)} {Q : VK} (h : Rx B mu run σ H Q) (e : ∀ env, run env = .ok (.pu d, [], env)) (r : ∀ Z, Rp B Z H v d) : Q v H := by
  obtain ⟨Z, env, Os, q, m, rs, env', h1, h2⟩ := h
  rw [e] at h1
  cases h1
  exact h2 v H ((New.pure (r Z)).post q Step.refl)
def chkC : D → Const → Bool
  | .none, .none => true
  | .bool b, .bool c => b == c
  | .int i, .int j => decide (i = j)
  | .str x, .str y => decide (x = y)
  | _, _ => false
theorem k_cst {c : Const} {j : Nat} {pos : Pos} (h : chkC d c = true) : PE X (.Constant c j pos) (Rx (wd X) (muE (.cst d)) (ev G (.cst d))) := by
  unfold chkC at h
  split at h
  · exact PE.of pe_non fun σ H Q h => h.val (fun _ => rfl) fun _ => .non
  · have := eq_of_beq h; subst this
    exact PE.of pe_bl fun σ H Q h => h.val (fun _ => rfl) fun _ => .bl _
  · have := of_decide_eq_true h; subst this
    exact PE.of pe_int fun σ H Q h => h.val (fun _ => rfl) fun _ => .int _
  · have := of_decide_eq_true h; subst this
    exact PE.of pe_str fun σ H Q h => h.val (fun _ => rfl) fun _ => .str _
  · cases h
theorem k_var (ok : XOk G C X) {i : Nat} {x : Str} {pos : Pos} (hN : C.N[i]? = some x) (hv : visB C.sc x = true) (hd : noDbg x = true) : PE X (.Name x pos) (Rx (wd X) (muE (.var i)) (ev G (.var i))) := by
  refine PE.of (pe_var (i := i) (by rw [ok.N]; exact hN) (vis_of ok hv) (noDbg_of hd).1 (noDbg_of hd).2.1) fun σ H Q ⟨Z, env, Os, q, m, rs, env', h1, h2⟩ => ?_
  obtain ⟨e1, e2, e3⟩ := ev_var h1
  cases e1
  obtain ⟨v, O, h3, h4, r⟩ := q.val i m e2
  refine ⟨v, h3, h2 v H ⟨Z, Os, O, q, Step.refl, r, ?_⟩⟩
  rcases e3 with ⟨d, rfl, rfl⟩ | ⟨e3, rfl⟩
  · cases r
    exact ⟨fun _ => ⟨by simpa using q.nd, fun a h => nomatch h⟩, fun h => (h rfl).elim, List.nodup_nil⟩
  · refine ⟨fun h => (nomatch h), fun _ a ha => ⟨i, List.mem_cons_self, O, h4, ha⟩, ?_⟩
    have := q.nd
    exact flat_mem this (List.mem_of_getElem? h4)
theorem k_glb (ok : XOk G C X) {k : Nat} {x : Str} {pos : Pos} (hN : C.con[k]? = some (x, d)) (hg : glB C.sc x = true) (hd : noDbg x = true) : PE X (.Name x pos) (Rx (wd X) (muE (.glb k d)) (ev G (.glb k d))) := by
  obtain ⟨v, u, h1, h2, h3⟩ := ok.con k x d hN
  exact PE.of (pe_glob (gl_of ok hg) h1 h2 (noDbg_of hd).1) fun σ H Q h => h.val (fun _ => rfl) fun Z => h3 Z H
/-! ### operators -/
section
variable {a b c : E} {xa xb xc : Expr} {pos : Pos}
theorem k_bin (o : BOp) (ha : PE X xa (Rx (wd X) (muE a) (ev G a))) (hb : PE X xb (Rx (wd X) (muE b) (ev G b))) : PE X (.BinOp xa (opOf o) xb pos) (Rx (wd X) (muE (.bin o a b)) (ev G (.bin o a b))) := by
  refine PE.of (pe_op (or_bin o) ha hb) fun σ H Q ⟨Z, env, Os, q, m, rs, env', h1, h2⟩ => ?_
  simp only [ev] at h1
  simp only [muE] at h2
  obtain ⟨⟨ma, ra, e1⟩, e1, h1⟩ := R.bind_ok h1
  obtain ⟨⟨mb, rb, e2⟩, e2, h1⟩ := R.bind_ok h1
  obtain ⟨ap, h1⟩ := R.of_if h1
  obtain ⟨_, e3, h1⟩ := R.bind_ok h1
  cases h1
  exact Rx.two q e1 e2 ap e3 h2
theorem cmp_run {o : COp} {ma mb : M} {k : Bool} (h : cmpD o ma mb = .ok k) : (do
    let c ← cmpD o ma mb
    R.ok (M.pu (.bool c))) = .ok (.pu (.bool k)) := by rw [h]; rfl
theorem k_cmp (ok : XOk G C X) (o : COp) (ha : PE X xa (Rx (wd X) (muE a) (ev G a))) (hb : PE X xb (Rx (wd X) (muE b) (ev G b))) (hs : noSet xb = true) : PE X (.Compare xa [cmpOf o] [xb] pos) (Rx (wd X) (muE (.cmp o a b)) (ev G (.cmp o a b))) := by
  refine PE.of (pe_cmpR (or_cmp ok.hu o) ha hb (behind_no hs)) fun σ H Q ⟨Z, env, Os, q, m, rs, env', h1, h2⟩ => ?_
  simp only [ev] at h1
  simp only [muE] at h2
  obtain ⟨⟨ma, ra, e1⟩, e1, h1⟩ := R.bind_ok h1
  obtain ⟨⟨mb, rb, e2⟩, e2, h1⟩ := R.bind_ok h1
  obtain ⟨ap, h1⟩ := R.of_if h1
  obtain ⟨_, e3, h1⟩ := R.bind_ok h1
  cases h1
  exact Rx.two q e1 e2 ap (cmp_run e3) h2
/-- a test's run from a value's run -/
def bRun (G : List Fn) (p : E) : Env → R (Bool × Env) := fun env => do
  let r ← ev G p env
  boolR r
theorem boolR_ok {r : M × List Nat × Env} {c : Bool} {env' : Env} (h : boolR r = .ok (c, env')) : ∃ rs, r = (.pu (.bool c), rs, env') := by
  unfold boolR at h
  split at h
  · cases h; exact ⟨_, rfl⟩
  · cases h
theorem bx_of {p : E} {Q : Bool → Hp → Prop} (h : Bx B (muE p) (bRun G p) σ H Q) : Rx B (muE p) (ev G p) σ H fun x H1 => ∃ c, x = .bl c ∧ Q c H1 := by
  obtain ⟨Z, env, Os, q, c, env', h1, h2⟩ := h
  obtain ⟨r, h3, h4⟩ := R.bind_ok h1
  obtain ⟨rs, rfl⟩ := boolR_ok h4
  refine Rx.go q h3 fun v H' p => ?_
  obtain ⟨Z', Os', q', s', r'⟩ := p.pure
  cases r'
  exact ⟨c, rfl, h2 H' ⟨Z', Os', q', s'⟩⟩
theorem t_val {p : E} {x : Expr} (h : PE X x (Rx (wd X) (muE p) (ev G p))) (hp : plainT x = true) : PT X x (Bx (wd X) (muE p) (bRun G p)) := by
  refine PT.of (pt_val h fun whole => ?_) fun σ H Q h => bx_of h
  cases x <;> first | rfl | cases hp
theorem t_cmp (ok : XOk G C X) (o : COp) (ha : PE X xa (Rx (wd X) (muE a) (ev G a))) (hb : PE X xb (Rx (wd X) (muE b) (ev G b))) (hs : noSet xb = true) : PT X (.Compare xa [cmpOf o] [xb] pos) (Bx (wd X) (muE (.cmp o a b)) (bRun G (.cmp o a b))) := by
  refine PT.of (pt_cmpR (or_cmp ok.hu o) ha hb (behind_no hs)) fun σ H Q h => ?_
  obtain ⟨Z, env, Os, q, m, rs, env', h1, h2⟩ := bx_of h
  simp only [ev] at h1
  simp only [muE] at h2
  obtain ⟨⟨ma, ra, e1⟩, e1, h1⟩ := R.bind_ok h1
  obtain ⟨⟨mb, rb, e2⟩, e2, h1⟩ := R.bind_ok h1
  obtain ⟨ap, h1⟩ := R.of_if h1
  obtain ⟨_, e3, h1⟩ := R.bind_ok h1
  cases h1
  exact Rx.two q e1 e2 ap (cmp_run e3) h2
theorem chn_run {o1 o2 : COp} {Q : VK} (h : Rx B (muE (.chn o1 o2 a b c)) (ev G (.chn o1 o2 a b c)) σ H Q) :
    tChain (rOp B fun x y => do let c ← cmpD o1 x y; R.ok (M.pu (.bool c))) (rOp B fun x y => do let c ← cmpD o2 x y; R.ok (M.pu (.bool c))) (Rx B (muE a) (ev G a)) (Rx B (muE b) (ev G b)) (Rx B (muE c) (ev G c)) σ H Q := by
  obtain ⟨Z, env, Os, q, m, rs, env', h1, h2⟩ := h
  simp only [ev] at h1
  simp only [muE] at h2
  obtain ⟨⟨ma, ra, e1⟩, e1, h1⟩ := R.bind_ok h1
  obtain ⟨⟨mb, rb, e2⟩, e2, h1⟩ := R.bind_ok h1
  obtain ⟨ap, h1⟩ := R.of_if h1
  obtain ⟨k, e3, h1⟩ := R.bind_ok h1
  simp only [Bool.and_eq_true] at ap
  refine Rx.go q e1 fun x H1 ⟨Z1, Os1, O1, q1, s1, r1, ro1⟩ => Rx.go q1 e2 fun y H2 ⟨Z2, Os2, O2, q2, s2, r2, ro2⟩ => ?_
  refine ⟨Z2, ma, mb, .pu (.bool k), O1, O2, q2.zh, carry q1 r1 ro1 s2 ap.1, r2, cmp_run e3, fun z H3 n => ?_⟩
  have g := n.1
  have hz : z = .bl k := by
    obtain ⟨_, O, r, _⟩ := n
    exact r.boo
  have s3 := (s1.trans s2 (mu := muE a ++ muE b ++ muE c) (fun i hi => List.mem_append_left _ (List.mem_append_left _ hi)) fun i hi => List.mem_append_left _ (List.mem_append_right _ hi)).grow g q2
  refine ⟨k, hz, ?_⟩
  cases k with
  | false =>
    rw [if_neg (by simp)]
    rw [if_neg (by simp)] at h1
    cases h1
    exact h2 _ _ ((New.pure (.bl false)).post (q2.grow g) s3)
  | true =>
    rw [if_pos rfl]
    rw [if_pos rfl] at h1
    obtain ⟨⟨mc, rc, e4⟩, e5, h1⟩ := R.bind_ok h1
    obtain ⟨k2, e6, h1⟩ := R.bind_ok h1
    cases h1
    refine Rx.go (q2.grow g) e5 fun w H4 ⟨Z4, Os4, O4, q4, s4, r4, ro4⟩ => ?_
    refine ⟨Z4, mb, mc, _, O2, O4, q4.zh, carry (q2.grow g) (r2.stay g.stay (fun _ z => z) fun a o _ h => g a o h) ro2 s4 ap.2, r4, cmp_run e6, fun v H' n => h2 v H' (n.post q4 (s3.trans s4 (fun i hi => hi) fun i hi => List.mem_append_right _ hi))⟩
theorem last_no {op op' : CmpOp} {xb xc : Expr} (h : noSet xc = true) : lastMarks [op, op'] [xb, xc] = false := by
  show lastMarks [op'] [xc] = false
  exact behind_no h
theorem k_chn (ok : XOk G C X) (o1 o2 : COp) (ha : PE X xa (Rx (wd X) (muE a) (ev G a))) (hb : PE X xb (Rx (wd X) (muE b) (ev G b))) (hc : PE X xc (Rx (wd X) (muE c) (ev G c))) (hs : noSet xc = true) :
    PE X (.Compare xa [cmpOf o1, cmpOf o2] [xb, xc] pos) (Rx (wd X) (muE (.chn o1 o2 a b c)) (ev G (.chn o1 o2 a b c))) :=
  PE.of (pe_chain (or_cmp ok.hu o1) (or_cmp ok.hu o2) ha hb hc (last_no hs)) fun σ H Q h => chn_run h
theorem t_chn (ok : XOk G C X) (o1 o2 : COp) (ha : PE X xa (Rx (wd X) (muE a) (ev G a))) (hb : PE X xb (Rx (wd X) (muE b) (ev G b))) (hc : PE X xc (Rx (wd X) (muE c) (ev G c))) (hs : noSet xc = true) :
    PT X (.Compare xa [cmpOf o1, cmpOf o2] [xb, xc] pos) (Bx (wd X) (muE (.chn o1 o2 a b c)) (bRun G (.chn o1 o2 a b c))) :=
  PT.of (pt_chain (or_cmp ok.hu o1) (or_cmp ok.hu o2) ha hb hc (last_no hs)) fun σ H Q h => chn_run (bx_of h)
theorem isc_run {n : Bool} {r : R2} (hr : ∀ (x : V) (H : Hp) (Q : VK), Q (.bl (decide (x = .non) != n)) H → r x .non H Q) {Q : VK} (h : Rx B (muE (.isc n a .none)) (ev G (.isc n a .none)) σ H Q) :
    tOp r (Rx B (muE a) (ev G a)) (tC .non) σ H Q := by
  obtain ⟨Z, env, Os, q, m, rs, env', h1, h2⟩ := h
  simp only [ev] at h1
  simp only [muE] at h2
  obtain ⟨⟨ma, ra, e1⟩, e1, h1⟩ := R.bind_ok h1
  cases h1
  refine Rx.go q e1 fun x H1 ⟨Z1, Os1, O1, q1, s1, r1, ro1⟩ => hr x H1 Q ?_
  have : decide (x = .non) = isNon ma := by
    cases r1 with
    | pu h => cases h <;> simp [isNon]
    | _ => simp [isNon]
  rw [this]
  exact h2 _ _ ((New.pure (.bl _)).post q1 s1)
theorem k_isN {j : Nat} {p : Pos} (ha : PE X xa (Rx (wd X) (muE a) (ev G a))) : PE X (.Compare xa [.Is] [.Constant .none j p] pos) (Rx (wd X) (muE (.isc false a .none)) (ev G (.isc false a .none))) :=
  PE.of (pe_cmpR op_isN ha pe_non rfl) fun σ H Q h => isc_run (fun x H Q q => ⟨rfl, by simpa using q⟩) h
theorem t_isN {j : Nat} {p : Pos} (ha : PE X xa (Rx (wd X) (muE a) (ev G a))) : PT X (.Compare xa [.Is] [.Constant .none j p] pos) (Bx (wd X) (muE (.isc false a .none)) (bRun G (.isc false a .none))) :=
  PT.of (pt_cmpR op_isN ha pe_non rfl) fun σ H Q h => isc_run (fun x H Q q => ⟨rfl, by simpa using q⟩) (bx_of h)
theorem k_notN {j : Nat} {p : Pos} (ha : PE X xa (Rx (wd X) (muE a) (ev G a))) : PE X (.Compare xa [.IsNot] [.Constant .none j p] pos) (Rx (wd X) (muE (.isc true a .none)) (ev G (.isc true a .none))) :=
  PE.of (pe_cmpR op_notN ha pe_non rfl) fun σ H Q h => isc_run (fun x H Q q => ⟨rfl, by simpa using q⟩) h
theorem t_notN {j : Nat} {p : Pos} (ha : PE X xa (Rx (wd X) (muE a) (ev G a))) : PT X (.Compare xa [.IsNot] [.Constant .none j p] pos) (Bx (wd X) (muE (.isc true a .none)) (bRun G (.isc true a .none))) :=
  PT.of (pt_cmpR op_notN ha pe_non rfl) fun σ H Q h => isc_run (fun x H Q q => ⟨rfl, by simpa using q⟩) (bx_of h)
theorem intR_ok {m : M} {i : Int} (h : intR m = .ok i) : m = .pu (.int i) := by
  unfold intR at h
  split at h
  · cases h; rfl
  · cases h
theorem k_neg (ha : PE X xa (Rx (wd X) (muE a) (ev G a))) : PE X (.UnaryOp .USub xa pos) (Rx (wd X) (muE (.neg a)) (ev G (.neg a))) := by
  refine PE.of (pe_un un_neg ha) fun σ H Q ⟨Z, env, Os, q, m, rs, env', h1, h2⟩ => ?_
  simp only [ev] at h1
  simp only [muE] at h2
  obtain ⟨⟨ma, ra, e1⟩, e1, h1⟩ := R.bind_ok h1
  obtain ⟨i, e3, h1⟩ := R.bind_ok h1
  cases h1
  cases intR_ok e3
  refine Rx.go q e1 fun x H1 p => ?_
  obtain ⟨Z1, Os1, q1, s1, r1⟩ := p.pure
  cases r1
  exact ⟨_, rfl, h2 _ _ ((New.pure (.int _)).post q1 s1)⟩
/-! ### and, or, not -/
theorem not_run {p : E} {env env' : Env} {m : M} {rs : List Nat} (h : ev G (.not p) env = .ok (m, rs, env')) : ∃ c, bRun G p env = .ok (c, env') ∧ m = .pu (.bool (!c)) ∧ rs = [] := by
  simp only [ev] at h
  obtain ⟨r, e1, h1⟩ := R.bind_ok h
  obtain ⟨⟨c, e2⟩, e3, h1⟩ := R.bind_ok h1
  cases h1
  exact ⟨c, by unfold bRun; rw [e1]; exact e3, rfl, rfl⟩
theorem k_not (ha : PE X xa (Rx (wd X) (muE a) (ev G a))) : PE X (.UnaryOp .Not xa pos) (Rx (wd X) (muE (.not a)) (ev G (.not a))) := by
  refine PE.of (pe_not ha) fun σ H Q ⟨Z, env, Os, q, m, rs, env', h1, h2⟩ => ?_
  simp only [muE] at h2
  obtain ⟨c, e1, rfl, rfl⟩ := not_run h1
  refine bx_of (Q := fun c H1 => Q (.bl (!c)) H1) ⟨Z, env, Os, q, c, env', e1, fun H' ⟨Z', Os', q', s'⟩ => h2 _ _ ((New.pure (.bl _)).post q' s')⟩
theorem t_not (ha : PT X xa (Bx (wd X) (muE a) (bRun G a))) : PT X (.UnaryOp .Not xa pos) (Bx (wd X) (muE (.not a)) (bRun G (.not a))) := by
  refine PT.of (pt_not ha) fun σ H Q ⟨Z, env, Os, q, c, env', h1, h2⟩ => ?_
  simp only [muE] at h2
  obtain ⟨r, e1, e2⟩ := R.bind_ok h1
  obtain ⟨rs, rfl⟩ := boolR_ok e2
  obtain ⟨c', e3, e4, e5⟩ := not_run e1
  cases e4
  exact ⟨Z, env, Os, q, c', env', e3, h2⟩
theorem and_run {p r : E} {env env' : Env} {m : M} {rs : List Nat} (h : ev G (.and p r) env = .ok (m, rs, env')) : ∃ c, m = .pu (.bool c) ∧ rs = [] ∧ ((bRun G p env = .ok (false, env') ∧ c = false) ∨ ∃ e1, bRun G p env = .ok (true, e1) ∧ bRun G r e1 = .ok (c, env')) := by
  simp only [ev] at h
  obtain ⟨r1, e1, h1⟩ := R.bind_ok h
  obtain ⟨⟨c, e2⟩, e3, h1⟩ := R.bind_ok h1
  have hb : bRun G p env = .ok (c, e2) := by unfold bRun; rw [e1]; exact e3
  cases c with
  | false =>
    rw [if_neg (by simp)] at h1
    cases h1
    exact ⟨false, rfl, rfl, .inl ⟨hb, rfl⟩⟩
  | true =>
    rw [if_pos rfl] at h1
    obtain ⟨r2, e4, h1⟩ := R.bind_ok h1
    obtain ⟨⟨c2, e5⟩, e6, h1⟩ := R.bind_ok h1
    cases h1
    exact ⟨c2, rfl, rfl, .inr ⟨e2, hb, by unfold bRun; rw [e4]; exact e6⟩⟩
theorem or_run {p r : E} {env env' : Env} {m : M} {rs : List Nat} (h : ev G (.or p r) env = .ok (m, rs, env')) : ∃ c, m = .pu (.bool c) ∧ rs = [] ∧ ((bRun G p env = .ok (true, env') ∧ c = true) ∨ ∃ e1, bRun G p env = .ok (false, e1) ∧ bRun G r e1 = .ok (c, env')) := by
  simp only [ev] at h
  obtain ⟨r1, e1, h1⟩ := R.bind_ok h
  obtain ⟨⟨c, e2⟩, e3, h1⟩ := R.bind_ok h1
  have hb : bRun G p env = .ok (c, e2) := by unfold bRun; rw [e1]; exact e3
  cases c with
  | true =>
    rw [if_pos rfl] at h1
    cases h1
    exact ⟨true, rfl, rfl, .inl ⟨hb, rfl⟩⟩
  | false =>
    rw [if_neg (by simp)] at h1
    obtain ⟨r2, e4, h1⟩ := R.bind_ok h1
    obtain ⟨⟨c2, e5⟩, e6, h1⟩ := R.bind_ok h1
    cases h1
    exact ⟨c2, rfl, rfl, .inr ⟨e2, hb, by unfold bRun; rw [e4]; exact e6⟩⟩
theorem b_run {p : E} {env env' : Env} {c : Bool} (h : bRun G p env = .ok (c, env')) : ∃ rs, ev G p env = .ok (.pu (.bool c), rs, env') := by
  obtain ⟨r, e1, e2⟩ := R.bind_ok h
  obtain ⟨rs, rfl⟩ := boolR_ok e2
  exact ⟨rs, e1⟩
theorem if_t {A B : Prop} (h : A) : if (true = true) then A else B := by rw [if_pos rfl]; exact h
theorem if_f {A B : Prop} (h : B) : if (false = true) then A else B := by rw [if_neg (by simp)]; exact h
theorem ml {l r : List Nat} : ∀ i ∈ l, i ∈ l ++ r := fun _ h => List.mem_append_left _ h
theorem mr {l r : List Nat} : ∀ i ∈ r, i ∈ l ++ r := fun _ h => List.mem_append_right _ h
variable {rest : List Expr}
theorem k_and (ha : PE X xa (Rx (wd X) (muE a) (ev G a))) (hb : PE X (.BoolOp .And (xb :: rest) pos) (Rx (wd X) (muE b) (ev G b))) : PE X (.BoolOp .And (xa :: xb :: rest) pos) (Rx (wd X) (muE (.and a b)) (ev G (.and a b))) := by
  refine PE.of (pe_and ha hb) fun σ H Q ⟨Z, env, Os, q, m, rs, env', h1, h2⟩ => ?_
  simp only [muE] at h2
  obtain ⟨c, rfl, rfl, h | ⟨e1, h3, h4⟩⟩ := and_run h1
  · obtain ⟨h3, rfl⟩ := h
    exact bx_of (Q := fun c H1 => if c = true then _ else Q (.bl false) H1) ⟨Z, env, Os, q, _, _, h3, fun H' ⟨Z', Os', q', s'⟩ => if_f (h2 _ _ ((New.pure (.bl _)).post q' (s'.mono ml)))⟩
  · refine bx_of (Q := fun c H1 => if c = true then _ else Q (.bl false) H1) ⟨Z, env, Os, q, _, _, h3, fun H1 ⟨Z1, Os1, q1, s1⟩ => ?_⟩
    refine if_t ?_
    obtain ⟨rs, h5⟩ := b_run h4
    exact Rx.go q1 h5 fun v H2 p => by
      obtain ⟨Z2, Os2, q2, s2, r2⟩ := p.pure
      cases r2
      exact h2 _ _ ((New.pure (.bl _)).post q2 (s1.trans s2 ml mr))
theorem k_or (ha : PE X xa (Rx (wd X) (muE a) (ev G a))) (hb : PE X (.BoolOp .Or (xb :: rest) pos) (Rx (wd X) (muE b) (ev G b))) : PE X (.BoolOp .Or (xa :: xb :: rest) pos) (Rx (wd X) (muE (.or a b)) (ev G (.or a b))) := by
  refine PE.of (pe_or ha hb) fun σ H Q ⟨Z, env, Os, q, m, rs, env', h1, h2⟩ => ?_
  simp only [muE] at h2
  obtain ⟨c, rfl, rfl, h | ⟨e1, h3, h4⟩⟩ := or_run h1
  · obtain ⟨h3, rfl⟩ := h
    exact bx_of (Q := fun c H1 => if c = true then Q (.bl true) H1 else _) ⟨Z, env, Os, q, _, _, h3, fun H' ⟨Z', Os', q', s'⟩ => if_t (h2 _ _ ((New.pure (.bl _)).post q' (s'.mono ml)))⟩
  · refine bx_of (Q := fun c H1 => if c = true then Q (.bl true) H1 else _) ⟨Z, env, Os, q, _, _, h3, fun H1 ⟨Z1, Os1, q1, s1⟩ => ?_⟩
    refine if_f ?_
    obtain ⟨rs, h5⟩ := b_run h4
    exact Rx.go q1 h5 fun v H2 p => by
      obtain ⟨Z2, Os2, q2, s2, r2⟩ := p.pure
      cases r2
      exact h2 _ _ ((New.pure (.bl _)).post q2 (s1.trans s2 ml mr))
theorem t_and (ha : PT X xa (Bx (wd X) (muE a) (bRun G a))) (hb : PW X (.BoolOp .And (xb :: rest) pos) (Bx (wd X) (muE b) (bRun G b))) : PW X (.BoolOp .And (xa :: xb :: rest) pos) (Bx (wd X) (muE (.and a b)) (bRun G (.and a b))) := by
  refine PW.of (pw_and ha hb) fun σ H Q ⟨Z, env, Os, q, c, env', h1, h2⟩ => ?_
  simp only [muE] at h2
  obtain ⟨r0, h0⟩ := b_run h1
  obtain ⟨c, e, rfl, h | ⟨e1, h3, h4⟩⟩ := and_run h0
  · obtain ⟨h3, rfl⟩ := h
    cases e
    exact ⟨Z, env, Os, q, _, _, h3, fun H' p => if_f (h2 _ (p.mono ml))⟩
  · cases e
    refine ⟨Z, env, Os, q, _, _, h3, fun H1 ⟨Z1, Os1, q1, s1⟩ => ?_⟩
    refine if_t ?_
    exact ⟨Z1, e1, Os1, q1, _, _, h4, fun H2 ⟨Z2, Os2, q2, s2⟩ => h2 _ ⟨Z2, Os2, q2, s1.trans s2 ml mr⟩⟩
theorem t_or (ha : PT X xa (Bx (wd X) (muE a) (bRun G a))) (hb : PW X (.BoolOp .Or (xb :: rest) pos) (Bx (wd X) (muE b) (bRun G b))) : PW X (.BoolOp .Or (xa :: xb :: rest) pos) (Bx (wd X) (muE (.or a b)) (bRun G (.or a b))) := by
  refine PW.of (pw_or ha hb) fun σ H Q ⟨Z, env, Os, q, c, env', h1, h2⟩ => ?_
  simp only [muE] at h2
  obtain ⟨r0, h0⟩ := b_run h1
  obtain ⟨c, e, rfl, h | ⟨e1, h3, h4⟩⟩ := or_run h0
  · obtain ⟨h3, rfl⟩ := h
    cases e
    exact ⟨Z, env, Os, q, _, _, h3, fun H' p => if_t (h2 _ (p.mono ml))⟩
  · cases e
    refine ⟨Z, env, Os, q, _, _, h3, fun H1 ⟨Z1, Os1, q1, s1⟩ => ?_⟩
    refine if_f ?_
    exact ⟨Z1, e1, Os1, q1, _, _, h4, fun H2 ⟨Z2, Os2, q2, s2⟩ => h2 _ ⟨Z2, Os2, q2, s1.trans s2 ml mr⟩⟩
end
end
end TR
set_option Elab.async false
set_option linter.all false
set_option maxHeartbeats 4000000
namespace TR
open PySem PySem.Spec PyProof.Rows L2 StX
section
variable {G : List Fn} {C : Ctx} {X : Cx} {B : Wd} {Z Z' Z1 Z2 : Zn} {H H' H1 H2 : Hp} {σ σ' : L2.St} {env env' env1 : Env} {Os Os' Os1 : List (List Addr)} {mu : List Nat} {v : V} {m : M} {d : D} {a b c : E} {xa xb xc : Expr} {pos p1 p2 p3 : Pos} {es : List E} {xs : List Expr}
/-! ### a value for good -/
def tRun (G : List Fn) (p : E) : Env → R (D × Env) := fun env => do
  let r ← ev G p env
  takeR p r
theorem k_take (h : PE X xa (Rx (wd X) (muE a) (ev G a))) : PE X xa (Tx (wd X) (muT a) (tRun G a)) := by
  refine PE.of h fun σ H Q ⟨Z, env, Os, q, d, env', h1, h2⟩ => ?_
  obtain ⟨⟨m, rs, e1⟩, h3, h4⟩ := R.bind_ok h1
  exact Rx.go q h3 fun v H' p => h2 v H' (take_post h3 h4 p)
theorem Tx.go {run : Env → R (D × Env)} {Q : VK} (q : Sat B Z σ H env Os) (e : run env = .ok (d, env')) (h : ∀ v H', TPost B mu σ Z H env Os d env' v H' → Q v H') : Tx B mu run σ H Q := ⟨Z, env, Os, q, d, env', e, h⟩
theorem tRun_eq {p : E} {r : M × List Nat × Env} {d : D} {e2 : Env} (h1 : ev G p env = .ok r) (h2 : takeR p r = .ok (d, e2)) : tRun G p env = .ok (d, e2) := by
  unfold tRun; rw [h1]; exact h2
theorem k_ite (hc : PT X xc (Bx (wd X) (muE c) (bRun G c))) (ha : PE X xa (Rx (wd X) (muE a) (ev G a))) (hb : PE X xb (Rx (wd X) (muE b) (ev G b))) : PE X (.IfExp xc xa xb pos) (Rx (wd X) (muE (.ite c a b)) (ev G (.ite c a b))) := by
  refine PE.of (pe_ifExp hc (k_take ha) (k_take hb)) fun σ H Q ⟨Z, env, Os, q, m, rs, env', h1, h2⟩ => ?_
  simp only [ev] at h1
  simp only [muE] at h2
  obtain ⟨r, e1, h1⟩ := R.bind_ok h1
  obtain ⟨⟨k, e2⟩, e3, h1⟩ := R.bind_ok h1
  refine ⟨Z, env, Os, q, k, e2, by unfold bRun; rw [e1]; exact e3, fun H1 ⟨Z1, Os1, q1, s1⟩ => ?_⟩
  cases k with
  | true =>
    rw [if_pos rfl] at h1
    obtain ⟨r2, e4, h1⟩ := R.bind_ok h1
    obtain ⟨⟨d, e5⟩, e6, h1⟩ := R.bind_ok h1
    cases h1
    refine if_t (Tx.go q1 (tRun_eq e4 e6) fun v H' ⟨Z2, Os2, q2, s2, r2⟩ => h2 v H' (TPost.post ⟨Z2, Os2, q2, s1.trans s2 (fun i hi => ml _ (ml _ hi)) (fun i hi => ml _ (mr _ hi)), r2⟩))
  | false =>
    rw [if_neg (by simp)] at h1
    obtain ⟨r2, e4, h1⟩ := R.bind_ok h1
    obtain ⟨⟨d, e5⟩, e6, h1⟩ := R.bind_ok h1
    cases h1
    refine if_f (Tx.go q1 (tRun_eq e4 e6) fun v H' ⟨Z2, Os2, q2, s2, r2⟩ => h2 v H' (TPost.post ⟨Z2, Os2, q2, s1.trans s2 (fun i hi => ml _ (ml _ hi)) (fun i hi => mr _ hi), r2⟩))
/-! ### lists of values -/
def isStar : E → Bool
  | .star _ => true
  | _ => false
theorem evTs_cons {e : E} (h : isStar e = false) : evTs G (e :: es) env = (do
    let (d, e1) ← tRun G e env
    let (ds, e2) ← evTs G es e1
    R.ok (d :: ds, e2)) := by
  cases e <;> first | (cases h; done) | (simp only [evTs, tRun]; cases ev G _ env <;> rfl)
theorem l_nil : PA X [] (Lx (wd X) (muTs []) (evTs G [])) := by
  refine ⟨fun pos pins s σ H Q I ⟨Z, env, Os, q, ds, env', h1, h2⟩ => pa_nil.run pos pins s σ H Q I ?_⟩
  simp only [evTs] at h1
  cases h1
  exact h2 [] H ⟨Z, Os, q, Step.refl, .nil⟩
theorem PA.of' {es : List Expr} {t t' : TA} (h : PA X es t) (w : ∀ σ H Q, t' σ H Q → t σ H Q) : PA X es t' := PA.of h w
theorem l_cons (hs : isStar a = false) (ha : PE X xa (Rx (wd X) (muE a) (ev G a))) (hr : PA X xs (Lx (wd X) (muTs es) (evTs G es))) (hn : noStar xa = true) : PA X (xa :: xs) (Lx (wd X) (muTs (a :: es)) (evTs G (a :: es))) := by
  refine PA.of (pa_cons (k_take ha) hr (starEach_no hn)) fun σ H Q ⟨Z, env, Os, q, ds, env', h1, h2⟩ => ?_
  rw [evTs_cons hs] at h1
  simp only [muTs] at h2
  obtain ⟨⟨d, e1⟩, e2, h1⟩ := R.bind_ok h1
  obtain ⟨⟨ds', e3⟩, e4, h1⟩ := R.bind_ok h1
  cases h1
  refine Tx.go q e2 fun v H1 ⟨Z1, Os1, q1, s1, r1⟩ => ⟨Z1, _, Os1, q1, _, _, e4, fun vs H2 ⟨Z2, Os2, q2, s2, r2⟩ => ?_⟩
  exact h2 _ _ ⟨Z2, Os2, q2, s1.trans s2 ml mr, .cons (r1.stay (s2.stay q1) s2.zz) r2⟩
theorem l_star (ha : PE X xa (Rx (wd X) (muE a) (ev G a))) (hr : PA X xs (Lx (wd X) (muTs es) (evTs G es))) : PA X (.Starred xa pos :: xs) (Lx (wd X) (muTs (.star a :: es)) (evTs G (.star a :: es))) := by
  refine PA.of (pa_star ha hr) fun σ H Q ⟨Z, env, Os, q, ds, env', h1, h2⟩ => ?_
  simp only [evTs] at h1
  simp only [muTs, muT, muE] at h2
  obtain ⟨⟨ma, ra, e1⟩, e2, h1⟩ := R.bind_ok h1
  obtain ⟨ys, e5, h1⟩ := R.bind_ok h1
  obtain ⟨⟨ds', e3⟩, e4, h1⟩ := R.bind_ok h1
  cases h1
  refine Rx.go q e2 fun v H1 ⟨Z1, Os1, O1, q1, s1, r1, ro1⟩ => ?_
  obtain ⟨p, ws, rfl, rl, h⟩ := r1.sq e5
  refine ⟨p, ws, rfl, (h.imp id SqD.sq).symm, Z1, _, Os1, q1, _, _, e4, fun vs H2 ⟨Z2, Os2, q2, s2, r2⟩ => ?_⟩
  exact h2 _ _ ⟨Z2, Os2, q2, s1.trans s2 ml mr, (rl.stay (s2.stay q1) s2.zz).append r2⟩
theorem k_tup {j : Nat} (h : PA X xs (Lx (wd X) (muTs es) (evTs G es))) : PE X (.Tuple xs j pos) (Rx (wd X) (muE (.tup es)) (ev G (.tup es))) := by
  refine PE.of (pe_tupD h) fun σ H Q ⟨Z, env, Os, q, m, rs, env', h1, h2⟩ => ?_
  simp only [ev] at h1
  simp only [muE] at h2
  obtain ⟨⟨ds, e1⟩, e2, h1⟩ := R.bind_ok h1
  obtain ⟨hz, h1⟩ := R.of_if h1
  cases h1
  refine ⟨Z, env, Os, q, _, _, e2, fun vs H1 ⟨Z1, Os1, q1, s1, r1⟩ => ⟨by rw [r1.length, ← big_eq]; exact hz, fun p its hp => ?_⟩⟩
  exact h2 _ _ ((New.tup hp r1).post q1 s1)
theorem k_lst (h : PA X xs (Lx (wd X) (muTs es) (evTs G es))) : PE X (.List xs pos) (Rx (wd X) (muE (.lst es)) (ev G (.lst es))) := by
  refine PE.of (pe_lst h) fun σ H Q ⟨Z, env, Os, q, m, rs, env', h1, h2⟩ => ?_
  simp only [ev] at h1
  simp only [muE] at h2
  obtain ⟨⟨ds, e1⟩, e2, h1⟩ := R.bind_ok h1
  obtain ⟨hz, h1⟩ := R.of_if h1
  cases h1
  refine ⟨Z, env, Os, q, _, _, e2, fun vs H1 ⟨Z1, Os1, q1, s1, r1⟩ => ⟨by rw [r1.length, ← big_eq]; exact hz, fun p hp => ?_⟩⟩
  exact h2 _ _ ((New.li hp r1).post q1 s1)
/-! ### items, slices -/
theorem k_sub (ok : XOk G C X) (ha : PE X xa (Rx (wd X) (muE a) (ev G a))) (hb : PE X xb (Rx (wd X) (muE b) (ev G b))) (hp : plainIx xb = true) : PE X (.Subscript xa xb pos) (Rx (wd X) (muE (.sub a b)) (ev G (.sub a b))) := by
  refine PE.of (pe_ix (ix_sub ok.hu) ha hb (plainIx_ok hp)) fun σ H Q ⟨Z, env, Os, q, m, rs, env', h1, h2⟩ => ?_
  simp only [ev] at h1
  simp only [muE] at h2
  obtain ⟨⟨ma, ra, e1⟩, e1', h1⟩ := R.bind_ok h1
  obtain ⟨⟨mb, rb, e2⟩, e2', h1⟩ := R.bind_ok h1
  obtain ⟨ap, h1⟩ := R.of_if h1
  obtain ⟨m', e3, h1⟩ := R.bind_ok h1
  cases h1
  refine Rx.go q e1' fun x H1 ⟨Z1, Os1, O1, q1, s1, r1, ro1⟩ => Rx.go q1 e2' fun y H2 ⟨Z2, Os2, O2, q2, s2, r2, ro2⟩ => ?_
  refine ⟨Z2, ma, mb, _, O1, O2, q2.zh, carry q1 r1 ro1 s2 ap, r2, e3, fun v ⟨O, r, hO, hl, hn⟩ => h2 v H2 ⟨Z2, Os2, O, q2, s1.trans s2 ml mr, r, ?_⟩⟩
  have hnd : O.Nodup := by
    match O, hl with
    | [], _ => exact List.nodup_nil
    | [x], _ => simp
  cases hm : ma.isNl with
  | false =>
    have := hn hm
    subst this
    simp only [hm, Bool.false_eq_true, if_false]
    exact ⟨fun _ => ⟨by simpa using q2.nd, fun a h => nomatch h⟩, fun h => (h rfl).elim, hnd⟩
  | true =>
    simp only [hm, if_true]
    refine ⟨fun e => ?_, fun e a ha => ?_, hnd⟩
    · subst e
      obtain ⟨h3, h4⟩ := ro1.1 rfl
      have h5 := (List.nodup_append.mp h3).2.2
      refine ⟨List.nodup_append.mpr ⟨hnd, q2.nd, fun a ha b hb e => ?_⟩, fun a ha => ⟨fun z => ?_, (h4 a (hO a ha)).2⟩⟩
      · subst e
        rcases s2.on a hb with h | h
        · exact r1.ne a (hO a ha) h
        · exact h5 a (hO a ha) a h rfl
      · rcases s2.zn a z with z | z | z
        · exact (h4 a (hO a ha)).1 z
        · exact r1.ne a (hO a ha) z
        · exact h5 a (hO a ha) a z rfl
    · obtain ⟨i, hi, Oi, h3, h4⟩ := ro1.2.1 e a (hO a ha)
      have hn : i ∉ muE b := by
        unfold apart at ap
        simpa using List.all_eq_true.mp ap i hi
      exact ⟨i, hi, Oi, (s2.slot i hn).2.1.trans h3, h4⟩
/-- a bound of a slice -/
def OPost (B : Wd) (mu : List Nat) (run : Env → R (Option Int × Env)) : TO := fun σ H Q =>
  ∃ Z env Os, Sat B Z σ H env Os ∧ ∃ o env', run env = .ok (o, env') ∧ ∀ H', BPost B mu σ Z H env Os env' H' → Q o H'
theorem o_none : PO X none (OPost (wd X) (muO none) (evO G none)) := by
  refine ⟨fun pins s σ H Q I ⟨Z, env, Os, q, o, env', h1, h2⟩ => po_none.run pins s σ H Q I ?_⟩
  simp only [evO] at h1
  cases h1
  exact h2 H ⟨Z, Os, q, Step.refl⟩
theorem o_some (ha : PE X xa (Rx (wd X) (muE a) (ev G a))) : PO X (some xa) (OPost (wd X) (muO (some a)) (evO G (some a))) := by
  refine ⟨fun pins s σ H Q I ⟨Z, env, Os, q, o, env', h1, h2⟩ => (po_some ha).run pins s σ H Q I ?_⟩
  simp only [evO] at h1
  simp only [muO] at h2
  obtain ⟨⟨ma, ra, e1⟩, e2, h1⟩ := R.bind_ok h1
  obtain ⟨i, e3, h1⟩ := R.bind_ok h1
  cases h1
  cases intR_ok e3
  refine Rx.go q e2 fun x H1 p => ?_
  obtain ⟨Z1, Os1, q1, s1, r1⟩ := p.pure
  cases r1
  exact ⟨_, rfl, h2 _ ⟨Z1, Os1, q1, s1⟩⟩
theorem k_slc {lo hi : Option E} {xl xh : Option Expr} (ha : PE X xa (Rx (wd X) (muE a) (ev G a))) (hl : PO X xl (OPost (wd X) (muO lo) (evO G lo))) (hh : PO X xh (OPost (wd X) (muO hi) (evO G hi))) :
    PE X (.Subscript xa (.Slice xl xh none p1) pos) (Rx (wd X) (muE (.slc a lo hi)) (ev G (.slc a lo hi))) := by
  refine PE.of (pe_slice sl_slc ha hl hh) fun σ H Q ⟨Z, env, Os, q, m, rs, env', h1, h2⟩ => ?_
  simp only [ev] at h1
  simp only [muE] at h2
  obtain ⟨⟨ma, ra, e1⟩, e1', h1⟩ := R.bind_ok h1
  obtain ⟨⟨l, e2⟩, e2', h1⟩ := R.bind_ok h1
  obtain ⟨⟨h, e3⟩, e3', h1⟩ := R.bind_ok h1
  obtain ⟨ap, h1⟩ := R.of_if h1
  obtain ⟨m', e4, h1⟩ := R.bind_ok h1
  cases h1
  refine Rx.go q e1' fun x H1 ⟨Z1, Os1, O1, q1, s1, r1, ro1⟩ => ⟨Z1, _, Os1, q1, _, _, e2', fun H2 ⟨Z2, Os2, q2, s2⟩ => ⟨Z2, _, Os2, q2, _, _, e3', fun H3 ⟨Z3, Os3, q3, s3⟩ => ?_⟩⟩
  have s23 := s2.trans s3 (mu := muO lo ++ muO hi) ml mr
  exact ⟨Z3, ma, _, O1, q3.zh, carry q1 r1 ro1 s23 ap, e4, fun v H' n => h2 v H' (n.post q3 (s1.trans s23 (fun i hi => by rw [List.append_assoc]; exact ml i hi) fun i hi => by rw [List.append_assoc]; exact mr i hi))⟩
end
end TR
set_option Elab.async false
set_option linter.all false
set_option maxHeartbeats 4000000
namespace TR
open PySem PySem.Spec PyProof.Rows L2 StX
section
variable {G : List Fn} {C : Ctx} {X : Cx} {B : Wd} {Z Z' Z1 Z2 : Zn} {H H' H1 H2 : Hp} {σ σ' : L2.St} {env env' env1 : Env} {Os Os' Os1 : List (List Addr)} {mu : List Nat} {v : V} {m : M} {d : D} {a b c : E} {xa xb xc : Expr} {pos p p0 p1 p2 p3 : Pos} {es : List E} {xs : List Expr} {nm : Str}
/-! ### builtins -/
theorem evs1 {ms : List M} {rs : List Nat} (h : evs G [a] env = .ok (ms, rs, env')) : ∃ m, ev G a env = .ok (m, rs, env') ∧ ms = [m] := by
  simp only [evs] at h
  obtain ⟨⟨ma, ra, e1⟩, h1, h⟩ := R.bind_ok h
  obtain ⟨⟨mb, rb, e2⟩, h2, h⟩ := R.bind_ok h
  cases h2
  obtain ⟨ap, h⟩ := R.of_if h
  cases h
  exact ⟨ma, by rw [h1]; simp, rfl⟩
theorem evs2 {ms : List M} {rs : List Nat} (h : evs G [a, b] env = .ok (ms, rs, env')) : ∃ ma ra e1 mb rb, ev G a env = .ok (ma, ra, e1) ∧ ev G b e1 = .ok (mb, rb, env') ∧ apart ra (muE b) = true ∧ ms = [ma, mb] := by
  rw [evs] at h
  obtain ⟨⟨ma, ra, e1⟩, h1, h⟩ := R.bind_ok h
  obtain ⟨⟨ms2, rb, e2⟩, h2, h⟩ := R.bind_ok h
  obtain ⟨mb, h3, h4⟩ := evs1 h2
  obtain ⟨ap, h⟩ := R.of_if h
  cases h
  subst h4
  refine ⟨ma, ra, e1, mb, rb, h1, h3, ?_, rfl⟩
  simpa [muEs] using ap
theorem bi_run1 {bi : Bi} {rs : List Nat} (h : ev G (.bi bi [a]) env = .ok (m, rs, env')) : ∃ ma ra, ev G a env = .ok (ma, ra, env') ∧ bi1 bi ma = .ok m ∧ rs = [] := by
  rw [ev] at h
  obtain ⟨⟨ms, r, e1⟩, h1, h⟩ := R.bind_ok h
  obtain ⟨m', h2, h⟩ := R.bind_ok h
  cases h
  obtain ⟨ma, h3, rfl⟩ := evs1 h1
  exact ⟨ma, r, h3, h2, rfl⟩
theorem bi_run2 {bi : Bi} {rs : List Nat} (h : ev G (.bi bi [a, b]) env = .ok (m, rs, env')) : ∃ ma ra e1 mb rb, ev G a env = .ok (ma, ra, e1) ∧ ev G b e1 = .ok (mb, rb, env') ∧ apart ra (muE b) = true ∧ bi2 bi ma mb = .ok m ∧ rs = [] := by
  rw [ev] at h
  obtain ⟨⟨ms, r, e1⟩, h1, h⟩ := R.bind_ok h
  obtain ⟨m', h2, h⟩ := R.bind_ok h
  cases h
  obtain ⟨ma, ra, e1, mb, rb, h3, h4, ap, rfl⟩ := evs2 h1
  exact ⟨ma, ra, e1, mb, rb, h3, h4, ap, h2, rfl⟩
theorem b1_run {bi : Bi} {Q : VK} (h : Rx B (muE (.bi bi [a])) (ev G (.bi bi [a])) σ H Q) : tCB (rB1 B (bi1 bi)) (tCons (Rx B (muE a) (ev G a)) tNil) σ H Q := by
  obtain ⟨Z, env, Os, q, m, rs, env', h1, h2⟩ := h
  simp only [muE, muEs, List.append_nil] at h2
  obtain ⟨ma, ra, h3, h4, rfl⟩ := bi_run1 h1
  exact Rx.go q h3 fun x H1 ⟨Z1, Os1, O1, q1, s1, r1, ro1⟩ => ⟨x, Z1, ma, m, O1, rfl, q1.zh, r1, h4, fun v H' n => h2 v H' (n.post q1 s1)⟩
theorem b2_run {bi : Bi} {Q : VK} (h : Rx B (muE (.bi bi [a, b])) (ev G (.bi bi [a, b])) σ H Q) : tCB (rB2 B (bi2 bi)) (tCons (Rx B (muE a) (ev G a)) (tCons (Rx B (muE b) (ev G b)) tNil)) σ H Q := by
  obtain ⟨Z, env, Os, q, m, rs, env', h1, h2⟩ := h
  simp only [muE, muEs, List.append_nil] at h2
  obtain ⟨ma, ra, e1, mb, rb, h3, h4, ap, h5, rfl⟩ := bi_run2 h1
  exact Rx.go q h3 fun x H1 ⟨Z1, Os1, O1, q1, s1, r1, ro1⟩ => Rx.go q1 h4 fun y H2 ⟨Z2, Os2, O2, q2, s2, r2, ro2⟩ =>
    ⟨x, y, Z2, ma, mb, m, O1, O2, rfl, q2.zh, carry q1 r1 ro1 s2 ap, r2, h5, fun v H' n => h2 v H' (n.post q2 (s1.trans s2 ml mr))⟩
theorem k_b1B {bi : Bi} {id : String} (hc : CallR X (.builtin id) (rB1 (wd X) (bi1 bi))) (ok : XOk G C X) (hg : glB C.sc nm = true) (hm : nm ∈ bnames) (hv : bootBuiltins nm = some (.builtin id)) (hd : noDbg nm = true) (ha : PE X xa (Rx (wd X) (muE a) (ev G a))) (hn : noStar xa = true) :
    PE X (.Call (.Name nm p) [xa] [] pos) (Rx (wd X) (muE (.bi bi [a])) (ev G (.bi bi [a]))) :=
  PE.of (pe_callB hc (gl_of ok hg) (ok.bl _ hm) hv (pa_cons ha pa_nil (starEach_no hn)) (noDbg_of hd).2.2 (noDbg_of hd).1 (starEach_no hn) rfl) fun σ H Q h => b1_run h
theorem k_b1T {bi : Bi} {T : String} (hc : CallR X (.type T) (rB1 (wd X) (bi1 bi))) (ok : XOk G C X) (hg : glB C.sc nm = true) (hm : nm ∈ bnames) (hv : bootBuiltins nm = some (.type T)) (hd : noDbg nm = true) (ha : PE X xa (Rx (wd X) (muE a) (ev G a))) (hn : noStar xa = true) :
    PE X (.Call (.Name nm p) [xa] [] pos) (Rx (wd X) (muE (.bi bi [a])) (ev G (.bi bi [a]))) :=
  PE.of (pe_callTy hc (gl_of ok hg) (ok.bl _ hm) hv (pa_cons ha pa_nil (starEach_no hn)) (noDbg_of hd).2.2 (noDbg_of hd).1 (starEach_no hn) rfl) fun σ H Q h => b1_run h
theorem k_b2B {bi : Bi} {id : String} (hc : CallR X (.builtin id) (rB2 (wd X) (bi2 bi))) (ok : XOk G C X) (hg : glB C.sc nm = true) (hm : nm ∈ bnames) (hv : bootBuiltins nm = some (.builtin id)) (hd : noDbg nm = true) (ha : PE X xa (Rx (wd X) (muE a) (ev G a))) (hb : PE X xb (Rx (wd X) (muE b) (ev G b))) (hn : noStar xa = true) (hn2 : noStar xb = true) :
    PE X (.Call (.Name nm p) [xa, xb] [] pos) (Rx (wd X) (muE (.bi bi [a, b])) (ev G (.bi bi [a, b]))) :=
  PE.of (pe_callB hc (gl_of ok hg) (ok.bl _ hm) hv (pa_cons ha (pa_cons hb pa_nil (starEach_no hn2)) (starEach_no hn)) (noDbg_of hd).2.2 (noDbg_of hd).1 (starEach_no hn) (backTo_no (by simp [hn2]))) fun σ H Q h => b2_run h
theorem k_isi (bi : Bi) {ts : List Ty} {t : Ty} (hbi : ∀ m, bi1 bi m = isM ts m) (ht : t ≠ .non) (hts : ∀ u, ts.contains u = (decide (u = t) || (decide (u = .bool) && decide (t = .int)))) (ok : XOk G C X) (hg : glB C.sc "isinstance" = true) (hg2 : glB C.sc nm = true) (hm : nm ∈ bnames)
    (hv : bootBuiltins nm = some (.type (tyName t))) (hd : noDbg nm = true) (ha : PE X xa (Rx (wd X) (muE a) (ev G a))) (hn : noStar xa = true) : PE X (.Call (.Name "isinstance" p) [xa, .Name nm p2] [] pos) (Rx (wd X) (muE (.bi bi [a])) (ev G (.bi bi [a]))) := by
  have hT : PE X (.Name nm p2) (tC (.ty (tyName t))) := pe_bltn (gl_of ok hg2) (ok.bl _ hm) hv rfl (noDbg_of hd).2.2 (noDbg_of hd).1
  refine PE.of (pe_callB call_isi (gl_of ok hg) (ok.bl _ (by simp [bnames])) PyProof.Rows.boot_isinstance (pa_cons ha (pa_cons hT pa_nil) (starEach_no hn)) (by decide) (by decide) (starEach_no hn) rfl) fun σ H Q ⟨Z, env, Os, q, m, rs, env', h1, h2⟩ => ?_
  simp only [muE, muEs, List.append_nil] at h2
  obtain ⟨ma, ra, h3, h4, rfl⟩ := bi_run1 h1
  rw [hbi] at h4
  obtain ⟨rfl, nd⟩ := isM_ok h4
  refine Rx.go q h3 fun x H1 ⟨Z1, Os1, O1, q1, s1, r1, ro1⟩ => ⟨x, .ty (tyName t), _, _, _, rfl, .ty _, r1.ty nd, kit_ty (kit_all (tyD ma) t ht), ?_⟩
  rw [← hts]
  exact h2 _ _ ((New.pure (.bl _)).post q1 s1)
theorem k_istl (ok : XOk G C X) {k : Nat} (hg : glB C.sc "isinstance" = true) (hg1 : glB C.sc "tuple" = true) (hg2 : glB C.sc "list" = true) (ha : PE X xa (Rx (wd X) (muE a) (ev G a))) (hn : noStar xa = true) :
    PE X (.Call (.Name "isinstance" p) [xa, .Tuple [.Name "tuple" p1, .Name "list" p2] k p3] [] pos) (Rx (wd X) (muE (.bi .istl [a])) (ev G (.bi .istl [a]))) := by
  have hT : PE X (.Name "tuple" p1) (tC (.ty "tuple")) := pe_bltn (gl_of ok hg1) (ok.bl _ (by simp [bnames])) PyProof.Rows.boot_tuple rfl
  have hL : PE X (.Name "list" p2) (tC (.ty "list")) := pe_bltn (gl_of ok hg2) (ok.bl _ (by simp [bnames])) PyProof.Rows.boot_list rfl
  refine PE.of (pe_callB call_isiT (gl_of ok hg) (ok.bl _ (by simp [bnames])) PyProof.Rows.boot_isinstance (pa_cons ha (pa_cons (pe_tup (pa_cons hT (pa_cons hL pa_nil))) pa_nil) (starEach_no hn)) (by decide) (by decide) (starEach_no hn) rfl) fun σ H Q ⟨Z, env, Os, q, m, rs, env', h1, h2⟩ => ?_
  simp only [muE, muEs, List.append_nil] at h2
  obtain ⟨ma, ra, h3, h4, rfl⟩ := bi_run1 h1
  obtain ⟨rfl, nd⟩ := isM_ok (show isM [.tuple, .list] ma = .ok m from h4)
  refine Rx.go q h3 fun x H1 ⟨Z1, Os1, O1, q1, s1, r1, ro1⟩ => ⟨by show 2 ≤ sizeLine; rw [sizeLine_eq]; decide, fun tp htp => ?_⟩
  have g : Grow H1 (upd H1 tp (.tup [.ty "tuple", .ty "list"])) := Grow.upd htp
  have r2 := r1.stay g.stay (fun _ z => z) fun a o _ h => g a o h
  refine ⟨x, tp, [.ty "tuple", .ty "list"], _, [.type "tuple", .type "list"], _, rfl, upd_same, .cons (.ty _) (.cons (.ty _) .nil), r2.ty nd, ?_, h2 _ _ ((New.pure (.bl ([Ty.tuple, Ty.list].contains (tyD ma)))).post (q1.grow g) (s1.grow g q1))⟩
  have k1 := kit_ty (K := (wd X).K) (kit_all (tyD ma) .tuple (by simp))
  have k2 := kit_ty (K := (wd X).K) (kit_all (tyD ma) .list (by simp))
  refine kitAny_cons k1 (fun h => kitAny_cons k2 (fun h' => ?_) fun h' => ?_) fun h => ?_
  · rw [kitAny_nil]; cases hx : tyD ma <;> simp_all
  · cases hx : tyD ma <;> simp_all
  · cases hx : tyD ma <;> simp_all
/-! ### methods -/
def plainBase : Expr → Bool
  | .Call (.Name _ _) [] [] _ => false
  | _ => true
theorem base_ok {o : Expr} {x : Str} {env : PySem.Env} (h : plainBase o = true) : attributeBase o x env (eval o env) = eval o env := by
  unfold attributeBase
  split
  · cases h
  · rfl
theorem few1 {e : Expr} {env : PySem.Env} {cpos : Pos} (h : noStar e = true) : ((backTo cpos (starEach [e] env)).all (fun x => !x.1) && (backToKw cpos (keywordEach [] env)).all (fun x => x.1.isSome)
    && decide (([e] : List Expr).length + ([] : List Keyword).length + (if ([] : List Keyword).isEmpty then 0 else 1) < 30)) = true := by
  rw [starEach_no h]; rfl
theorem few2 {e f : Expr} {env : PySem.Env} {cpos : Pos} (h : noStar e = true) (h2 : noStar f = true) : ((backTo cpos (starEach [e, f] env)).all (fun x => !x.1) && (backToKw cpos (keywordEach [] env)).all (fun x => x.1.isSome)
    && decide (([e, f] : List Expr).length + ([] : List Keyword).length + (if ([] : List Keyword).isEmpty then 0 else 1) < 30)) = true := by
  rw [starEach_no h, starEach_no h2]; rfl
theorem lst_ty {K : PySem.W.Frag} {x : V} {a : Addr} {vs : List V} (e : x = .ref a) (h : SqL K H a vs) : tyV K "list" x H := by
  subst e
  exact .inl ⟨rfl, vs, h⟩
theorem mt_run1 {mt : Mt} {rs : List Nat} (h : ev G (.mt mt a [b]) env = .ok (m, rs, env')) : ∃ ma ra e1 mb rb, ev G a env = .ok (ma, ra, e1) ∧ ev G b e1 = .ok (mb, rb, env') ∧ apart ra (muE b) = true ∧ mtD mt ma [mb] = .ok m ∧ rs = [] := by
  rw [ev] at h
  obtain ⟨⟨ma, ra, e1⟩, h1, h⟩ := R.bind_ok h
  obtain ⟨⟨ms, rb, e2⟩, h2, h⟩ := R.bind_ok h
  obtain ⟨mb, h3, rfl⟩ := evs1 h2
  obtain ⟨ap, h⟩ := R.of_if h
  obtain ⟨m', h4, h⟩ := R.bind_ok h
  cases h
  exact ⟨ma, ra, e1, mb, rb, h1, h3, by simpa [muEs] using ap, h4, rfl⟩
theorem m1_run {mt : Mt} {f : M → M → R M} (hf : ∀ x y, mtD mt x [y] = f x y) (hl : ∀ x y m, f x y = .ok m → ∃ ys, x.lst = .ok ys) {Q : VK} (h : Rx B (muE (.mt mt a [b])) (ev G (.mt mt a [b])) σ H Q) :
    tBM B.K "list" (rM1 B f) (Rx B (muE a) (ev G a)) (tCons (Rx B (muE b) (ev G b)) tNil) σ H Q := by
  obtain ⟨Z, env, Os, q, m, rs, env', h1, h2⟩ := h
  simp only [muE, muEs, List.append_nil] at h2
  obtain ⟨ma, ra, e1, mb, rb, h3, h4, ap, h5, rfl⟩ := mt_run1 h1
  rw [hf] at h5
  refine Rx.go q h3 fun x H1 ⟨Z1, Os1, O1, q1, s1, r1, ro1⟩ => ⟨?_, Rx.go q1 h4 fun y H2 ⟨Z2, Os2, O2, q2, s2, r2, ro2⟩ =>
    ⟨y, Z2, ma, mb, m, O1, O2, rfl, q2.zh, carry q1 r1 ro1 s2 ap, r2, h5, fun v H' n => h2 v H' (n.post q2 (s1.trans s2 ml mr))⟩⟩
  obtain ⟨ys, h6⟩ := hl _ _ _ h5
  obtain ⟨a, vs, e, _, h7⟩ := r1.lst h6
  exact lst_ty e h7
theorem idxM_lst {x y m : M} (h : idxM x y = .ok m) : ∃ ys, x.lst = .ok ys := by
  unfold idxM at h
  split at h
  · obtain ⟨ys, h1, _⟩ := R.bind_ok h
    exact ⟨ys, h1⟩
  · cases h
theorem cntM_lst {x y m : M} (h : cntM x y = .ok m) : ∃ ys, x.lst = .ok ys := by
  unfold cntM at h
  split at h
  · obtain ⟨ys, h1, _⟩ := R.bind_ok h
    exact ⟨ys, h1⟩
  · cases h
variable {ap cp : Pos}
theorem k_index (ok : XOk G C X) (ha : PE X xa (Rx (wd X) (muE a) (ev G a))) (hb : PE X xb (Rx (wd X) (muE b) (ev G b))) (hn : noStar xb = true) (hp : plainBase xa = true) (hl : (ap.endLine == cp.line) = true) :
    PE X (.Call (.Attribute xa "index" ap) [xb] [] cp) (Rx (wd X) (muE (.mt .index a [b])) (ev G (.mt .index a [b]))) :=
  PE.of (pe_bm PySem.F.plainAttrs_list PySem.F.slot_list_index PySem.F.type_list_index (mt_indexM ok.hu) ha (pa_cons hb pa_nil (starEach_no hn)) (base_ok hp) (few1 hn) hl (starEach_no hn) rfl) fun σ H Q h => m1_run (f := idxM) (fun _ _ => rfl) (fun _ _ _ h => idxM_lst h) h
theorem k_count (ok : XOk G C X) (ha : PE X xa (Rx (wd X) (muE a) (ev G a))) (hb : PE X xb (Rx (wd X) (muE b) (ev G b))) (hn : noStar xb = true) (hp : plainBase xa = true) (hl : (ap.endLine == cp.line) = true) :
    PE X (.Call (.Attribute xa "count" ap) [xb] [] cp) (Rx (wd X) (muE (.mt .count a [b])) (ev G (.mt .count a [b]))) :=
  PE.of (pe_bm PySem.F.plainAttrs_list PySem.F.slot_list_count PySem.F.type_list_count (mt_countM ok.hu) ha (pa_cons hb pa_nil (starEach_no hn)) (base_ok hp) (few1 hn) hl (starEach_no hn) rfl) fun σ H Q h => m1_run (f := cntM) (fun _ _ => rfl) (fun _ _ _ h => cntM_lst h) h
theorem getM_at {x y m : M} {e : D} (h : getM x y e = .ok m) : ∃ k kvs, y = .pu k ∧ x.dic = .ok kvs ∧ keyFit kvs k = true ∧ m = .pu ((dLook kvs k).getD e) := by
  unfold getM at h
  split at h
  · obtain ⟨kvs, h1, h⟩ := R.bind_ok h
    obtain ⟨hk, h⟩ := R.of_if h
    cases h
    exact ⟨_, kvs, rfl, h1, hk, rfl⟩
  · cases h
theorem k_get1 (ok : XOk G C X) (ha : PE X xa (Rx (wd X) (muE a) (ev G a))) (hb : PE X xb (Rx (wd X) (muE b) (ev G b))) (hn : noStar xb = true) (hp : plainBase xa = true) (hl : (ap.endLine == cp.line) = true) :
    PE X (.Call (.Attribute xa "get" ap) [xb] [] cp) (Rx (wd X) (muE (.mt .get a [b])) (ev G (.mt .get a [b]))) := by
  refine PE.of (pe_getA ok.hu ha hb ⟨base_ok hp, few1 hn, hl, by rw [starEach_no hn]; rfl⟩) fun σ H Q ⟨Z, env, Os, q, m, rs, env', h1, h2⟩ => ?_
  simp only [muE, muEs, List.append_nil] at h2
  obtain ⟨ma, ra, e1, mb, rb, h3, h4, ap, h5, rfl⟩ := mt_run1 h1
  obtain ⟨k, kvs, rfl, h6, h7, rfl⟩ := getM_at (show getM ma mb .none = .ok m from h5)
  refine Rx.go q h3 fun x H1 ⟨Z1, Os1, O1, q1, s1, r1, ro1⟩ => ?_
  obtain ⟨p, rfl, hd⟩ := isDX_rm r1 h6
  refine ⟨p, rfl, hd, Rx.go q1 h4 fun y H2 ⟨Z2, Os2, O2, q2, s2, r2, ro2⟩ => ?_⟩
  refine get_fit (carry q1 r1 ro1 s2 ap) h6 r2 h7 (fun w d h8 h9 => ?_) fun h8 => ?_
  · rw [h8] at h2
    exact h2 _ _ ((New.pure h9).post q2 (s1.trans s2 ml mr))
  · rw [h8] at h2
    exact h2 _ _ ((New.pure .non).post q2 (s1.trans s2 ml mr))
theorem k_get2 (ok : XOk G C X) (ha : PE X xa (Rx (wd X) (muE a) (ev G a))) (hb : PE X xb (Rx (wd X) (muE b) (ev G b))) (hc : PE X xc (Rx (wd X) (muE c) (ev G c))) (hn : noStar xb = true) (hn2 : noStar xc = true) (hp : plainBase xa = true) (hl : (ap.endLine == cp.line) = true) :
    PE X (.Call (.Attribute xa "get" ap) [xb, xc] [] cp) (Rx (wd X) (muE (.mt .get a [b, c])) (ev G (.mt .get a [b, c]))) := by
  refine PE.of (pe_getB ok.hu ha hb hc ⟨base_ok hp, few2 hn hn2, hl, by rw [starEach_no hn, starEach_no hn2]; rfl⟩) fun σ H Q ⟨Z, env, Os, q, m, rs, env', h1, h2⟩ => ?_
  simp only [muE, muEs, List.append_nil] at h2
  rw [ev] at h1
  obtain ⟨⟨ma, ra, e1⟩, h3, h1⟩ := R.bind_ok h1
  obtain ⟨⟨ms, rb, e2⟩, h4, h1⟩ := R.bind_ok h1
  obtain ⟨mb, rb, e3, mc, rc, h5, h6, ap2, rfl⟩ := evs2 h4
  obtain ⟨ap, h1⟩ := R.of_if h1
  obtain ⟨m', h7, h1⟩ := R.bind_ok h1
  cases h1
  simp only [muEs, List.append_nil] at ap
  have hpu : ∃ d, mc = .pu d ∧ getM ma mb d = .ok m := by
    cases mc with
    | pu d => exact ⟨d, rfl, h7⟩
    | _ => cases h7
  obtain ⟨d, rfl, h7⟩ := hpu
  obtain ⟨k, kvs, rfl, h8, h9, rfl⟩ := getM_at h7
  have ap0 : apart ra (muE b) = true ∧ apart ra (muE c) = true := by
    unfold apart at ap ⊢
    simp only [List.all_eq_true] at ap ⊢
    exact ⟨fun i hi => by have := ap i hi; simp only [List.contains_eq_mem, List.mem_append, Bool.not_eq_true', decide_eq_false_iff_not, not_or] at this ⊢; exact this.1,
      fun i hi => by have := ap i hi; simp only [List.contains_eq_mem, List.mem_append, Bool.not_eq_true', decide_eq_false_iff_not, not_or] at this ⊢; exact this.2⟩
  refine Rx.go q h3 fun x H1 ⟨Z1, Os1, O1, q1, s1, r1, ro1⟩ => ?_
  obtain ⟨p, rfl, hd⟩ := isDX_rm r1 h8
  refine ⟨p, rfl, hd, Rx.go q1 h5 fun y H2 ⟨Z2, Os2, O2, q2, s2, r2, ro2⟩ => Rx.go q2 h6 fun z H3 ⟨Z3, Os3, O3, q3, s3, r3, ro3⟩ => ?_⟩
  have s23 := s2.trans s3 (mu := muE b ++ muE c) ml mr
  have r2' : RM (wd X) Z3 H3 y (.pu k) O2 := by cases r2 with | pu r2 => exact .pu (r2.stay (s3.stay q2) s3.zz)
  refine get_fit (carry q1 r1 ro1 s23 ap) h8 r2' h9 (fun w d' h10 h11 => ?_) fun h10 => ?_
  · rw [h10] at h2
    exact h2 _ _ ((New.pure h11).post q3 (s1.trans s23 ml mr))
  · rw [h10] at h2
    cases r3 with | pu r3 => exact h2 _ _ ((New.pure r3).post q3 (s1.trans s23 ml mr))
/-! ### list(range(..)), tuple(range(..)) -/
theorem rng_view {v : V} {i : Int} {O : List Addr} (r : RM B Z H v (.pu (.int i)) O) : v = .int i := r.int
theorem rg_rp (lo hi : Int) : RpL B Z H (rgV lo hi) (rngD lo hi) := by
  unfold rgV rngD
  generalize List.range (hi - lo).toNat = l
  induction l with
  | nil => exact .nil
  | cons i l ih => exact .cons (.int _) ih
theorem rgC_at {i j : Int} (h : rgC i j = true) : -(2 ^ 62) ≤ i ∧ i < 2 ^ 62 ∧ -(2 ^ 62) ≤ j ∧ j < 2 ^ 62 := of_decide_eq_true h
theorem rgB_at {i j : Int} (h : rgB i j = true) : RgOk i j := by
  unfold rgB at h
  simp only [Bool.and_eq_true, decide_eq_true_eq] at h
  obtain ⟨h1, h2⟩ := h
  obtain ⟨a1, a2, a3, a4⟩ := rgC_at h1
  exact ⟨a1, a2, a3, a4, h2⟩
theorem rgOf_1 {m : M} {i j : Int} (h : rgOf [m] = .ok (i, j)) : m = .pu (.int j) ∧ i = 0 := by
  cases m with
  | pu d => cases d <;> first | (simp only [rgOf] at h; cases h; done) | (simp only [rgOf] at h; cases h; exact ⟨rfl, rfl⟩)
  | _ => simp only [rgOf] at h; cases h
theorem rgOf_2 {m n : M} {i j : Int} (h : rgOf [m, n] = .ok (i, j)) : m = .pu (.int i) ∧ n = .pu (.int j) := by
  cases m with
  | pu d =>
    cases n with
    | pu e => cases d <;> first | (simp only [rgOf] at h; cases h; done) | (cases e <;> first | (simp only [rgOf] at h; cases h; done) | (simp only [rgOf] at h; cases h; exact ⟨rfl, rfl⟩))
    | _ => simp only [rgOf] at h; cases h
  | _ => simp only [rgOf] at h; cases h
/-- a range's bounds -/
def Gx (B : Wd) (mu : List Nat) (run : Env → R (Int × Int × Env)) : L2.St → Hp → (Int → Int → Hp → Prop) → Prop := fun σ H Q =>
  ∃ Z env Os, Sat B Z σ H env Os ∧ ∃ i j env', run env = .ok (i, j, env') ∧ ∀ H', BPost B mu σ Z H env Os env' H' → Q i j H'
def gRun (G : List Fn) (es : List E) : Env → R (Int × Int × Env) := fun env => do
  let (ms, _, e1) ← evs G es env
  let (i, j) ← rgOf ms
  R.ok (i, j, e1)
theorem PRg.of {e : Expr} {t t' : L2.St → Hp → (Int → Int → Hp → Prop) → Prop} (h : PRg X e t) (w : ∀ σ H Q, t' σ H Q → t σ H Q) : PRg X e t' := fun pins s σ H Q I q => h pins s σ H Q I (w σ H Q q)
theorem g_1 (ok : XOk G C X) (hg : glB C.sc "range" = true) (ha : PE X xa (Rx (wd X) (muE a) (ev G a))) (hn : noStar xa = true) : PRg X (.Call (.Name "range" p) [xa] [] pos) (Gx (wd X) (muEs [a]) (gRun G [a])) := by
  refine PRg.of (prg_1 (gl_of ok hg) (ok.bl _ (by simp [bnames])) ha (starEach_no hn)) fun σ H Q ⟨Z, env, Os, q, i, j, env', h1, h2⟩ => ?_
  unfold gRun at h1
  simp only [muEs, List.append_nil] at h2
  obtain ⟨⟨ms, r, e1⟩, h3, h1⟩ := R.bind_ok h1
  obtain ⟨⟨i', j'⟩, h4, h1⟩ := R.bind_ok h1
  cases h1
  obtain ⟨m, h5, rfl⟩ := evs1 h3
  obtain ⟨rfl, rfl⟩ := rgOf_1 h4
  refine Rx.go q h5 fun x H1 p => ?_
  obtain ⟨Z1, Os1, q1, s1, r1⟩ := p.pure
  cases r1
  exact ⟨_, rfl, h2 _ ⟨Z1, Os1, q1, s1⟩⟩
theorem g_2 (ok : XOk G C X) (hg : glB C.sc "range" = true) (ha : PE X xa (Rx (wd X) (muE a) (ev G a))) (hb : PE X xb (Rx (wd X) (muE b) (ev G b))) (hn : noStar xa = true) (hn2 : noStar xb = true) : PRg X (.Call (.Name "range" p) [xa, xb] [] pos) (Gx (wd X) (muEs [a, b]) (gRun G [a, b])) := by
  refine PRg.of (prg_2 (gl_of ok hg) (ok.bl _ (by simp [bnames])) ha hb (starEach_no hn) (starEach_no hn2) (backTo_no (by simp [hn2]))) fun σ H Q ⟨Z, env, Os, q, i, j, env', h1, h2⟩ => ?_
  unfold gRun at h1
  simp only [muEs, List.append_nil] at h2
  obtain ⟨⟨ms, r, e1⟩, h3, h1⟩ := R.bind_ok h1
  obtain ⟨⟨i', j'⟩, h4, h1⟩ := R.bind_ok h1
  cases h1
  obtain ⟨ma, ra, e1, mb, rb, h5, h6, ap, rfl⟩ := evs2 h3
  obtain ⟨rfl, rfl⟩ := rgOf_2 h4
  refine Rx.go q h5 fun x H1 p1 => ?_
  obtain ⟨Z1, Os1, q1, s1, r1⟩ := p1.pure
  cases r1
  refine Rx.go q1 h6 fun y H2 p2 => ?_
  obtain ⟨Z2, Os2, q2, s2, r2⟩ := p2.pure
  cases r2
  exact ⟨_, _, rfl, rfl, h2 _ ⟨Z2, Os2, q2, s1.trans s2 ml mr⟩⟩
theorem k_rgl (ok : XOk G C X) {t : Bool} (hg : glB C.sc nm = true) (hnm : nm = if t then "tuple" else "list") (h : PRg X xa (Gx (wd X) (muEs es) (gRun G es))) (hn : noStar xa = true) :
    PE X (.Call (.Name nm p) [xa] [] pos) (Rx (wd X) (muE (.rgl t es)) (ev G (.rgl t es))) := by
  have run : ∀ {σ H Q}, Rx (wd X) (muE (.rgl t es)) (ev G (.rgl t es)) σ H Q → Gx (wd X) (muEs es) (gRun G es) σ H fun i j H1 => RgOk i j ∧ ∀ q its, H1 q = none → Q (.ref q) (upd H1 q (if t = true then .frz (tupO its) (.tup (rgV i j)) else .lst (rgV i j))) := by
    intro σ H Q ⟨Z, env, Os, q, m, rs, env', h1, h2⟩
    rw [ev] at h1
    simp only [muE] at h2
    obtain ⟨⟨ms, r, e1⟩, h3, h1⟩ := R.bind_ok h1
    obtain ⟨⟨i, j⟩, h4, h1⟩ := R.bind_ok h1
    obtain ⟨hb, h1⟩ := R.of_if h1
    cases h1
    have hg : gRun G es env = .ok (i, j, env') := by
      unfold gRun; rw [h3]; show (rgOf ms >>= _) = _; rw [h4]; rfl
    refine ⟨Z, env, Os, q, i, j, env', hg, fun H1 ⟨Z1, Os1, q1, s1⟩ => ⟨rgB_at hb, fun p its hp => ?_⟩⟩
    cases t with
    | true => exact h2 _ _ ((New.tup hp (rg_rp i j)).post q1 s1)
    | false => exact h2 _ _ ((New.li hp (rg_rp i j)).post q1 s1)
  cases t with
  | true =>
    simp only [if_true] at hnm
    subst hnm
    exact PE.of (pe_tupRgD ok.calm (gl_of ok hg) (ok.bl _ (by simp [bnames])) h (starEach_no hn)) fun σ H Q h => run h
  | false =>
    simp only [Bool.false_eq_true, if_false] at hnm
    subst hnm
    exact PE.of (pe_listRg ok.calm (gl_of ok hg) (ok.bl _ (by simp [bnames])) h (starEach_no hn)) fun σ H Q h => by
      obtain ⟨Z, env, Os, q, i, j, env', e, k⟩ := run h
      exact ⟨Z, env, Os, q, i, j, env', e, fun H' b => ⟨(k H' b).1, fun p hp => (k H' b).2 p [] hp⟩⟩
theorem k_dct0 : PE X (.Dict [] [] pos) (Rx (wd X) (muE (.dct [])) (ev G (.dct []))) := by
  refine PE.of (PE.pin pe_dnewK) fun σ H Q ⟨Z, env, Os, q, m, rs, env', h1, h2⟩ => fun p hp => .inr ⟨p, [], upd_same, fun es ep pn => ?_⟩
  simp only [ev, evKs] at h1
  obtain ⟨⟨kvs, e1⟩, h3, h4⟩ := R.bind_ok h1
  cases h3
  cases h4
  rw [upd_upd]
  exact h2 _ _ (New.post ⟨Grow.upd hp, [p], .dA upd_same pn .nil, by simp, fun a ha => by simp at ha; subst ha; exact hp⟩ q Step.refl)
end
end TR
set_option Elab.async false
set_option linter.all false
set_option maxHeartbeats 4000000
namespace TR
open PySem PySem.Spec PyProof.Rows L2 StX
section
variable {G : List Fn} {C : Ctx} {X : Cx} {B : Wd} {Z Z' Z0 Z1 Z2 : Zn} {H H' H0 H1 H2 : Hp} {σ σ' : L2.St} {env env' env0 env1 : Env} {Os Os' Os0 Os1 : List (List Addr)} {mu : List Nat} {v : V} {m : M} {d : D} {a b c : E} {xa xb xc : Expr} {pos p p0 p1 p2 p3 : Pos} {es : List E} {xs : List Expr} {nm : Str}
/-! ### a slot gets another content -/
theorem flat_set {O1 : List Addr} {Os : List (List Addr)} {i : Nat} {a : Addr} (h : a ∈ (Os.set i O1).flatten) : (a ∈ O1 ∧ i < Os.length) ∨ (∃ j O, j ≠ i ∧ Os[j]? = some O ∧ a ∈ O) := by
  obtain ⟨j, O, h1, h2⟩ := mem_flat.mp h
  rcases getElem?_set_or h1 with ⟨rfl, rfl, hl⟩ | ⟨hj, h1⟩
  · exact .inl ⟨h2, hl⟩
  · exact .inr ⟨j, O, hj, h1, h2⟩
theorem nodup_set {O1 : List Addr} : ∀ {Os : List (List Addr)} {i : Nat}, Os.flatten.Nodup → O1.Nodup → (∀ a ∈ O1, ∀ j O, j ≠ i → Os[j]? = some O → a ∉ O) → (Os.set i O1).flatten.Nodup
  | [], i, h, _, _ => by simpa using h
  | P :: Os, 0, h, h1, h2 => by
    simp only [List.set_cons_zero, List.flatten_cons]
    rw [List.flatten_cons] at h
    refine List.nodup_append.mpr ⟨h1, (List.nodup_append.mp h).2.1, fun a ha b hb e => ?_⟩
    subst e
    obtain ⟨j, O, h3, h4⟩ := mem_flat.mp hb
    exact h2 a ha (j + 1) O (by simp) (by simpa using h3) h4
  | P :: Os, i + 1, h, h1, h2 => by
    simp only [List.set_cons_succ, List.flatten_cons]
    rw [List.flatten_cons] at h
    obtain ⟨k1, k2, k3⟩ := List.nodup_append.mp h
    refine List.nodup_append.mpr ⟨k1, nodup_set k2 h1 fun a ha j O hj ho => h2 a ha (j + 1) O (by omega) (by simpa using ho), fun a ha b hb e => ?_⟩
    subst e
    rcases flat_set hb with ⟨k4, _⟩ | ⟨j, O, k4, k5, k6⟩
    · exact h2 a k4 0 P (by simp) rfl ha
    · exact k3 a ha a (mem_flat.mpr ⟨j, O, k5, k6⟩) rfl
theorem own_apart (q : Sat B Z σ H env Os) {i j : Nat} {O O' : List Addr} {a : Addr} (hn : i ≠ j) (h1 : Os[i]? = some O) (h2 : Os[j]? = some O') (h3 : a ∈ O) : a ∉ O' := fun h4 => flat_set_nil.flat_apart q.nd hn h1 h2 h3 h4
theorem Sat.upd {i : Nat} {Oi O1 : List Addr} {m1 : M} {v1 : V} (q : Sat B Z σ H env Os) (hO : Os[i]? = some Oi) (keep : ∀ a o, H a = some o → a ∉ Oi → H' a = some o) (zz : ∀ a, Z a → Z' a) (zn : ∀ a, Z' a → (Z a ∨ H a = none ∨ a ∈ Oi) ∧ H' a ≠ none)
    (hl : σ'.length = σ.length) (hv : σ'[i]? = some (some v1)) (hs : ∀ j, j ≠ i → σ'[j]? = σ[j]?) (r : RM B Z' H' v1 m1 O1) (nd : O1.Nodup) (ho : ∀ a ∈ O1, ¬ Z' a ∧ ∀ j O, j ≠ i → Os[j]? = some O → a ∉ O) : Sat B Z' σ' H' (env.set i (some m1)) (Os.set i O1) := by
  have hi : i < env.length := by rw [← q.len1]; exact (List.getElem?_eq_some_iff.mp hO).1
  have hOl : i < Os.length := (List.getElem?_eq_some_iff.mp hO).1
  have st : Stay Z H H' := ⟨fun a o z e => keep a o e fun h => q.nz a (mem_flat.mpr ⟨i, Oi, hO, h⟩) z, fun a ys e => keep a _ e fun h => q.not_tup e (mem_flat.mpr ⟨i, Oi, hO, h⟩), fun a o u e => keep a _ e fun h => q.not_frz e (mem_flat.mpr ⟨i, Oi, hO, h⟩)⟩
  refine ⟨by rw [List.length_set, List.length_set]; exact q.len1, by rw [hl, q.len2, List.length_set], fun j m e => ?_, fun j e => ?_, nodup_set q.nd nd fun a ha => (ho a ha).2, fun a ha z => ?_, fun a z => (zn a z).2⟩
  · rcases getElem?_set_or e with ⟨rfl, e1, _⟩ | ⟨hj, e1⟩
    · cases e1
      exact ⟨v1, O1, hv, List.getElem?_set_self hOl, r⟩
    · obtain ⟨w, O, h1, h2, h3⟩ := q.val j m e1
      exact ⟨w, O, by rw [hs j hj]; exact h1, by rw [List.getElem?_set_ne (Ne.symm hj)]; exact h2, h3.stay st zz fun a o ha e => keep a o e (own_apart q hj h2 hO ha)⟩
  · rcases getElem?_set_or e with ⟨rfl, e1, _⟩ | ⟨hj, e1⟩
    · cases e1
    · rw [List.getElem?_set_ne (Ne.symm hj)]; exact q.emp j e1
  · rcases flat_set ha with ⟨h1, _⟩ | ⟨j, O, h1, h2, h3⟩
    · exact (ho a h1).1 z
    · have hm := mem_flat.mpr ⟨j, O, h2, h3⟩
      rcases (zn a z).1 with k | k | k
      · exact q.nz a hm k
      · exact q.there hm k
      · exact own_apart q h1 h2 hO h3 k
theorem Step.upd {i : Nat} {Oi O1 : List Addr} {w : Option M} (s : Step mu Z0 H0 env0 Os0 Z H env Os) (q : Sat B Z σ H env Os) (hm : i ∈ mu) (hO : Os[i]? = some Oi) (keep : ∀ a o, H a = some o → a ∉ Oi → H' a = some o) (dom : ∀ a, H' a = none → H a = none)
    (zz : ∀ a, Z a → Z' a) (zn : ∀ a, Z' a → Z a ∨ H a = none ∨ a ∈ Oi) (on : ∀ a ∈ O1, H0 a = none ∨ a ∈ Os0.flatten) : Step mu Z0 H0 env0 Os0 Z' H' (env.set i w) (Os.set i O1) := by
  have inO : ∀ a ∈ Oi, H0 a = none ∨ a ∈ Os0.flatten := fun a h => s.on a (mem_flat.mpr ⟨i, Oi, hO, h⟩)
  refine ⟨by rw [List.length_set]; exact s.elen, fun a z => zz a (s.zz a z), fun a z => ?_, fun a ha => ?_, fun a o e hn => ?_, fun a e => s.dom a (dom a e), fun j hj => ?_⟩
  · rcases zn a z with k | k | k
    · exact s.zn a k
    · exact .inr (.inl (s.dom a k))
    · exact .inr (inO a k)
  · rcases flat_set ha with ⟨h1, _⟩ | ⟨j, O, h1, h2, h3⟩
    · exact on a h1
    · exact s.on a (mem_flat.mpr ⟨j, O, h2, h3⟩)
  · refine keep a o (s.keep a o e hn) fun h => ?_
    rcases inO a h with k | k
    · rw [k] at e; cases e
    · exact hn k
  · have hn : i ≠ j := fun e => hj (e ▸ hm)
    obtain ⟨h1, h2, h3⟩ := s.slot j hj
    rw [List.getElem?_set_ne hn, List.getElem?_set_ne hn]
    refine ⟨h1, h2, fun O hO2 a ha => ?_⟩
    have hin : Os[j]? = some O := h2.trans hO2
    obtain ⟨u, hu⟩ := Mut.some (q.own a (mem_flat.mpr ⟨j, O, hin, ha⟩))
    rw [keep a u hu (own_apart q (Ne.symm hn) hin hO ha), ← hu, h3 O hO2 a ha]
/-! ### calls of defs -/
theorem NewC.post {m : M} {v : V} (n : NewC B Z H m v H') (q : Sat B Z σ H env Os) (s : Step mu Z0 H0 env0 Os0 Z H env Os) : Post B mu σ Z0 H0 env0 Os0 m [] env v H' := by
  obtain ⟨g, Z', O, zz, zn, r, nd, ho⟩ := n
  refine ⟨Z', Os, O, ⟨q.len1, q.len2, fun i m e => let ⟨v, O, h1, h2, r⟩ := q.val i m e; ⟨v, O, h1, h2, r.stay g.stay zz fun a o _ h => g a o h⟩, q.emp, q.nd, fun a ha z => ?_, fun a z => (zn a z).2⟩, ?_, r, fun _ => ⟨List.nodup_append.mpr ⟨nd, q.nd, fun a h1 b h2 e => ?_⟩, fun a ha => ⟨(ho a ha).2, .inl (s.dom a (ho a ha).1)⟩⟩, fun h => (h rfl).elim, nd⟩
  · rcases (zn a z).1 with k | k
    · exact q.nz a ha k
    · exact q.there ha k
  · have s' := s.grow g q
    refine ⟨s'.elen, fun a z => zz a (s.zz a z), fun a z => ?_, s'.on, s'.keep, s'.dom, s'.slot⟩
    rcases (zn a z).1 with k | k
    · exact s.zn a k
    · exact .inr (.inl (s.dom a k))
  · subst e
    exact q.there h2 (ho a h1).1
theorem evTs_len : ∀ {es : List E} {env env' : Env} {ds : List D}, es.all (fun e => !isStar e) = true → evTs G es env = .ok (ds, env') → ds.length = es.length
  | [], env, env', ds, _, h => by simp only [evTs] at h; cases h; rfl
  | e :: es, env, env', ds, hs, h => by
    simp only [List.all_cons, Bool.and_eq_true, Bool.not_eq_true'] at hs
    rw [evTs_cons hs.1] at h
    obtain ⟨⟨d, e1⟩, h1, h⟩ := R.bind_ok h
    obtain ⟨⟨ds', e2⟩, h2, h⟩ := R.bind_ok h
    cases h
    simp [evTs_len hs.2 h2]
theorem call_run {k n : Nat} {f : FP} (hs : es.all (fun e => !isStar e) = true) (hn : es.length = n) (hf : G[k]? = some (.pr f)) {Q : VK} (h : Rx B (muE (.call k es)) (ev G (.call k es)) σ H Q) : tCall (spP B n f) [] E0 (Lx B (muTs es) (evTs G es)) σ H Q := by
  obtain ⟨Z, env, Os, q, m, rs, env', h1, h2⟩ := h
  simp only [ev] at h1
  simp only [muE] at h2
  obtain ⟨⟨ds, e1⟩, h3, h1⟩ := R.bind_ok h1
  obtain ⟨m', h4, h1⟩ := R.bind_ok h1
  cases h1
  have hfp : fpOf G k = f := by unfold fpOf; rw [hf]
  simp only [hfp] at h4
  refine ⟨Z, env, Os, q, ds, e1, h3, fun vs H1 ⟨Z1, Os1, q1, s1, r1⟩ => ?_⟩
  show spP B n f (vs ++ []) H1 Q E0
  rw [List.append_nil]
  refine ⟨by rw [r1.length, evTs_len hs h3, hn], Z1, ds, m, q1.zh, r1, h4, fun v H' nc => h2 v H' (nc.post q1 s1)⟩
theorem k_call (ok : XOk G C X) {k n : Nat} {f : FP} (hC : C.fn[k]? = some (nm, n)) (hf : G[k]? = some (.pr f)) (hg : glB C.sc nm = true) (hd : noDbg nm = true) (hs : es.all (fun e => !isStar e) = true) (hn : es.length = n) (ha : PA X (xa :: xs) (Lx (wd X) (muTs es) (evTs G es))) (hx : (xa :: xs).all noStar = true) :
    PE X (.Call (.Name nm p) (xa :: xs) [] pos) (Rx (wd X) (muE (.call k es)) (ev G (.call k es))) := by
  obtain ⟨j, fa, fd, ps, h1, h2, h3, h4, F, hr⟩ := ok.fns k nm n _ hC hf
  simp only [List.all_cons, Bool.and_eq_true] at hx
  exact PE.of (pe_call (dvs := []) (ds := []) F hr (gl_of ok hg) h1 h2 h3 .nil pass0 ha (noDbg_of hd).1 (starEach_no hx.1) (backTo_no hx.2)) fun σ H Q h => call_run hs hn hf h
theorem k_call0 (ok : XOk G C X) {k : Nat} {f : FP} (hC : C.fn[k]? = some (nm, 0)) (hf : G[k]? = some (.pr f)) (hg : glB C.sc nm = true) (hd : noDbg nm = true) :
    PE X (.Call (.Name nm p) [] [] pos) (Rx (wd X) (muE (.call k [])) (ev G (.call k []))) := by
  obtain ⟨j, fa, fd, ps, h1, h2, h3, h4, F, hr⟩ := ok.fns k nm 0 _ hC hf
  refine PE.of (pe_call0 (dvs := []) (ds := []) F hr (gl_of ok hg) h1 h2 h3 .nil pass0 (noDbg_of hd).1) fun σ H Q h => ?_
  obtain ⟨Z, env, Os, q, ds, env', h3, h4⟩ := call_run (es := []) rfl rfl hf h
  simp only [evTs] at h3
  cases h3
  exact h4 [] H ⟨Z, Os, q, Step.refl, .nil⟩
/-- behind a call that writes slot y -/
theorem NewW.post {y : Nat} {Oy : List Addr} {m m1 : M} {v w : V} (n : NewW B Z H Oy w m m1 v H') (q : Sat B Z σ H env Os) (s : Step mu Z0 H0 env0 Os0 Z H env Os) (hy : y ∈ mu) (hw : σ[y]? = some (some w)) (hO : Os[y]? = some Oy) :
    Post B mu σ Z0 H0 env0 Os0 m [] (env.set y (some m1)) v H' := by
  obtain ⟨keep, dom, Z', O', O1, zz, zn, r, r1, nd, ho⟩ := n
  obtain ⟨n1, n2, n3⟩ := List.nodup_append.mp nd
  have out : ∀ a ∈ O' ++ O1, ∀ j O, j ≠ y → Os[j]? = some O → a ∉ O := fun a ha j O hj hOj hin => by
    rcases (ho a ha).1 with k | k
    · exact q.there (mem_flat.mpr ⟨j, O, hOj, hin⟩) k
    · exact own_apart q hj hOj hO hin k
  have on : ∀ a ∈ O' ++ O1, H0 a = none ∨ a ∈ Os0.flatten := fun a ha => (ho a ha).1.elim (fun k => .inl (s.dom a k)) fun k => s.on a (mem_flat.mpr ⟨y, Oy, hO, k⟩)
  refine ⟨Z', Os.set y O1, O', q.upd hO keep zz zn rfl hw (fun _ _ => rfl) r1 n2 fun a ha => ⟨(ho a (List.mem_append_right _ ha)).2, out a (List.mem_append_right _ ha)⟩,
    s.upd q hy hO keep dom zz (fun a z => (zn a z).1) fun a ha => on a (List.mem_append_right _ ha), r, fun _ => ⟨List.nodup_append.mpr ⟨n1, ?_, fun a ha b hb e => ?_⟩, fun a ha => ⟨(ho a (List.mem_append_left _ ha)).2, on a (List.mem_append_left _ ha)⟩⟩, fun h => (h rfl).elim, n1⟩
  · exact nodup_set q.nd n2 fun a ha => out a (List.mem_append_right _ ha)
  · subst e
    rcases flat_set hb with ⟨k, _⟩ | ⟨j, O, k1, k2, k3⟩
    · exact n3 a ha a k rfl
    · exact out a (List.mem_append_left _ ha) j O k1 k2 k3
theorem k_callW (ok : XOk G C X) {k n y : Nat} {f : FW} {ynm : Str} (hC : C.fn[k]? = some (nm, n)) (hf : G[k]? = some (.wr f)) (hg : glB C.sc nm = true) (hd : noDbg nm = true) (hs : es.all (fun e => !isStar e) = true) (hn : es.length + 1 = n)
    (hN : C.N[y]? = some ynm) (hv : visB C.sc ynm = true) (hdy : noDbg ynm = true) (ha : PA X xs (Lx (wd X) (muTs es) (evTs G es))) (hx : xs.all noStar = true) :
    PE X (.Call (.Name nm p) (.Name ynm p2 :: xs) [] pos) (Rx (wd X) (muE (.callW k y es)) (ev G (.callW k y es))) := by
  obtain ⟨j, fa, fd, ps, h1, h2, h3, h4, F, hr⟩ := ok.fns k nm n _ hC hf
  have hp : PE X (.Name ynm p2) (tVar y) := pe_var (by rw [ok.N]; exact hN) (vis_of ok hv) (noDbg_of hdy).1 (noDbg_of hdy).2.1
  refine PE.of (pe_call (dvs := []) (ds := []) F hr (gl_of ok hg) h1 h2 h3 .nil pass0 (pa_cons hp ha) (noDbg_of hd).1 rfl (backTo_no hx)) fun σ H Q ⟨Z, env, Os, q, m, rs, env', h1, h2⟩ => ?_
  rw [ev] at h1
  simp only [muE] at h2
  obtain ⟨m00, h0, h1⟩ := R.bind_ok h1
  obtain ⟨⟨ds, e1⟩, h3, h1⟩ := R.bind_ok h1
  obtain ⟨m0, h4, h1⟩ := R.bind_ok h1
  obtain ⟨hown, h1⟩ := R.of_if h1
  obtain ⟨⟨m', m1⟩, h5, h1⟩ := R.bind_ok h1
  obtain ⟨hown1, h1⟩ := R.of_if h1
  cases h1
  have hfp : fwOf G k = f := by unfold fwOf; rw [hf]
  simp only [hfp] at h5
  obtain ⟨w, Ow, hw, _, _⟩ := q.val y m00 (Env.get_ok h0)
  refine ⟨w, hw, Z, env, Os, q, ds, e1, h3, fun vs H1 ⟨Z1, Os1, q1, s1, r1⟩ => ?_⟩
  show spW (wd X) n f ((w :: vs) ++ []) H1 Q E0
  rw [List.append_nil]
  obtain ⟨w', Oy, hw', hO, rw'⟩ := q1.val y m0 (Env.get_ok h4)
  rw [hw] at hw'; cases hw'
  refine ⟨by rw [List.length_cons, r1.length, evTs_len hs h3, hn], Z1, m0, w, ds, m, m1, Oy, vs, q1.zh, rfl, r1, rw', flat_mem q1.nd (List.mem_of_getElem? hO), fun a ha => q1.nz a (mem_flat.mpr ⟨y, Oy, hO, ha⟩), h5, fun v H' n => h2 v H' (n.post q1 (s1.mono fun i hi => List.mem_cons_of_mem _ hi) List.mem_cons_self hw hO)⟩
/-! ### y.pop(i) -/
def rPopM (B : Wd) : V → List V → Hp → VK → Prop := fun x vs H Q => ∃ l ws i k w, x = .ref l ∧ vs = [.int i] ∧ H l = some (.lst ws) ∧ ixN ws.length i = some k ∧ ws[k]? = some w ∧ Q w (upd H l (.lst (ws.eraseIdx k)))
theorem mt_popM : MtM X "list.pop" (rPopM (wd X)) := by
  intro pins s σ H x vs v us Q I rx rv ⟨l, ws, i, k, w, e1, e2, hH, hk, hw, q⟩
  subst e1 e2
  obtain ⟨z, its, n, r, hl, e⟩ := I.lstM hH
  obtain ⟨h1, h2, h3, h4⟩ := ixN_seq hk
  have hn := line63
  exact mt_popAt pins s σ H _ _ v us Q I rx rv ⟨l, ws, i, k, w, rfl, rfl, hH, by omega, by omega, h1, hw, q⟩
theorem k_popI (ok : XOk G C X) {y : Nat} {ynm : Str} {ap cp : Pos} (hN : C.N[y]? = some ynm) (hv : visB C.sc ynm = true) (hdy : noDbg ynm = true) (ha : PE X xa (Rx (wd X) (muE a) (ev G a))) (hn : noStar xa = true) (hl : (ap.endLine == cp.line) = true) :
    PE X (.Call (.Attribute (.Name ynm p2) "pop" ap) [xa] [] cp) (Rx (wd X) (muE (.popI y a)) (ev G (.popI y a))) := by
  have hp : PE X (.Name ynm p2) (tVar y) := pe_var (by rw [ok.N]; exact hN) (vis_of ok hv) (noDbg_of hdy).1 (noDbg_of hdy).2.1
  refine PE.of (pe_bm PySem.F.plainAttrs_list PySem.F.slot_list_pop PySem.F.type_list_pop mt_popM hp (pa_cons ha pa_nil (starEach_no hn)) rfl (few1 hn) hl (starEach_no hn) rfl) fun σ H Q ⟨Z, env, Os, q, m, rs, env', h1, h2⟩ => ?_
  rw [ev] at h1
  simp only [muE] at h2
  obtain ⟨m00, h0, h1⟩ := R.bind_ok h1
  obtain ⟨h00, h1⟩ := R.of_if h1
  obtain ⟨⟨mi, ri, e1⟩, h3, h1⟩ := R.bind_ok h1
  obtain ⟨i, h4, h1⟩ := R.bind_ok h1
  obtain ⟨m0, h5, h1⟩ := R.bind_ok h1
  have hmi := intR_ok h4
  split at h1
  · rename_i ds
    split at h1
    · rename_i k hk
      split at h1
      · rename_i d hd
        cases h1
        obtain ⟨w, Ow, hw, _, rw0⟩ := q.val y m00 (Env.get_ok h0)
        have hty : tyV (wd X).K "list" w H := by
          cases m00 with
          | li zs => cases rw0 with | li h r => exact lst_ty rfl (.inl (.of h))
          | _ => cases h00
        refine ⟨w, hw, hty, Rx.go q h3 fun x H1 p => ?_⟩
        rw [hmi] at p
        obtain ⟨Z1, Os1, q1, s1, r1⟩ := p.pure
        cases r1
        obtain ⟨w', Oy, hw', hO, rw1⟩ := q1.val y _ (Env.get_ok h5)
        rw [hw] at hw'; cases hw'
        cases rw1 with | li hH rl =>
        rename_i l ws
        obtain ⟨u, hu, ru⟩ := rl.get hd
        refine ⟨l, ws, i, k, u, rfl, rfl, hH, by rw [rl.length]; exact hk, hu, h2 _ _ ?_⟩
        have kp : ∀ a o, H1 a = some o → a ∉ [l] → upd H1 l (.lst (ws.eraseIdx k)) a = some o := fun a o e hn => by rw [upd_ne (by simpa using hn)]; exact e
        have dom : ∀ a, upd H1 l (.lst (ws.eraseIdx k)) a = none → H1 a = none := fun a e => by
          by_cases hal : a = l
          · subst hal; rw [upd_same] at e; cases e
          · rw [upd_ne hal] at e; exact e
        have st : Stay Z1 H1 (upd H1 l (.lst (ws.eraseIdx k))) := ⟨fun a o z e => kp a o e fun h => q1.nz a (mem_flat.mpr ⟨y, [l], hO, h⟩) z, fun a ys e => kp a _ e fun h => q1.not_tup e (mem_flat.mpr ⟨y, [l], hO, h⟩), fun a o u e => kp a _ e fun h => q1.not_frz e (mem_flat.mpr ⟨y, [l], hO, h⟩)⟩
        have ap : ∀ a ∈ [l], ¬ Z1 a ∧ ∀ j O, j ≠ y → Os1[j]? = some O → a ∉ O := fun a ha => ⟨fun z => q1.nz a (mem_flat.mpr ⟨y, [l], hO, ha⟩) z, fun j O hj hOj => own_apart q1 (Ne.symm hj) hO hOj ha⟩
        refine TPost.post ⟨Z1, Os1.set y [l], q1.upd hO kp (fun _ z => z) (fun a z => ⟨.inl z, fun e => q1.zh a z (dom a e)⟩) rfl hw (fun _ _ => rfl) (.li upd_same ((rl.stay st fun _ z => z).eraseIdx k)) (by simp) ap,
          (s1.mono fun i hi => List.mem_cons_of_mem _ hi).upd q1 List.mem_cons_self hO kp dom (fun _ z => z) (fun a z => .inl z) fun a ha => s1.on a (mem_flat.mpr ⟨y, [l], hO, ha⟩), ru.stay st fun _ z => z⟩
      · cases h1
    · cases h1
  · cases h1
end
end TR
set_option Elab.async false
set_option linter.all false
set_option maxHeartbeats 4000000
/-! sorted(set(a tuple of whole numbers)) -/
namespace TR
open PySem PySem.Spec PyProof.Rows L2
theorem insU_mem (k x : Int) : ∀ l : List Int, x ∈ insU k l ↔ x = k ∨ x ∈ l
  | [] => by simp [insU]
  | y :: l => by
    unfold insU
    split
    · simp
    · split
      · rename_i h; subst h; simp
      · rw [List.mem_cons, insU_mem k x l, List.mem_cons]
        constructor
        · rintro (h | h | h)
          · exact .inr (.inl h)
          · exact .inl h
          · exact .inr (.inr h)
        · rintro (h | h | h)
          · exact .inr (.inl h)
          · exact .inl h
          · exact .inr (.inr h)
theorem insU_pw (k : Int) : ∀ l : List Int, l.Pairwise (· < ·) → (insU k l).Pairwise (· < ·)
  | [], _ => by simp [insU]
  | y :: l, h => by
    obtain ⟨h1, h2⟩ := List.pairwise_cons.mp h
    unfold insU
    split
    · rename_i hk
      refine List.pairwise_cons.mpr ⟨fun z hz => ?_, h⟩
      rcases List.mem_cons.1 hz with e | e
      · rw [e]; exact hk
      · exact Int.lt_trans hk (h1 z e)
    · split
      · exact h
      · rename_i a b
        refine List.pairwise_cons.mpr ⟨fun z hz => ?_, insU_pw k l h2⟩
        rcases (insU_mem k z l).1 hz with e | e
        · rw [e]; omega
        · exact h1 z e
theorem sortU_mem (x : Int) (ns : List Int) : x ∈ sortU ns ↔ x ∈ ns := by
  induction ns with
  | nil => simp [sortU]
  | cons a ns ih =>
    have : sortU (a :: ns) = insU a (sortU ns) := rfl
    rw [this, insU_mem, ih, List.mem_cons]
theorem sortU_pw (ns : List Int) : (sortU ns).Pairwise (· < ·) := by
  induction ns with
  | nil => exact List.Pairwise.nil
  | cons a ns ih => exact insU_pw a _ ih
theorem pw_uniq : ∀ (a b : List Int), a.Pairwise (· < ·) → b.Pairwise (· < ·) → (∀ k, k ∈ a ↔ k ∈ b) → a = b
  | [], [], _, _, _ => rfl
  | [], y :: b, _, _, h => by have := (h y).2 (by simp); cases this
  | x :: a, [], _, _, h => by have := (h x).1 (by simp); cases this
  | x :: a, y :: b, h1, h2, h => by
    obtain ⟨p1, p2⟩ := List.pairwise_cons.mp h1
    obtain ⟨q1, q2⟩ := List.pairwise_cons.mp h2
    have e : x = y := by
      rcases List.mem_cons.1 ((h x).1 (by simp)) with e | e
      · exact e
      · rcases List.mem_cons.1 ((h y).2 (by simp)) with e2 | e2
        · exact e2.symm
        · have := p1 y e2; have := q1 x e; omega
    subst e
    congr 1
    refine pw_uniq a b p2 q2 fun k => ?_
    constructor
    · intro hk
      rcases List.mem_cons.1 ((h k).1 (by simp [hk])) with e | e
      · have := p1 k hk; omega
      · exact e
    · intro hk
      rcases List.mem_cons.1 ((h k).2 (by simp [hk])) with e | e
      · have := q1 k hk; omega
      · exact e
/-- sorted(set(x)), x a tuple of ints -/
def tSortSet (K : PySem.W.Frag) (ta : TE) : TE := fun σ H Q => ta σ H fun x H1 => ∃ (l : Addr) (ns : List Int), x = .ref l ∧ SqT K H1 l (ns.map V.int) ∧ ns.length < 64 ∧ ∀ p, H1 p = none → Q (.ref p) (upd H1 p (.lst ((sortU ns).map V.int)))
theorem pe_sortSet {X : Cx} {a : Expr} {ta : TE} {p p2 q pos : Pos} (hg : Gl X "sorted") (hm : X.mg "sorted" = none) (hg2 : Gl X "set") (hm2 : X.mg "set" = none) (ha : PE X a ta) (hc : X.calm = true)
    (na : starEach [a] X.env = (false, eval a X.env) :: starEach [] X.env) : PE X (.Call (.Name "sorted" p) [.Call (.Name "set" p2) [a] [] q] [] pos) (tSortSet X.K ta) := by
  refine ⟨fun pins s σ H Q I h => ?_⟩
  refine Call_ (ld_blt I hg hm PyProof.Rows.boot_sorted ?_)
  refine PyProof.Rows.callWith_builtin1 (PyProof.Rows.args_cons ?_ rfl) rfl rfl
  refine Call_ (ld_blt I hg2 hm2 boot_set ?_)
  refine PyProof.Rows.callWith_type1 (PyProof.Rows.args_cons (thn (ha.run pins s σ H _ I h) fun v s1 ⟨x, H1, I1, r1, q1⟩ => PyProof.Rows.args_nil ?_) na) na rfl
  obtain ⟨l, ns, rfl, hq, hl, q1⟩ := q1
  cases r1
  obtain ⟨its, r, pl, hz⟩ := I1.tuple hq
  refine L2.call_set_tupI ns (I1.ok.hd hc) pl (by simpa using RZ.intsAre_vals r) (by unfold scanBound; omega) fun h' tk c R hcl hk => ?_
  refine PyProof.Rows.args_nil ?_
  have I2 : Inv X pins σ H1 { s1 with heap := h', toks := tk } := I1.kept fun b o e => hk b o e
  have R2 : SetR X.w (Shared.heap { s1 with heap := h', toks := tk }) s1.heap.objs.size (fun j => decide (j ∈ ns)) c := R
  generalize ({ s1 with heap := h', toks := tk } : Shared) = s2 at I2 R2 ⊢
  refine sorted_set (s := s2) R2 (I1.ok.hd hc) (by omega) fun s' pp out cc ns' k g o hp hg hi hs hm hl2 => ?_
  have e1 : ns' = sortU ns := pw_uniq _ _ hs (sortU_pw ns) fun k => by rw [hm k, decide_eq_true_eq, sortU_mem]
  have hlen : (ns'.map V.int).length ≤ sizeLine := by rw [List.length_map, hl2, sizeLine_eq]; omega
  have hn : H1 pp = none := I2.hok.fresh hp
  have J : Inv X pins σ (upd H1 pp (.lst (ns'.map V.int))) { s2 with heap := s'.heap, gens := s'.gens, drawn := s'.drawn, toks := s'.toks } :=
    I2.call (ch := []) (Un.laid k hp hn) (I2.hok.laid k hp ⟨hlen, out.toList, cc, vals_of_ints hi, hg⟩) (by rw [g]; exact I2.bare) (fun _ z => nomatch z)
  have e : s' = { s2 with heap := s'.heap, gens := s'.gens, drawn := s'.drawn, toks := s'.toks } := by
    cases s'
    cases s2
    cases o
    rfl
  rw [e]
  exact ⟨.ref pp, _, J, rfl, by rw [e1]; exact q1 pp hn⟩
end TR
set_option Elab.async false
set_option linter.all false
set_option maxHeartbeats 4000000
namespace TR
open PySem PySem.Spec PyProof.Rows L2
theorem rpl_ints {B : Wd} {Z : Zn} {H : Hp} : ∀ (ns : List Int), RpL B Z H (ns.map V.int) (ns.map .int)
  | [] => .nil
  | n :: ns => .cons (.int _) (rpl_ints ns)
section
variable {G : List Fn} {C : Ctx} {X : Cx} {a : E} {xa : Expr} {pos p p2 q2 : Pos}
theorem w_sortSet (ok : XOk G C X) (hg : glB C.sc "sorted" = true) (hg2 : glB C.sc "set" = true) (ha : PE X xa (Rx (wd X) (muE a) (ev G a))) (hn : noStar xa = true) :
    PE X (.Call (.Name "sorted" p) [.Call (.Name "set" p2) [xa] [] q2] [] pos) (Rx (wd X) (muE (.bi .set [a, .cst .none])) (ev G (.bi .set [a, .cst .none]))) := by
  refine PE.of (pe_sortSet (gl_of ok hg) (ok.bl _ (by simp [bnames])) (gl_of ok hg2) (ok.bl _ (by simp [bnames])) ha ok.calm (by rw [starEach_no hn])) fun σ H Q ⟨Z, env, Os, q, m, rs, env', h1, h2⟩ => ?_
  obtain ⟨ma, ra, e1, mb, rb, h5, h6, ap, h7, rfl⟩ := bi_run2 h1
  have h8 : R.ok (M.pu PyData.none, ([] : List Nat), e1) = R.ok (mb, rb, env') := by rw [← h6, ev]
  cases h8
  have h9 : (do let z ← setM ma; sortM z) = R.ok m := by
    have h10 := h7
    cases ma <;> exact h10
  simp only [muE, muEs, List.append_nil] at h2
  obtain ⟨ms, h6', h4'⟩ := R.bind_ok h9
  unfold setM at h6'
  split at h6'
  · rename_i xs
    split at h6'
    · rename_i ns hns
      obtain ⟨hl, h11⟩ := R.of_if h6'
      cases h11
      unfold sortM at h4'
      simp only [hns] at h4'
      cases h4'
      refine Rx.go q h5 fun x H1 pp => ?_
      obtain ⟨Z1, Os1, q1, s1, r1⟩ := pp.pure
      cases r1 with
      | tup h r =>
        have hv := ints_vals r hns
        subst hv
        refine ⟨_, ns, rfl, h.sq, hl, fun p hp => h2 _ _ (New.post ⟨Grow.upd hp, [p], .li upd_same (rpl_ints _), by simp, fun a ha => ?_⟩ q1 s1)⟩
        rw [List.mem_singleton] at ha
        rw [ha]; exact hp
    · cases h6'
  · cases h6'
end
end TR
set_option Elab.async false
set_option linter.all false
set_option maxHeartbeats 4000000
/-! t.index(k), t a tuple of whole numbers -/
namespace TR
open PySem PySem.Spec PyProof.Rows L2 StX
section
variable {G : List Fn} {C : Ctx} {X : Cx} {B : Wd} {Z Z' Z1 Z2 : Zn} {H H' H1 H2 : Hp} {σ σ' : L2.St} {env env' env1 : Env} {Os Os' Os1 : List (List Addr)} {m : M} {a b : E} {xa xb : Expr} {ap cp : Pos}
/-- a method of a tuple of data -/
def tBMD (K : PySem.W.Frag) (r : V → List V → Hp → VK → Prop) (to : TE) (t : TA) : TE := fun σ H Q => to σ H fun x H1 => (∃ p xs, x = .ref p ∧ SqD K H1 p xs) ∧ t σ H1 fun ys H2 => r x ys H2 Q
theorem pe_bmD {name : Str} {id : String} {r : V → List V → Hp → VK → Prop} {o e : Expr} {es : List Expr} {to : TE} {t : TA} (slot : Slot "tuple" name id) (hty : typeOf (.builtin id) = pure (.type "method_descriptor")) (hm : MtR X id r) (ho : PE X o to) (ha : PA X (e :: es) t)
    (hbase : attributeBase o name X.env (eval o X.env) = eval o X.env)
    (hfew : ((backTo cp (starEach (e :: es) X.env)).all (fun x => !x.1) && (backToKw cp (keywordEach [] X.env)).all (fun x => x.1.isSome) && decide ((e :: es).length + ([] : List Keyword).length + (if ([] : List Keyword).isEmpty then 0 else 1) < 30)) = true)
    (hline : (ap.endLine == cp.line) = true) (hs : starEach (e :: es) X.env = (false, eval e X.env) :: starEach es X.env) (hplain : (backTo cp (starEach es X.env)).any (·.1) = false) :
    PE X (.Call (.Attribute o name ap) (e :: es) [] cp) (tBMD X.K r to t) := by
  refine ⟨fun pins s σ H Q I h => ?_⟩
  refine wpAny_Call_method_late hbase hfew hline rfl (thn (ho.run pins s σ H _ I h) fun v s1 ⟨x, H1, I1, r1, ⟨p, xs, ex, hq⟩, q1⟩ => ?_)
  subst ex
  have r0 := r1
  cases r1
  obtain ⟨its, hg, _⟩ := SqD.bare I1 hq
  refine ⟨"tuple", id, PySem.F.plainAttrs_tuple, slot, hty, ⟨_, hg, rfl⟩, fun c ec => ?_, ?_⟩
  · cases ec
    exact ⟨_, hg, rfl⟩
  have run := ha.run cp pins s1 σ H1 _ I1 q1
  rw [hs] at run ⊢
  refine Calls.callWith_builtin ?_ (Calls.evalArgs_plain (thn run fun us s2 ⟨vs, H2, I2, r2, q2⟩ => hm pins s2 σ H2 _ vs _ us Q I2 r0 r2 q2))
  show (false || (backTo cp (starEach es X.env)).any (·.1)) = false
  rw [hplain]
  rfl
theorem mt_tidx : MtR X "tuple.index" (rM1 (wd X) idxT) := by
  intro pins s σ H x xs v us Q I rx rxs ⟨y, Z, ma, mb, m, O1, O2, exs, zh, r1, r2, e, q⟩
  subst exs
  unfold idxT at e
  split at e
  · rename_i ds k
    split at e
    · rename_i ns hns
      obtain ⟨hk, e⟩ := R.of_if e
      cases e
      obtain ⟨p, vs, rfl, hp, rl⟩ := r1.tup
      have := r2.int; subst this
      cases rx
      obtain ⟨u, eu, ru⟩ := vals1 rxs
      subst eu
      obtain ⟨tk, rfl⟩ := ru
      have hv := ints_vals rl hns
      subst hv
      obtain ⟨its, rv, pt, _⟩ := I.tuple hp.sq
      exact PySem.SeqAt.tuple_index_ints pt (RZ.intsAre_vals rv) hk ⟨.int _, H, I.tok _, ⟨_, rfl⟩, q _ _ (.pure (.int _))⟩
    · cases e
  · cases e
theorem k_tidx (ok : XOk G C X) (ha : PE X xa (Rx (wd X) (muE a) (ev G a))) (hb : PE X xb (Rx (wd X) (muE b) (ev G b))) (hn : noStar xb = true) (hp : plainBase xa = true) (hl : (ap.endLine == cp.line) = true) :
    PE X (.Call (.Attribute xa "index" ap) [xb] [] cp) (Rx (wd X) (muE (.mt .tidx a [b])) (ev G (.mt .tidx a [b]))) := by
  refine PE.of (pe_bmD PySem.F.slot_tuple_index PySem.F.type_tuple_index mt_tidx ha (pa_cons hb pa_nil (starEach_no hn)) (base_ok hp) (few1 hn) hl (starEach_no hn) rfl) fun σ H Q ⟨Z, env, Os, q, m, rs, env', h1, h2⟩ => ?_
  simp only [muE, muEs, List.append_nil] at h2
  obtain ⟨ma, ra, e1, mb, rb, h3, h4, ap', h5, rfl⟩ := mt_run1 h1
  have h5' : idxT ma mb = .ok m := h5
  refine Rx.go q h3 fun x H1 ⟨Z1, Os1, O1, q1, s1, r1, ro1⟩ => ⟨?_, Rx.go q1 h4 fun y H2 ⟨Z2, Os2, O2, q2, s2, r2, ro2⟩ =>
    ⟨y, Z2, ma, mb, m, O1, O2, rfl, q2.zh, carry q1 r1 ro1 s2 ap', r2, h5', fun v H' n => h2 v H' (n.post q2 (s1.trans s2 ml mr))⟩⟩
  unfold idxT at h5'
  split at h5'
  · obtain ⟨p, vs, ex, hp', _⟩ := r1.tup
    exact ⟨p, vs, ex, hp'⟩
  · cases h5'
end
end TR
set_option Elab.async false
set_option linter.all false
set_option maxHeartbeats 4000000
/-! len(set(whole numbers)) -/
namespace TR
open PySem PySem.Spec PyProof.Rows L2
theorem sortU_nd (ns : List Int) : (sortU ns).Nodup := (sortU_pw ns).imp fun h e => by omega
theorem len_uniq {a b : List Int} (ha : a.Nodup) (hb : b.Nodup) (h : ∀ k, k ∈ a ↔ k ∈ b) : a.length = b.length := ((List.perm_ext_iff_of_nodup ha hb).2 h).length_eq
theorem fm_nd (val : Nat → Int) : ∀ i, (firstMet val i).Nodup
  | 0 => List.nodup_nil
  | i + 1 => by
    rw [firstMet_succ]
    unfold step_dedup
    split
    · exact fm_nd val i
    · rename_i h
      rw [List.nodup_append]
      refine ⟨fm_nd val i, by simp, fun a ha b hb e => ?_⟩
      rw [List.mem_singleton] at hb
      subst hb
      subst e
      exact h (List.any_eq_true.2 ⟨_, ha, by simp⟩)
theorem fm_mem (ns : List Int) (k : Int) : k ∈ firstMet (fun i => ns.getD i 0) ns.length ↔ k ∈ ns := by
  have h := firstMet_any (fun i => ns.getD i 0) ns.length k
  have e : (List.range ns.length).map (fun i => ns.getD i 0) = ns := by
    apply List.ext_getElem
    · simp
    · intro i h1 h2
      simp [List.getD_eq_getElem?_getD, h2]
  rw [e, Bool.eq_iff_iff, List.any_eq_true, List.any_eq_true] at h
  constructor
  · intro hk
    obtain ⟨x, hx, e⟩ := h.1 ⟨k, hk, by simp⟩
    rw [beq_iff_eq] at e
    rw [← e]; exact hx
  · intro hk
    obtain ⟨x, hx, e⟩ := h.2 ⟨k, hk, by simp⟩
    rw [beq_iff_eq] at e
    rw [← e]; exact hx
def tLenSet (K : PySem.W.Frag) (ta : TE) : TE := fun σ H Q => ta σ H fun x H1 => ∃ (l : Addr) (ns : List Int), x = .ref l ∧ (SqL K H1 l (ns.map V.int) ∨ SqT K H1 l (ns.map V.int)) ∧ ns.length < 64 ∧ Q (.int ((sortU ns).length : Nat)) H1
theorem pe_lenSet {X : Cx} {a : Expr} {ta : TE} {p p2 q pos : Pos} (hg : Gl X "len") (hm : X.mg "len" = none) (hg2 : Gl X "set") (hm2 : X.mg "set" = none) (ha : PE X a ta) (hc : X.calm = true)
    (na : starEach [a] X.env = (false, eval a X.env) :: starEach [] X.env) : PE X (.Call (.Name "len" p) [.Call (.Name "set" p2) [a] [] q] [] pos) (tLenSet X.K ta) := by
  refine ⟨fun pins s σ H Q I h => ?_⟩
  refine Call_ (ld_blt I hg hm boot_len ?_)
  refine PyProof.Rows.callWith_builtin1 (PyProof.Rows.args_cons ?_ rfl) rfl rfl
  refine Call_ (ld_blt I hg2 hm2 boot_set ?_)
  refine PyProof.Rows.callWith_type1 (PyProof.Rows.args_cons (thn (ha.run pins s σ H _ I h) fun v s1 ⟨x, H1, I1, r1, q1⟩ => PyProof.Rows.args_nil ?_) na) na rfl
  obtain ⟨l, ns, rfl, hq, hl, q1⟩ := q1
  cases r1
  rcases hq with hq | hq
  · obtain ⟨its, r, pl, hz⟩ := I1.list hq
    have hia : IntsAre its.toArray.toList ns := by simpa using RZ.intsAre_vals r
    have hsz : its.toArray.size = ns.length := by
      have q := IntsAre.length hia
      rw [Array.length_toList] at q
      exact q
    refine call_set_list (I1.ok.hd hc) pl.isList hia (by rw [hsz]; unfold scanBound; omega) fun h' tk S hk => ?_
    refine PyProof.Rows.args_nil ?_
    obtain ⟨o, es, ep, t, ho, hex, hd, _, _, hb, hf, hn⟩ := S
    rw [hsz] at hn
    have hn2 : es.size = (sortU ns).length := by
      rw [hn]
      exact len_uniq (fm_nd _ _) (sortU_nd ns) fun k => by rw [fm_mem, sortU_mem]
    refine call_len_set (s := { s1 with heap := h', toks := tk }) ho hex hd hf (by rw [hn2, ← hn2]; unfold scanBound at hb; omega) ?_
    have I2 : Inv X pins σ H1 { s1 with heap := h', toks := tk + 1 + 1 } := I1.kept fun b o e => hk b o (Heap.lt_size e) e
    refine ⟨.int ((sortU ns).length : Nat), H1, I2, ⟨_, by rw [hn2]⟩, q1⟩
  · obtain ⟨its, r, pl, hz⟩ := I1.tuple hq
    refine L2.call_set_tupI ns (I1.ok.hd hc) pl (by simpa using RZ.intsAre_vals r) (by unfold scanBound; omega) fun h' tk c R hcl hk => ?_
    refine PyProof.Rows.args_nil ?_
    obtain ⟨o, es, ep, t, ho, hex, hd, _, hnd, hmm, hb, hf, hn, _, _⟩ := R
    have hn2 : es.size = (sortU ns).length := by
      have h1 : (es.toList.map keyOf).length = es.size := by simp
      rw [← h1]
      exact len_uniq hnd (sortU_nd ns) fun k => by rw [← hmm k, decide_eq_true_eq, sortU_mem]
    refine call_len_set (s := { s1 with heap := h', toks := tk }) ho hex hd hf (by unfold scanBound at hb; omega) ?_
    have I2 : Inv X pins σ H1 { s1 with heap := h', toks := tk + 1 + 1 } := I1.kept fun b o e => hk b o e
    refine ⟨.int ((sortU ns).length : Nat), H1, I2, ⟨_, by rw [hn2]⟩, q1⟩
end TR
namespace TR
open PySem PySem.Spec PyProof.Rows L2
section
variable {G : List Fn} {C : Ctx} {X : Cx} {a : E} {xa : Expr} {pos p p2 q2 : Pos}
theorem w_lenSet (ok : XOk G C X) (hg : glB C.sc "len" = true) (hg2 : glB C.sc "set" = true) (ha : PE X xa (Rx (wd X) (muE a) (ev G a))) (hn : noStar xa = true) :
    PE X (.Call (.Name "len" p) [.Call (.Name "set" p2) [xa] [] q2] [] pos) (Rx (wd X) (muE (.bi .len [.bi .set [.bi .tuple [a], .cst .none]])) (ev G (.bi .len [.bi .set [.bi .tuple [a], .cst .none]]))) := by
  refine PE.of (pe_lenSet (gl_of ok hg) (ok.bl _ (by simp [bnames])) (gl_of ok hg2) (ok.bl _ (by simp [bnames])) ha ok.calm (by rw [starEach_no hn])) fun σ H Q ⟨Z, env, Os, q, m, rs, env', h1, h2⟩ => ?_
  obtain ⟨mb, rb, h3, h4, rfl⟩ := bi_run1 h1
  obtain ⟨mt, rt, e1, mn, rn, h5, h6, _, h7, rfl⟩ := bi_run2 h3
  have h8 : R.ok (M.pu PyData.none, ([] : List Nat), e1) = R.ok (mn, rn, env') := by rw [← h6, ev]
  cases h8
  obtain ⟨mx, rx, h9, h10, rfl⟩ := bi_run1 h5
  have h11 : tupM mx = .ok mt := h10
  obtain ⟨xs, hxs, e⟩ := R.bind_ok h11
  cases e
  have h12 : (do let z ← setM (.pu (.tuple xs)); sortM z) = .ok mb := h7
  obtain ⟨ms, h13, h14⟩ := R.bind_ok h12
  simp only [setM] at h13
  split at h13
  · rename_i ns hns
    obtain ⟨hl, e⟩ := R.of_if h13
    cases e
    simp only [sortM, hns] at h14
    cases h14
    have h15 : R.ok (M.pu (.int (((sortU ns).map PyData.int).length : Nat))) = R.ok m := h4
    cases h15
    simp only [muE, muEs, List.append_nil] at h2
    refine Rx.go q h9 fun x H1 ⟨Z1, Os1, O1, q1, s1, r1, ro1⟩ => ?_
    obtain ⟨a', vs, rfl, rl, hsq⟩ := r1.sq hxs
    have hv := ints_vals rl hns
    subst hv
    refine ⟨a', ns, rfl, hsq.imp id SqD.sq, hl, ?_⟩
    rw [List.length_map] at h2
    exact h2 _ _ ((New.pure (.int _)).post q1 s1)
  · cases h13
end
end TR
set_option Elab.async false
set_option linter.all false
set_option maxHeartbeats 4000000
set_option maxRecDepth 100000
/-! enumerate(tuple) -/
namespace TR
open PySem PySem.Spec PyProof.Rows L2
open AutoSeq1 (wpAny_loadPart')
/-- the pair of cells that enumerate lays over an iterator's cell o -/
def enO (n : Nat) : Obj := { cls := .type "enumerate", data := .fields #[.none, .bool false, .ref n, rawInt 0, .none, .none] }
theorem en_meets {v : Value} {o : Obj} {F : Heap → Prop} (Bg : Begins v o F) :
    Meets (Builtin.«enumerate.__new__» ⟨[.type "enumerate", v], []⟩) (fun _ R s => F s.heap ∧ R (.ok (.ret (.ref (s.heap.push o).objs.size))) { s with heap := (s.heap.push o).push (enO s.heap.objs.size) }) :=
  .of_wp fun prog w A R s h => by
    obtain ⟨hp, g, d, tk, os⟩ := s
    obtain ⟨h1, h⟩ := h
    have hs0 := sub_enumerate
    have st : ∀ {A' : Around} {E : Value → Shared → Prop} {Q : Value → Shared → Prop}, Q (.ref hp.objs.size) ⟨hp.push o, g, d, tk, os⟩ → wpAny (model prog w) A' (pyIter v) Q E ⟨hp, g, d, tk, os⟩ :=
      fun q => Bg.iter prog w _ _ ⟨hp, g, d, tk, os⟩ _ h1 q
    wp_walk using st
    refine wpAny_stack_any fun sk => wpAny_pure ?_
    split
    · rename_i c _ _ _ _ _
      cases (c == Value.type "enumerate") <;> (wp_walk using st; exact ⟨_, rfl, h⟩)
    · wp_walk using st
      exact ⟨_, rfl, h⟩
theorem en_call {prog : Program} {w : World} {A : Around} {E : Value → Shared → Prop} {s : Shared} {t : Addr} {items : Array Value} {Q : Value → Shared → Prop} (hT : s.heap.IsTuple t items)
    (h : ∀ h', IsEnum h' (s.heap.objs.size + 1) s.heap.objs.size 0 .none → h'.IsTupleIter s.heap.objs.size t 0 → (∀ b o, s.heap.get? b = some o → h'.get? b = some o) → Q (.ref (s.heap.objs.size + 1)) { s with heap := h' }) :
    wpAny (model prog w) A (call (.type "enumerate") [.ref t]) Q E s := by
  have Bg := begins_tuple t items
  refine callType_new F.called_enumerate (by decide) (F.typeCall_enumerate_1 _) (F.newCall_enumerate_1 _) (fun obj => F.args_object_init_2 obj _) F.entry_enumerate_new (en_meets Bg) ⟨hT, ?_⟩
  have hz : ∀ o : Obj, (s.heap.push o).objs.size = s.heap.objs.size + 1 := fun o => Heap.size_push ..
  show _ ∧ _
  rw [hz]
  have he : IsEnum ((s.heap.push { cls := .type "tuple_iterator", data := .fields #[.ref t, .int 0 0] }).push (enO s.heap.objs.size)) (s.heap.objs.size + 1) s.heap.objs.size 0 .none := by
    have := Heap.get?_push_size (s.heap.push { cls := .type "tuple_iterator", data := .fields #[.ref t, .int 0 0] }) (o := enO s.heap.objs.size) rfl
    rw [hz] at this; exact this
  exact ⟨⟨_, he, rfl⟩, h _ he ⟨_, Heap.get?_push_of_some _ (Heap.get?_push_size _ rfl), rfl, rfl⟩ fun b o y => Heap.get?_push_of_some _ (Heap.get?_push_of_some _ y)⟩
/-- a new pair is given -/
def YPairD (xs ys : Nat → Option V) : Nat → Hp → V → Hp → Prop := fun i H v H' => ∃ T x y, v = .ref T ∧ H T = none ∧ (∃ its, H' = upd H T (.frz (tupO its) (.tup [x, y]))) ∧ xs i = some x ∧ ys i = some y
/-- the tuple at a, each item in a new pair -/
def EnT (K : PySem.W.Frag) (a : Addr) : It :=
  ⟨fun i H => ∃ (ws : List V) (x : V), SqT K H a ws ∧ ws[i]? = some x, fun i H v H' => ∃ T x, v = .ref T ∧ H T = none ∧ (∃ its, H' = upd H T (.frz (tupO its) (.tup [.int (i : Nat), x]))) ∧ ∀ ws, SqT K H a ws → ws[i]? = some x, fun i H => ∃ ws : List V, SqT K H a ws ∧ ws.length = i⟩
theorem en_turn {P : Program} {w : World} {K : PySem.W.Frag} {ts : List Expr} {kk : Nat} {tpos : Pos} (a e it : Addr) (hai : a ≠ it) :
    Turn P w K (.Tuple ts kk tpos) (EnT K a) [e, it] e (fun i h => (∃ old, IsEnum h e it ((i : Nat) : Int) old) ∧ h.IsTupleIter it a i ∧ e ≠ it ∧ a ≠ e) where
  mem := by simp
  obj := fun i h st b hb => by
    obtain ⟨⟨old, he⟩, ⟨o, ho, hc, hd⟩, _⟩ := st
    rcases (show b = e ∨ b = it by simpa using hb) with z | z
    · rw [z]; exact ⟨_, he, fun v q => nomatch q⟩
    · rw [z]; exact ⟨o, ho, fun v q => by rw [hd] at q; cases q⟩
  keep := fun i h h' st k => let ⟨⟨old, he⟩, hi, hne⟩ := st; ⟨⟨old, k e (by simp) _ he⟩, hi.at fun o q => k it (by simp) o q, hne⟩
  item := by
    intro X hP hw hK hc i pins s σ H E I hf st hg
    subst hP hw hK
    obtain ⟨⟨old, he⟩, hit, hne, hae⟩ := st
    obtain ⟨ws, x, hq, hx⟩ := hg
    obtain ⟨its, rv, p, hz⟩ := I.tuple hq
    obtain ⟨u, hu, ru⟩ := rv.get hx
    have hel : e < s.heap.objs.size := Heap.lt_size he
    have hil : it < s.heap.objs.size := by obtain ⟨_, q, _⟩ := hit; exact Heap.lt_size q
    have hin : i < its.toArray.size := by
      have := (List.getElem?_eq_some_iff.mp hu).1
      simpa using this
    refine wpAny_pyNext_enum_itemC (Draws.tuple (A := X.A.in1) (I.ok.hd hc) it a hai its.toArray) he ⟨hit, p⟩ hin hne (by simp [hne, Ne.symm hae]) fun y h' tk hP ho hst hT hsz hk => ?_
    have hyu : y = u := by
      have e1 : its[i]? = some y := by simpa using hP
      rw [hu] at e1
      exact (Option.some.inj e1).symm
    subst hyu
    refine ⟨_, rfl, wpAny_letOwnedTupleGo_enum (s := { s with heap := h', toks := tk + 1 }) ho fun h'' he' sb => ?_⟩
    have hT2 : h''.get? s.heap.objs.size = some { cls := .type "tuple", data := .seq #[.int i tk, y] } := (sb.2 _ (Nat.ne_of_gt hel)).trans hT
    have new : ObjOk X.prog X.w (upd H s.heap.objs.size (.frz (tupO [.int i tk, y]) (.tup [.int (i : Nat), x]))) h'' s.heap.objs.size (.frz (tupO [.int i tk, y]) (.tup [.int (i : Nat), x])) :=
      ⟨hT2, by show 2 ≤ sizeLine; decide, [.int i tk, y], .cons ⟨_, rfl⟩ (.cons ru .nil), ⟨_, hT2, rfl, _, rfl⟩⟩
    have I1 : Inv X pins σ (upd H s.heap.objs.size (.frz (tupO [.int i tk, y]) (.tup [.int (i : Nat), x]))) { s with heap := h'', toks := tk + 1 } :=
      I.turnedNew (ch := [e, it]) (fun b ob hb q => (sb.2 b (fun z => hb (by simp [z]))).trans (hk b ob (fun z => hb (by simp [z])) (fun z => hb (by simp [z])) q)) hf (Nat.le_refl _) new
    refine ⟨.ref s.heap.objs.size, _, I1, rfl, ⟨_, x, rfl, I.hok.fresh (Nat.le_refl _), ⟨_, rfl⟩, fun ys hy => by rw [I.tuple_inj hy hq]; exact hx⟩, ⟨⟨y, ?_⟩, hst.1.at fun o q => (sb.2 it (Ne.symm hne)).trans q, hne, hae⟩, fun b hb => ?_⟩
    · have e1 : ((i + 1 : Nat) : Int) = (i : Int) + 1 := by omega
      rw [e1]; exact he'
    · have hb' : b < s.heap.objs.size := by
        rcases (show b = e ∨ b = it by simpa using hb) with z | z
        · rw [z]; exact hel
        · rw [z]; exact hil
      rw [upd_ne (Nat.ne_of_lt hb')]
      exact (hf b hb).1
  done := by
    intro X hP hw hK hc i pins s σ H E I hf st hg
    subst hP hw hK
    obtain ⟨⟨old, he⟩, hit, hne, hae⟩ := st
    obtain ⟨ws, hq, hx⟩ := hg
    obtain ⟨its, rv, p, hz⟩ := I.tuple hq
    obtain ⟨f0, f1, f2, f3, f4, f5⟩ := hf it (by simp)
    have hl : i = its.toArray.size := by rw [← hx, rv.length]; simp
    subst hl
    exact wpAny_pyNext_enum_endD (Draws.tuple (A := X.A.in1) (I.ok.hd hc) it a hai its.toArray) he ⟨hit, p⟩ fun h' eb => ⟨rfl, I.turned (t' := s.toks) (fun b o hb q => eb b o hb q) f0 f1 f3 f4 f5⟩
  self := fun A i s Q E st h => let ⟨⟨_, he⟩, _⟩ := st; wpAny_pyIter_enum he h
def iEnT (K : PySem.W.Frag) (ta : TA) : TI := fun σ H R => ta σ H fun vs H1 => ∃ a ws, vs = [.ref a] ∧ SqT K H1 a ws ∧ R (EnT K a) H1
theorem pi_enT {X : Cx} {e : Expr} {ta : TA} {p pos tpos : Pos} {ts : List Expr} {kk : Nat} (hg : Gl X "enumerate") (hm : X.mg "enumerate" = none) (ha : PA X [e] ta) (hs : starEach [e] X.env = [(false, eval e X.env)]) :
    PI X (.Tuple ts kk tpos) (.Call (.Name "enumerate" p) [e] [] pos) (iEnT X.K ta) := by
  refine ⟨fun pins s σ H R I h => ?_⟩
  refine Call_ (ld_blt I hg hm boot_enumerate (PyProof.Rows.callWith_type1 (thn (ha.run pos pins s σ H _ I h) fun us s1 ⟨vs, H1, I1, r1, q1⟩ => ?_) hs rfl))
  obtain ⟨a, ws, ex, hq, q⟩ := q1
  subst ex
  cases r1 with | cons r rr =>
  cases rr
  cases (show _ = Value.ref a from r)
  obtain ⟨its, rv, p', hz⟩ := I1.tuple hq
  have hal : a < s1.heap.objs.size := p'.lt
  refine en_call p' fun h' he hit hk => wpAny_pyIter_enum he ?_
  have I2 : Inv X pins σ H1 { s1 with heap := h' } := I1.kept (t' := s1.toks) hk
  refine ⟨s1.heap.objs.size + 1, [s1.heap.objs.size + 1, s1.heap.objs.size], _, _, H1, rfl, I2, en_turn a (s1.heap.objs.size + 1) s1.heap.objs.size (Nat.ne_of_lt hal), ⟨⟨.none, he⟩, hit, Nat.succ_ne_self _, Nat.ne_of_lt (Nat.lt_succ_of_lt hal)⟩, fun b hb => ?_, q⟩
  have hle : s1.heap.objs.size ≤ b := by
    rcases (show b = s1.heap.objs.size + 1 ∨ b = s1.heap.objs.size by simpa using hb) with z | z
    · rw [z]; exact Nat.le_add_right _ _
    · rw [z]; exact Nat.le_refl _
  exact I1.fpOk hle (I1.hok.fresh hle)
theorem walk_enT {K : PySem.W.Frag} {a : Addr} {ws : List V} : Walk (EnT K a) ws.length (fun H => SqT K H a ws) (YPairD (fun i => some (.int (i : Nat))) (fun i => ws[i]?)) := by
  refine ⟨fun i _ hi q => ⟨ws, ws[i], q, by simp [hi]⟩, fun _ q => ⟨ws, q, rfl⟩, fun i H v H' _ q y => ?_⟩
  obtain ⟨T, x, h1, h2, h3, h4⟩ := y
  exact ⟨T, .int (i : Nat), x, h1, h2, h3, rfl, h4 ws q⟩
theorem en_callL {prog : Program} {w : World} {A : Around} {E : Value → Shared → Prop} {s : Shared} {t : Addr} {items : Array Value} {Q : Value → Shared → Prop} (hT : s.heap.IsList t items)
    (h : ∀ h', IsEnum h' (s.heap.objs.size + 1) s.heap.objs.size 0 .none → h'.IsListIter s.heap.objs.size t 0 → (∀ b o, s.heap.get? b = some o → h'.get? b = some o) → Q (.ref (s.heap.objs.size + 1)) { s with heap := h' }) :
    wpAny (model prog w) A (call (.type "enumerate") [.ref t]) Q E s := by
  have Bg := begins_list t items
  refine callType_new F.called_enumerate (by decide) (F.typeCall_enumerate_1 _) (F.newCall_enumerate_1 _) (fun obj => F.args_object_init_2 obj _) F.entry_enumerate_new (en_meets Bg) ⟨hT, ?_⟩
  have hz : ∀ o : Obj, (s.heap.push o).objs.size = s.heap.objs.size + 1 := fun o => Heap.size_push ..
  show _ ∧ _
  rw [hz]
  have he : IsEnum ((s.heap.push { cls := .type "list_iterator", data := .fields #[.ref t, .int 0 0] }).push (enO s.heap.objs.size)) (s.heap.objs.size + 1) s.heap.objs.size 0 .none := by
    have := Heap.get?_push_size (s.heap.push { cls := .type "list_iterator", data := .fields #[.ref t, .int 0 0] }) (o := enO s.heap.objs.size) rfl
    rw [hz] at this; exact this
  exact ⟨⟨_, he, rfl⟩, h _ he ⟨_, Heap.get?_push_of_some _ (Heap.get?_push_size _ rfl), rfl, rfl⟩ fun b o y => Heap.get?_push_of_some _ (Heap.get?_push_of_some _ y)⟩
/-- the list at a, each item in a new pair -/
def EnL (K : PySem.W.Frag) (a : Addr) : It :=
  ⟨fun i H => ∃ (ws : List V) (x : V), SqL K H a ws ∧ ws[i]? = some x, fun i H v H' => ∃ T x, v = .ref T ∧ H T = none ∧ (∃ its, H' = upd H T (.frz (tupO its) (.tup [.int (i : Nat), x]))) ∧ ∀ ws, SqL K H a ws → ws[i]? = some x, fun i H => ∃ ws : List V, SqL K H a ws ∧ ws.length = i⟩
theorem en_turnL {P : Program} {w : World} {K : PySem.W.Frag} {ts : List Expr} {kk : Nat} {tpos : Pos} (a e it : Addr) (hai : a ≠ it) :
    Turn P w K (.Tuple ts kk tpos) (EnL K a) [e, it] e (fun i h => (∃ old, IsEnum h e it ((i : Nat) : Int) old) ∧ h.IsListIter it a i ∧ e ≠ it ∧ a ≠ e) where
  mem := by simp
  obj := fun i h st b hb => by
    obtain ⟨⟨old, he⟩, ⟨o, ho, hc, hd⟩, _⟩ := st
    rcases (show b = e ∨ b = it by simpa using hb) with z | z
    · rw [z]; exact ⟨_, he, fun v q => nomatch q⟩
    · rw [z]; exact ⟨o, ho, fun v q => by rw [hd] at q; cases q⟩
  keep := fun i h h' st k => let ⟨⟨old, he⟩, hi, hne⟩ := st; ⟨⟨old, k e (by simp) _ he⟩, hi.at fun o q => k it (by simp) o q, hne⟩
  item := by
    intro X hP hw hK hc i pins s σ H E I hf st hg
    subst hP hw hK
    obtain ⟨⟨old, he⟩, hit, hne, hae⟩ := st
    obtain ⟨ws, x, hq, hx⟩ := hg
    obtain ⟨its, rv, p, hz⟩ := I.list hq
    obtain ⟨u, hu, ru⟩ := rv.get hx
    have hel : e < s.heap.objs.size := Heap.lt_size he
    have hil : it < s.heap.objs.size := by obtain ⟨_, q, _⟩ := hit; exact Heap.lt_size q
    have hin : i < its.toArray.size := by
      have := (List.getElem?_eq_some_iff.mp hu).1
      simpa using this
    refine wpAny_pyNext_enum_itemC (Draws.list (A := X.A.in1) (I.ok.hd hc) it a hai its.toArray) he ⟨hit, p.isList⟩ hin hne (by simp [hne, Ne.symm hae]) fun y h' tk hP ho hst hT hsz hk => ?_
    have hyu : y = u := by
      have e1 : its[i]? = some y := by simpa using hP
      rw [hu] at e1
      exact (Option.some.inj e1).symm
    subst hyu
    refine ⟨_, rfl, wpAny_letOwnedTupleGo_enum (s := { s with heap := h', toks := tk + 1 }) ho fun h'' he' sb => ?_⟩
    have hT2 : h''.get? s.heap.objs.size = some { cls := .type "tuple", data := .seq #[.int i tk, y] } := (sb.2 _ (Nat.ne_of_gt hel)).trans hT
    have new : ObjOk X.prog X.w (upd H s.heap.objs.size (.frz (tupO [.int i tk, y]) (.tup [.int (i : Nat), x]))) h'' s.heap.objs.size (.frz (tupO [.int i tk, y]) (.tup [.int (i : Nat), x])) :=
      ⟨hT2, by show 2 ≤ sizeLine; decide, [.int i tk, y], .cons ⟨_, rfl⟩ (.cons ru .nil), ⟨_, hT2, rfl, _, rfl⟩⟩
    have I1 : Inv X pins σ (upd H s.heap.objs.size (.frz (tupO [.int i tk, y]) (.tup [.int (i : Nat), x]))) { s with heap := h'', toks := tk + 1 } :=
      I.turnedNew (ch := [e, it]) (fun b ob hb q => (sb.2 b (fun z => hb (by simp [z]))).trans (hk b ob (fun z => hb (by simp [z])) (fun z => hb (by simp [z])) q)) hf (Nat.le_refl _) new
    refine ⟨.ref s.heap.objs.size, _, I1, rfl, ⟨_, x, rfl, I.hok.fresh (Nat.le_refl _), ⟨_, rfl⟩, fun ys hy => by rw [I.list_inj hy hq]; exact hx⟩, ⟨⟨y, ?_⟩, hst.1.at fun o q => (sb.2 it (Ne.symm hne)).trans q, hne, hae⟩, fun b hb => ?_⟩
    · have e1 : ((i + 1 : Nat) : Int) = (i : Int) + 1 := by omega
      rw [e1]; exact he'
    · have hb' : b < s.heap.objs.size := by
        rcases (show b = e ∨ b = it by simpa using hb) with z | z
        · rw [z]; exact hel
        · rw [z]; exact hil
      rw [upd_ne (Nat.ne_of_lt hb')]
      exact (hf b hb).1
  done := by
    intro X hP hw hK hc i pins s σ H E I hf st hg
    subst hP hw hK
    obtain ⟨⟨old, he⟩, hit, hne, hae⟩ := st
    obtain ⟨ws, hq, hx⟩ := hg
    obtain ⟨its, rv, p, hz⟩ := I.list hq
    obtain ⟨f0, f1, f2, f3, f4, f5⟩ := hf it (by simp)
    have hl : i = its.toArray.size := by rw [← hx, rv.length]; simp
    subst hl
    exact wpAny_pyNext_enum_endD (Draws.list (A := X.A.in1) (I.ok.hd hc) it a hai its.toArray) he ⟨hit, p.isList⟩ fun h' eb => ⟨rfl, I.turned (t' := s.toks) (fun b o hb q => eb b o hb q) f0 f1 f3 f4 f5⟩
  self := fun A i s Q E st h => let ⟨⟨_, he⟩, _⟩ := st; wpAny_pyIter_enum he h
def iEnL (K : PySem.W.Frag) (ta : TA) : TI := fun σ H R => ta σ H fun vs H1 => ∃ a ws, vs = [.ref a] ∧ SqL K H1 a ws ∧ R (EnL K a) H1
theorem pi_enL {X : Cx} {e : Expr} {ta : TA} {p pos tpos : Pos} {ts : List Expr} {kk : Nat} (hg : Gl X "enumerate") (hm : X.mg "enumerate" = none) (ha : PA X [e] ta) (hs : starEach [e] X.env = [(false, eval e X.env)]) :
    PI X (.Tuple ts kk tpos) (.Call (.Name "enumerate" p) [e] [] pos) (iEnL X.K ta) := by
  refine ⟨fun pins s σ H R I h => ?_⟩
  refine Call_ (ld_blt I hg hm boot_enumerate (PyProof.Rows.callWith_type1 (thn (ha.run pos pins s σ H _ I h) fun us s1 ⟨vs, H1, I1, r1, q1⟩ => ?_) hs rfl))
  obtain ⟨a, ws, ex, hq, q⟩ := q1
  subst ex
  cases r1 with | cons r rr =>
  cases rr
  cases (show _ = Value.ref a from r)
  obtain ⟨its, rv, p', hz⟩ := I1.list hq
  have hal : a < s1.heap.objs.size := p'.lt
  refine en_callL p'.isList fun h' he hit hk => wpAny_pyIter_enum he ?_
  have I2 : Inv X pins σ H1 { s1 with heap := h' } := I1.kept (t' := s1.toks) hk
  refine ⟨s1.heap.objs.size + 1, [s1.heap.objs.size + 1, s1.heap.objs.size], _, _, H1, rfl, I2, en_turnL a (s1.heap.objs.size + 1) s1.heap.objs.size (Nat.ne_of_lt hal), ⟨⟨.none, he⟩, hit, Nat.succ_ne_self _, Nat.ne_of_lt (Nat.lt_succ_of_lt hal)⟩, fun b hb => ?_, q⟩
  have hle : s1.heap.objs.size ≤ b := by
    rcases (show b = s1.heap.objs.size + 1 ∨ b = s1.heap.objs.size by simpa using hb) with z | z
    · rw [z]; exact Nat.le_add_right _ _
    · rw [z]; exact Nat.le_refl _
  exact I1.fpOk hle (I1.hok.fresh hle)
theorem walk_enL {K : PySem.W.Frag} {a : Addr} {ws : List V} : Walk (EnL K a) ws.length (fun H => SqL K H a ws) (YPairD (fun i => some (.int (i : Nat))) (fun i => ws[i]?)) := by
  refine ⟨fun i _ hi q => ⟨ws, ws[i], q, by simp [hi]⟩, fun _ q => ⟨ws, q, rfl⟩, fun i H v H' _ q y => ?_⟩
  obtain ⟨T, x, h1, h2, h3, h4⟩ := y
  exact ⟨T, .int (i : Nat), x, h1, h2, h3, rfl, h4 ws q⟩
end TR
set_option Elab.async false
set_option linter.all false
set_option maxHeartbeats 4000000
/-! what is walked -/
namespace TR
open PySem PySem.Spec PyProof.Rows L2 StX RT RZ
/-- a later time, the roots' own content kept -/
structure Later (rs : List Nat) (Os : List (List Addr)) (Z : Zn) (H : Hp) (Z2 : Zn) (H2 : Hp) : Prop where
  zz : ∀ a, Z a → Z2 a
  st : Stay Z H H2
  own : ∀ i ∈ rs, ∀ O, Os[i]? = some O → ∀ a ∈ O, H2 a = H a
/-- J gives xs -/
def ItOk (B : Wd) (Z : Zn) (H : Hp) (Os : List (List Addr)) (rs : List Nat) (J : It) (xs : List D) : Prop :=
  ∃ Gd Y, Walk J xs.length Gd Y ∧ (∀ Z2 H2, Later rs Os Z H Z2 H2 → Gd H2) ∧ ∀ Z2 H2 i x H3 d, Later rs Os Z H Z2 H2 → xs[i]? = some d → Y i H2 x H3 → Grow H2 H3 ∧ Rp B Z2 H3 x d
def IPost (B : Wd) (mu : List Nat) (σ : L2.St) (Z : Zn) (H : Hp) (env : Env) (Os : List (List Addr)) (rs : List Nat) (xs : List D) (env' : Env) (J : It) (H' : Hp) : Prop :=
  ∃ Z' Os', Sat B Z' σ H' env' Os' ∧ Step mu Z H env Os Z' H' env' Os' ∧ ItOk B Z' H' Os' rs J xs
def iRun (G : List Fn) (p : E) : Env → R (List Nat × List D × Env) := fun env => do
  let (m, rs, e1) ← ev G p env
  let xs ← itR m
  R.ok (rs, xs, e1)
/-- a walk's reading; walks of a slot's own lists of lists are left out -/
def Ix (B : Wd) (mu : List Nat) (run : Env → R (List Nat × List D × Env)) : TI := fun σ H Q =>
  ∃ Z env Os, Sat B Z σ H env Os ∧ ∃ rs xs env', run env = .ok (rs, xs, env') ∧ ∀ J H', IPost B mu σ Z H env Os rs xs env' J H' → Q J H'
section
variable {G : List Fn} {C : Ctx} {X : Cx} {B : Wd} {Z Z' Z0 Z1 Z2 : Zn} {H H' H0 H1 H2 : Hp} {σ σ' : L2.St} {env env' env0 env1 : Env} {Os Os' Os0 Os1 : List (List Addr)} {mu : List Nat} {v : V} {m : M} {d : D} {a b c : E} {xa xb xc tg : Expr} {pos p p0 p1 p2 p3 : Pos} {es : List E} {xs : List Expr} {nm : Str}
theorem PI.of {tg it : Expr} {t t' : TI} (h : PI X tg it t) (w : ∀ σ H R, t' σ H R → t σ H R) : PI X tg it t' := ⟨fun pins s σ H R I q => h.run pins s σ H R I (w σ H R q)⟩
theorem PI.or {tg it : Expr} {t t' : TI} (h : PI X tg it t) (h' : PI X tg it t') : PI X tg it (fun σ H R => t σ H R ∨ t' σ H R) := ⟨fun pins s σ H R I q => q.elim (h.run pins s σ H R I) (h'.run pins s σ H R I)⟩
theorem Later.refl {rs : List Nat} : Later rs Os Z H Z H := ⟨fun _ z => z, .refl, fun _ _ _ _ _ _ => rfl⟩
/-- a list's or a tuple's items, later -/
theorem later_lst {rs : List Nat} {v : V} {m : M} {O : List Addr} {xs : List D} (r : RM B Z H v m O) (hO : ∀ a ∈ O, Z a ∨ ∃ i ∈ rs, ∃ Oi, Os[i]? = some Oi ∧ a ∈ Oi) (e : m.seq = .ok xs) :
    ∃ a vs, v = .ref a ∧ RpL B Z H vs xs ∧ ((m ≠ .pu (.tuple xs) ∧ ∀ Z2 H2, Later rs Os Z H Z2 H2 → SqL B.K H2 a vs) ∨ (m = .pu (.tuple xs) ∧ ∀ Z2 H2, Later rs Os Z H Z2 H2 → SqT B.K H2 a vs)) := by
  cases r with
  | pu h =>
    cases h with
    | tup h r =>
      simp [M.seq] at e; subst e
      exact ⟨_, _, rfl, r, .inr ⟨rfl, fun Z2 H2 l => (SqD.keep h (l.st.f _)).sq⟩⟩
    | lst z h r =>
      simp [M.seq] at e; subst e
      exact ⟨_, _, rfl, r, .inl ⟨by simp, fun Z2 H2 l => .inl (RdL.keep h fun o q => l.st.z _ o z q)⟩⟩
    | lsK h r =>
      simp [M.seq] at e; subst e
      exact ⟨_, _, rfl, r, .inl ⟨by simp, fun Z2 H2 l => .inr h⟩⟩
    | _ => simp [M.seq] at e
  | li h r =>
    simp [M.seq] at e; subst e
    rename_i a vs _
    refine ⟨_, _, rfl, r, .inl ⟨by simp, fun Z2 H2 l => .inl (.of ?_)⟩⟩
    rcases hO a (by simp) with z | ⟨i, hi, Oi, h1, h2⟩
    · exact l.st.z _ _ z h
    · rw [l.own i hi Oi h1 a h2]; exact h
  | _ => simp [M.seq] at e
theorem rpl_get {vs : List V} {xs : List D} {i : Nat} {x : V} {d : D} (r : RpL B Z H vs xs) (h1 : vs[i]? = some x) (h2 : xs[i]? = some d) : Rp B Z H x d := by
  obtain ⟨w, h3, h4⟩ := r.get h2
  rw [h1] at h3; cases h3
  exact h4
theorem it_of_list {rs : List Nat} {a : Addr} {vs : List V} {xs : List D} (r : RpL B Z H vs xs) (h : ∀ Z2 H2, Later rs Os Z H Z2 H2 → SqL B.K H2 a vs) : ItOk B Z H Os rs (Itl B.K a) xs :=
  ⟨fun H => SqL B.K H a vs, YAt vs, r.length ▸ walk_list, h, fun Z2 H2 i x H3 d l hd ⟨e, hx⟩ => by
    subst e
    exact ⟨Grow.refl, (rpl_get r hx hd).stay l.st l.zz⟩⟩
theorem it_of_tup {rs : List Nat} {a : Addr} {vs : List V} {xs : List D} (r : RpL B Z H vs xs) (h : ∀ Z2 H2, Later rs Os Z H Z2 H2 → SqT B.K H2 a vs) : ItOk B Z H Os rs (Itt B.K a) xs :=
  ⟨fun H => SqT B.K H a vs, YAt vs, r.length ▸ walk_tup, h, fun Z2 H2 i x H3 d l hd ⟨e, hx⟩ => by
    subst e
    exact ⟨Grow.refl, (rpl_get r hx hd).stay l.st l.zz⟩⟩
theorem it_of_rng {rs : List Nat} {i j : Int} : ItOk B Z H Os rs (Itr i (j - i).toNat) (rngD i j) := by
  have hl : (rngD i j).length = (j - i).toNat := by simp [rngD]
  refine ⟨fun _ => True, YFn fun k => .int (i + k), by rw [hl]; exact walk_range, fun _ _ _ => trivial, fun Z2 H2 k x H3 d l hd ⟨e, hx⟩ => ?_⟩
  subst e hx
  refine ⟨Grow.refl, ?_⟩
  unfold rngD at hd
  rw [List.getElem?_map] at hd
  cases hr : (List.range (j - i).toNat)[k]? with
  | none => rw [hr] at hd; cases hd
  | some q =>
    rw [hr] at hd
    cases hd
    have := List.getElem?_eq_some_iff.mp hr
    obtain ⟨h1, h2⟩ := this
    simp at h2
    subst h2
    exact .int _
theorem pair_rp {H2 H3 : Hp} {T : Addr} {x y : V} {dx dy : D} (hn : H2 T = none) (e : ∃ its, H3 = upd H2 T (.frz (tupO its) (.tup [x, y]))) (h1 : Rp B Z H2 x dx) (h2 : Rp B Z H2 y dy) : Grow H2 H3 ∧ Rp B Z H3 (.ref T) (.tuple [dx, dy]) := by
  obtain ⟨its, e⟩ := e
  subst e
  have g : Grow H2 (upd H2 T (.frz (tupO its) (.tup [x, y]))) := Grow.upd hn
  exact ⟨g, .tup (.inl ⟨its, upd_same⟩) (.cons (h1.stay g.stay fun _ z => z) (.cons (h2.stay g.stay fun _ z => z) .nil))⟩
theorem enmD_get : ∀ {xs : List D} {n i : Nat}, (enmD xs n)[i]? = (xs[i]?).map fun x => .tuple [.int ((n + i : Nat) : Int), x]
  | [], n, i => by simp [enmD]
  | x :: xs, n, 0 => by simp [enmD]
  | x :: xs, n, i + 1 => by
    simp only [enmD, List.getElem?_cons_succ]
    rw [enmD_get]
    congr 1
    funext y
    have : n + 1 + i = n + (i + 1) := by omega
    rw [this]
theorem enmD_length : ∀ {xs : List D} {n : Nat}, (enmD xs n).length = xs.length
  | [], n => rfl
  | x :: xs, n => by simp [enmD, enmD_length]
theorem it_of_enumY {rs : List Nat} {J : It} {Gd : Hp → Prop} {vs : List V} {xs : List D} (r : RpL B Z H vs xs) (w : Walk J vs.length Gd (YPairD (fun i => some (.int (i : Nat))) (fun i => vs[i]?))) (h : ∀ Z2 H2, Later rs Os Z H Z2 H2 → Gd H2) : ItOk B Z H Os rs J (enmD xs 0) := by
  refine ⟨Gd, YPairD (fun i => some (.int (i : Nat))) (fun i => vs[i]?), by rw [enmD_length, ← r.length]; exact w, h, fun Z2 H2 i x H3 d l hd ⟨T, x1, y1, ev, hn, e3, e1, e2⟩ => ?_⟩
  subst ev
  cases e1
  rw [enmD_get] at hd
  cases hx : xs[i]? with
  | none => rw [hx] at hd; cases hd
  | some dx =>
    rw [hx] at hd
    cases hd
    rw [Nat.zero_add]
    exact pair_rp hn e3 (.int _) ((rpl_get r e2 hx).stay l.st l.zz)
theorem zipD_get {xs ys : List D} {i : Nat} {d : D} (h : (zipD xs ys)[i]? = some d) : ∃ x y, xs[i]? = some x ∧ ys[i]? = some y ∧ d = .tuple [x, y] := by
  unfold zipD at h
  rw [List.getElem?_zipWith] at h
  cases hx : xs[i]? with
  | none => rw [hx] at h; simp at h
  | some x =>
    cases hy : ys[i]? with
    | none => rw [hx, hy] at h; simp at h
    | some y =>
      rw [hx, hy] at h
      simp at h
      exact ⟨x, y, rfl, rfl, h.symm⟩
theorem it_of_zipY {rs : List Nat} {J : It} {Gd : Hp → Prop} {vs ws : List V} {xs ys : List D} (r : RpL B Z H vs xs) (r2 : RpL B Z H ws ys) (w : Walk J (min vs.length ws.length) Gd (YPairD (fun i => vs[i]?) (fun i => ws[i]?))) (h : ∀ Z2 H2, Later rs Os Z H Z2 H2 → Gd H2) : ItOk B Z H Os rs J (zipD xs ys) := by
  have hl : (zipD xs ys).length = min vs.length ws.length := by unfold zipD; rw [List.length_zipWith, r.length, r2.length]
  refine ⟨Gd, YPairD (fun i => vs[i]?) (fun i => ws[i]?), by rw [hl]; exact w, h, fun Z2 H2 i x H3 d l hd ⟨T, x1, y1, ev, hn, e3, e1, e2⟩ => ?_⟩
  subst ev
  obtain ⟨dx, dy, h1, h2, rfl⟩ := zipD_get hd
  exact pair_rp hn e3 ((rpl_get r e1 h1).stay l.st l.zz) ((rpl_get r2 e2 h2).stay l.st l.zz)
/-! ### the forms -/
/-- the object that is walked is given up where it is no slot's -/
theorem walk_give {m : M} {rs : List Nat} {O : List Addr} (q : Sat B Z' σ H' env' Os') (s : Step mu Z H env Os Z' H' env' Os') (r : RM B Z' H' v m O) (ro : ResO Z' H Os Os' rs O) :
    ∃ Z2, Sat B Z2 σ H' env' Os' ∧ Step mu Z H env Os Z2 H' env' Os' ∧ RM B Z2 H' v m O ∧ (∀ a ∈ O, Z2 a ∨ ∃ i ∈ rs, ∃ Oi, Os'[i]? = some Oi ∧ a ∈ Oi) := by
  cases rs with
  | nil => exact ⟨_, q.give (ro.1 rfl).1 r.ne, s.give fun a ha => ((ro.1 rfl).2 a ha).2, r.stay .refl (fun a z => .inl z) fun a o _ h => h, fun a ha => .inl (.inr ha)⟩
  | cons i rs => exact ⟨Z', q, s, r, fun a ha => .inr (ro.2.1 (by simp) a ha)⟩
theorem i_run {p : E} {rs : List Nat} {xs : List D} {env env' : Env} (h : iRun G p env = .ok (rs, xs, env')) : ∃ m, ev G p env = .ok (m, rs, env') ∧ itR m = .ok xs := by
  obtain ⟨⟨m, r, e1⟩, h1, h2⟩ := R.bind_ok h
  obtain ⟨ys, h3, h4⟩ := R.bind_ok h2
  cases h4
  exact ⟨m, h1, h3⟩
/-- an expression that is a list or a tuple -/
def seqOnly (G : List Fn) (p : E) : Env → R (List Nat × List D × Env) := fun env => do
  let (m, rs, e1) ← ev G p env
  let xs ← m.seq
  R.ok (rs, xs, e1)
theorem w_seq (ha : PE X xa (Rx (wd X) (muE a) (ev G a))) : PI X tg xa (Ix (wd X) (muE a) (seqOnly G a)) := by
  refine PI.of (PI.or (pi_list ha) (pi_tup ha)) fun σ H RR ⟨Z, env, Os, q, rs, xs, env', h1, h2⟩ => ?_
  obtain ⟨⟨m, r, e1⟩, h3, h4⟩ := R.bind_ok h1
  obtain ⟨ys, h5, h6⟩ := R.bind_ok h4
  cases h6
  by_cases hm : m = .pu (.tuple xs)
  · refine .inr (Rx.go q h3 fun x H1 ⟨Z1, Os1, O1, q1, s1, r1, ro1⟩ => ?_)
    obtain ⟨Z2, q2, s2, r2, hO⟩ := walk_give q1 s1 r1 ro1
    obtain ⟨p, vs, e, rl, h | ⟨_, h⟩⟩ := later_lst r2 hO h5
    · exact absurd hm h.1
    · exact ⟨p, e, ⟨vs, h _ _ .refl⟩, h2 _ _ ⟨Z2, Os1, q2, s2, it_of_tup rl h⟩⟩
  · refine .inl (Rx.go q h3 fun x H1 ⟨Z1, Os1, O1, q1, s1, r1, ro1⟩ => ?_)
    obtain ⟨Z2, q2, s2, r2, hO⟩ := walk_give q1 s1 r1 ro1
    obtain ⟨p, vs, e, rl, ⟨_, h⟩ | h⟩ := later_lst r2 hO h5
    · exact ⟨p, e, ⟨vs, h _ _ .refl⟩, h2 _ _ ⟨Z2, Os1, q2, s2, it_of_list rl h⟩⟩
    · exact absurd h.1 hm
theorem w_enm {ts : List Expr} {kk : Nat} {tpos : Pos} (ok : XOk G C X) (hg : glB C.sc "enumerate" = true) (ha : PE X xa (Rx (wd X) (muE a) (ev G a))) (hn : noStar xa = true) :
    PI X (.Tuple ts kk tpos) (.Call (.Name "enumerate" p) [xa] [] pos) (Ix (wd X) (muE (.enm a)) (iRun G (.enm a))) := by
  have hpa := pa_cons ha pa_nil (starEach_no hn)
  have hse : starEach [xa] X.env = [(false, eval xa X.env)] := by rw [starEach_no hn]; rfl
  refine PI.of (PI.or (pi_enL (gl_of ok hg) (ok.bl _ (by simp [bnames])) hpa hse) (pi_enT (gl_of ok hg) (ok.bl _ (by simp [bnames])) hpa hse)) fun σ H RR ⟨Z, env, Os, q, rs, xs, env', h1, h2⟩ => ?_
  obtain ⟨mm, h3, h4⟩ := i_run h1
  rw [ev] at h3
  simp only [muE] at h2
  obtain ⟨⟨m, r, e1⟩, h3, h5⟩ := R.bind_ok h3
  obtain ⟨ys, h6, h7⟩ := R.bind_ok h5
  cases h7
  cases h4
  by_cases hm : m = .pu (.tuple ys)
  · refine .inr (Rx.go q h3 fun x H1 ⟨Z1, Os1, O1, q1, s1, r1, ro1⟩ => ?_)
    obtain ⟨Z2, q2, s2, r2, hO⟩ := walk_give q1 s1 r1 ro1
    obtain ⟨p, vs, e, rl, h | ⟨_, h⟩⟩ := later_lst r2 hO h6
    · exact absurd hm h.1
    · subst e
      exact ⟨p, vs, rfl, h _ _ .refl, h2 _ _ ⟨Z2, Os1, q2, s2, it_of_enumY rl walk_enT h⟩⟩
  · refine .inl (Rx.go q h3 fun x H1 ⟨Z1, Os1, O1, q1, s1, r1, ro1⟩ => ?_)
    obtain ⟨Z2, q2, s2, r2, hO⟩ := walk_give q1 s1 r1 ro1
    obtain ⟨p, vs, e, rl, ⟨_, h⟩ | h⟩ := later_lst r2 hO h6
    · subst e
      exact ⟨p, vs, rfl, h _ _ .refl, h2 _ _ ⟨Z2, Os1, q2, s2, it_of_enumY rl walk_enL h⟩⟩
    · exact absurd h.1 hm
theorem rng_run {env env' : Env} {rs : List Nat} {xs : List D} (h : iRun G (.rng es) env = .ok (rs, xs, env')) : ∃ i j, gRun G es env = .ok (i, j, env') ∧ rgC i j = true ∧ xs = rngD i j ∧ rs = [] := by
  obtain ⟨mm, h3, h4⟩ := i_run h
  rw [ev] at h3
  obtain ⟨⟨ms, r, e1⟩, h3, h5⟩ := R.bind_ok h3
  obtain ⟨⟨i, j⟩, h6, h7⟩ := R.bind_ok h5
  obtain ⟨hc, h7⟩ := R.of_if h7
  cases h7
  cases h4
  refine ⟨i, j, ?_, hc, rfl, rfl⟩
  unfold gRun
  rw [h3]
  show (rgOf ms >>= _) = _
  rw [h6]
  rfl
theorem w_rng1 (ok : XOk G C X) (hg : glB C.sc "range" = true) (ha : PE X xa (Rx (wd X) (muE a) (ev G a))) (hn : noStar xa = true) :
    PI X tg (.Call (.Name "range" p) [xa] [] pos) (Ix (wd X) (muE (.rng [a])) (iRun G (.rng [a]))) := by
  refine PI.of (pi_range1 (gl_of ok hg) (ok.bl _ (by simp [bnames])) (pa_cons ha pa_nil (starEach_no hn)) (by rw [starEach_no hn]; rfl)) fun σ H RR ⟨Z, env, Os, q, rs, xs, env', h1, h2⟩ => ?_
  simp only [muE, muEs, List.append_nil] at h2
  obtain ⟨i, j, h3, hc, rfl, rfl⟩ := rng_run h1
  obtain ⟨⟨ms, r, e1⟩, h4, h5⟩ := R.bind_ok h3
  obtain ⟨⟨i', j'⟩, h6, h7⟩ := R.bind_ok h5
  cases h7
  obtain ⟨m, h8, rfl⟩ := evs1 h4
  obtain ⟨hm, rfl⟩ := rgOf_1 h6
  refine Rx.go q h8 fun x H1 pp => ?_
  rw [hm] at pp
  obtain ⟨Z1, Os1, q1, s1, r1⟩ := pp.pure
  cases r1
  obtain ⟨c1, c2, c3, c4⟩ := rgC_at hc
  refine ⟨_, rfl, c3, c4, h2 _ _ ⟨Z1, Os1, q1, s1, ?_⟩⟩
  have := it_of_rng (B := wd X) (Z := Z1) (H := H1) (Os := Os1) (rs := []) (i := 0) (j := j)
  simpa using this
theorem w_rng2 (ok : XOk G C X) (hg : glB C.sc "range" = true) (ha : PE X xa (Rx (wd X) (muE a) (ev G a))) (hb : PE X xb (Rx (wd X) (muE b) (ev G b))) (hn : noStar xa = true) (hn2 : noStar xb = true) :
    PI X tg (.Call (.Name "range" p) [xa, xb] [] pos) (Ix (wd X) (muE (.rng [a, b])) (iRun G (.rng [a, b]))) := by
  refine PI.of (pi_range2 (gl_of ok hg) (ok.bl _ (by simp [bnames])) (pa_cons ha (pa_cons hb pa_nil (starEach_no hn2)) (starEach_no hn)) (by rw [starEach_no hn, starEach_no hn2]; rfl) (by rw [starEach_no hn2]; rfl)) fun σ H RR ⟨Z, env, Os, q, rs, xs, env', h1, h2⟩ => ?_
  simp only [muE, muEs, List.append_nil] at h2
  obtain ⟨i, j, h3, hc, rfl, rfl⟩ := rng_run h1
  obtain ⟨⟨ms, r, e1⟩, h4, h5⟩ := R.bind_ok h3
  obtain ⟨⟨i', j'⟩, h6, h7⟩ := R.bind_ok h5
  cases h7
  obtain ⟨ma, ra, e2, mb, rb, h8, h9, ap, rfl⟩ := evs2 h4
  obtain ⟨hm, hm2⟩ := rgOf_2 h6
  refine Rx.go q h8 fun x H1 pp => ?_
  rw [hm] at pp
  obtain ⟨Z1, Os1, q1, s1, r1⟩ := pp.pure
  cases r1
  refine Rx.go q1 h9 fun y H2 pp2 => ?_
  rw [hm2] at pp2
  obtain ⟨Z2, Os2, q2, s2, r2⟩ := pp2.pure
  cases r2
  obtain ⟨c1, c2, c3, c4⟩ := rgC_at hc
  exact ⟨_, _, rfl, ⟨c1, c2, c3, c4⟩, h2 _ _ ⟨Z2, Os2, q2, s1.trans s2 ml mr, it_of_rng⟩⟩
end
end TR
set_option Elab.async false
set_option linter.all false
set_option maxHeartbeats 4000000
/-! a dict walked: its keys, its values, its pairs -/
namespace TR
open PySem PySem.Spec PyProof.Rows L2 StX RT RZ
/-- the entries of the dict at d, as vs tells them -/
def ItR (d : Addr) (es : Array DictEntry) (ep : Nat) (vs : List V) : It :=
  ⟨fun n M => M d = some (dO d es ep) ∧ n < vs.length, fun n M x M' => M' = M ∧ vs[n]? = some x, fun n M => M d = some (dO d es ep) ∧ vs.length ≤ n⟩
/-- .. each pair in a new tuple -/
def ItP (d : Addr) (es : Array DictEntry) (ep : Nat) (vs ws : List V) : It :=
  ⟨fun n M => M d = some (dO d es ep) ∧ n < vs.length, fun n M v M' => ∃ T x y, v = .ref T ∧ M T = none ∧ (∃ its, M' = upd M T (.frz (tupO its) (.tup [x, y]))) ∧ vs[n]? = some x ∧ ws[n]? = some y, fun n M => M d = some (dO d es ep) ∧ vs.length ≤ n⟩
section
variable {P : Program} {w : World} {K : PySem.W.Frag} {tg : Expr} {d : Addr} {es : Array DictEntry} {ep : Nat} {vs ws : List V}
theorem vals_at {f : DictEntry → Value} (hv : Vals vs (es.toList.map f)) {n : Nat} (h : n < vs.length) : ∃ (g : n < es.size), ∃ x, vs[n]? = some x ∧ RelV x (f es[n]) := by
  have hl := Vals.length hv
  rw [List.length_map, Array.length_toList (xs := es)] at hl
  have g : n < es.size := by omega
  obtain ⟨u, h1, h2⟩ := hv.get (List.getElem?_eq_getElem h)
  have h3 : (es.toList.map f)[n]? = some (f es[n]) := by simp [g]
  rw [h3] at h1
  cases h1
  exact ⟨g, vs[n], List.getElem?_eq_getElem h, h2⟩
theorem tn_keys (it : Addr) (hv : Vals vs (es.toList.map (·.key))) : Turn P w K tg (ItR d es ep vs) [it] it (fun n g => g.IsKeyIter it d n es.size ep) where
  mem := List.mem_cons_self
  obj := fun n g st b hb => by
    obtain rfl : b = it := by simpa using hb
    obtain ⟨q, e, c, dd⟩ := st
    exact ⟨q, e, fun v z => by rw [dd] at z; cases z⟩
  keep := fun n g g' st kk => st.at fun q e => kk it List.mem_cons_self q e
  item := by
    rintro X rfl rfl rfl hc n pins s σ H E I hf st ⟨hd, hi⟩
    obtain ⟨f0, f1, f2, f3, f4, f5⟩ := hf it List.mem_cons_self
    obtain ⟨hn, x, hx, rx⟩ := vals_at hv hi
    refine wpAny_pyNext_keys_item_raw st (raw_of I hd) hn fun g' st' sb => ?_
    have I1 : Inv X pins σ H { s with heap := g' } := I.turned (t' := s.toks) (fun b ob hb e => (sb.2 b hb).trans e) f0 f1 f3 f4 f5
    obtain ⟨q, e, c, dd⟩ := id st'
    exact ⟨_, rfl, go_of (s := { s with heap := g' }) e c dd (by decide) ⟨x, H, I1, rx, ⟨rfl, hx⟩, st', fun b hb => (hf b hb).1⟩⟩
  done := by
    rintro X rfl rfl rfl hc n pins s σ H E I hf st ⟨hd, hi⟩
    obtain ⟨f0, f1, f2, f3, f4, f5⟩ := hf it List.mem_cons_self
    have hl := Vals.length hv
    rw [List.length_map, Array.length_toList (xs := es)] at hl
    exact wpAny_pyNext_keys_end_raw (I.ok.hd hc) st (raw_of I hd) (by omega) fun g' eb => ⟨rfl, I.turned (t' := s.toks) (fun b ob hb e => eb b ob hb e) f0 f1 f3 f4 f5⟩
  self := fun A n s Q E st h => wpAny_pyIter_keyiter st h
theorem tn_vals (it : Addr) (hv : Vals vs (es.toList.map (·.val))) : Turn P w K tg (ItR d es ep vs) [it] it (fun n g => g.IsValIter it d n es.size ep) where
  mem := List.mem_cons_self
  obj := fun n g st b hb => by
    obtain rfl : b = it := by simpa using hb
    obtain ⟨q, e, c, dd⟩ := st
    exact ⟨q, e, fun v z => by rw [dd] at z; cases z⟩
  keep := fun n g g' st kk => st.at fun q e => kk it List.mem_cons_self q e
  item := by
    rintro X rfl rfl rfl hc n pins s σ H E I hf st ⟨hd, hi⟩
    obtain ⟨f0, f1, f2, f3, f4, f5⟩ := hf it List.mem_cons_self
    obtain ⟨hn, x, hx, rx⟩ := vals_at hv hi
    refine wpAny_pyNext_values_item_raw st (raw_of I hd) hn fun g' st' sb => ?_
    have I1 : Inv X pins σ H { s with heap := g' } := I.turned (t' := s.toks) (fun b ob hb e => (sb.2 b hb).trans e) f0 f1 f3 f4 f5
    obtain ⟨q, e, c, dd⟩ := id st'
    exact ⟨_, rfl, go_of (s := { s with heap := g' }) e c dd (by decide) ⟨x, H, I1, rx, ⟨rfl, hx⟩, st', fun b hb => (hf b hb).1⟩⟩
  done := by
    rintro X rfl rfl rfl hc n pins s σ H E I hf st ⟨hd, hi⟩
    obtain ⟨f0, f1, f2, f3, f4, f5⟩ := hf it List.mem_cons_self
    have hl := Vals.length hv
    rw [List.length_map, Array.length_toList (xs := es)] at hl
    exact wpAny_pyNext_values_end_raw (I.ok.hd hc) st (raw_of I hd) (by omega) fun g' eb => ⟨rfl, I.turned (t' := s.toks) (fun b ob hb e => eb b ob hb e) f0 f1 f3 f4 f5⟩
  self := fun A n s Q E st h => wpAny_pyIter_valiter st h
theorem tn_items {elts : List Expr} {kk : Nat} {tpos : Pos} (it : Addr) (hv : Vals vs (es.toList.map (·.key))) (hw : Vals ws (es.toList.map (·.val))) :
    Turn P w K (.Tuple elts kk tpos) (ItP d es ep vs ws) [it] it (fun n g => ∃ a b, IsItemIter g it d n es.size ep a b) where
  mem := List.mem_cons_self
  obj := fun n g st b hb => by
    obtain rfl : b = it := by simpa using hb
    obtain ⟨x, y, e⟩ := st
    exact ⟨_, e, fun v z => nomatch z⟩
  keep := fun n g g' ⟨x, y, e⟩ kk => ⟨x, y, kk it List.mem_cons_self _ e⟩
  item := by
    rintro X rfl rfl rfl hc n pins s σ H E I hf ⟨a, b, st⟩ ⟨hd, hi⟩
    obtain ⟨hn, x, hx, rx⟩ := vals_at hv hi
    have hl1 := Vals.length hv
    have hl2 := Vals.length hw
    rw [List.length_map] at hl1 hl2
    obtain ⟨hn2, y, hy, ry⟩ := vals_at hw (n := n) (by omega)
    have hlt : it < s.heap.objs.size := Heap.lt_size st
    refine wpAny_pyNext_items_item_raw st (raw_of I hd) hn fun g' ho hT hz hk => ⟨_, rfl, wpAny_letOwnedTupleGo_items (s := { s with heap := g' }) ho fun g2 he' sb => ?_⟩
    have hT2 : g2.get? s.heap.objs.size = some { cls := .type "tuple", data := .seq #[es[n].key, es[n].val] } := (sb.2 _ (Nat.ne_of_gt hlt)).trans hT
    have new : ObjOk X.prog X.w (upd H s.heap.objs.size (.frz (tupO [es[n].key, es[n].val]) (.tup [x, y]))) g2 s.heap.objs.size (.frz (tupO [es[n].key, es[n].val]) (.tup [x, y])) :=
      ⟨hT2, by show 2 ≤ sizeLine; decide, [es[n].key, es[n].val], .cons rx (.cons ry .nil), ⟨_, hT2, rfl, _, rfl⟩⟩
    have I1 : Inv X pins σ (upd H s.heap.objs.size (.frz (tupO [es[n].key, es[n].val]) (.tup [x, y]))) { s with heap := g2 } :=
      I.turnedNew (t' := s.toks) (ch := [it]) (fun c o hb e => (sb.2 c (by simpa using hb)).trans (hk c o (by simpa using hb) e)) hf (Nat.le_refl _) new
    refine ⟨.ref s.heap.objs.size, _, I1, rfl, ⟨_, x, y, rfl, I.hok.fresh (Nat.le_refl _), ⟨_, rfl⟩, hx, hy⟩, ⟨_, _, he'⟩, fun c hb => ?_⟩
    obtain rfl : c = it := by simpa using hb
    rw [upd_ne (Nat.ne_of_lt hlt)]
    exact (hf c List.mem_cons_self).1
  done := by
    rintro X rfl rfl rfl hc n pins s σ H E I hf ⟨a, b, st⟩ ⟨hd, hi⟩
    obtain ⟨f0, f1, f2, f3, f4, f5⟩ := hf it List.mem_cons_self
    have hl := Vals.length hv
    rw [List.length_map, Array.length_toList (xs := es)] at hl
    exact wpAny_pyNext_items_end_raw (I.ok.hd hc) st (raw_of I hd) (by omega) fun g' eb => ⟨rfl, I.turned (t' := s.toks) (fun b ob hb e => eb b ob hb e) f0 f1 f3 f4 f5⟩
  self := fun A n s Q E st h => let ⟨_, _, e⟩ := st; PySem.W.kcp_self e h
end
/-! ### the walks begin -/
def iKR (X : Cx) (td : TE) : TI := fun σ H R => td σ H fun x H1 => ∃ d es ep vs, x = .ref d ∧ H1 d = some (dO d es ep) ∧ (d == sysModules) = false ∧ (∀ pins s, Inv X pins σ H1 s → Vals vs (es.toList.map (·.key))) ∧ R (ItR d es ep vs) H1
def iVR (X : Cx) (td : TE) : TI := fun σ H R => td σ H fun x H1 => ∃ d es ep vs, x = .ref d ∧ H1 d = some (dO d es ep) ∧ (d == sysModules) = false ∧ (∀ pins s, Inv X pins σ H1 s → Vals vs (es.toList.map (·.val))) ∧ R (ItR d es ep vs) H1
def iPR (X : Cx) (td : TE) : TI := fun σ H R => td σ H fun x H1 => ∃ d es ep vs ws, x = .ref d ∧ H1 d = some (dO d es ep) ∧ (d == sysModules) = false ∧ (∀ pins s, Inv X pins σ H1 s → Vals vs (es.toList.map (·.key)) ∧ Vals ws (es.toList.map (·.val))) ∧ R (ItP d es ep vs ws) H1
section
variable {X : Cx} {tg e : Expr} {td : TE} {apos cpos : Pos}
theorem pi_kr (he : PE X e td) : PI X tg e (iKR X td) := by
  refine ⟨fun pins s σ H R I h => thn (he.run pins s σ H _ I h) ?_⟩
  rintro u s1 ⟨x, H1, I1, rx, d, es, ep, vs, rfl, hd, hm, hv, q⟩
  cases (show u = Value.ref d from rx)
  exact wpAny_pyIter_dict_raw hm (raw_of I1 hd) (pi_one (tk := s1.toks) I1 _ (tn_keys _ (hv _ _ I1)) ⟨_, Heap.get?_push_size _ rfl, rfl, rfl⟩ q)
theorem noDict_raw {s : Shared} {d : Addr} {es : Array DictEntry} {ep : Nat} (h : s.heap.DictRaw d es ep) : ∀ b, Value.ref d = .ref b → ∃ ob, s.heap.get? b = some ob ∧ ob.dict = none := fun b q => by
  cases q
  obtain ⟨ob, h1, h2, _⟩ := h
  exact ⟨ob, h1, h2.2.1⟩
theorem pi_vr (he : PE X e td) (hb : attributeBase e "values" X.env (eval e X.env) = eval e X.env) (hl : (apos.endLine == cpos.line) = true) : PI X tg (.Call (.Attribute e "values" apos) [] [] cpos) (iVR X td) := by
  refine ⟨fun pins s σ H R I h => wpAny_Call_method (T := "dict") (id := "dict.values") hb rfl hl PySem.F.plainAttrs_dict PySem.F.slot_dict_values PySem.F.type_dict_values (thn (he.run pins s σ H _ I h) ?_)⟩
  rintro u s1 ⟨x, H1, I1, rx, d, es, ep, vs, rfl, hd, hm, hv, q⟩
  cases (show u = Value.ref d from rx)
  have hr := raw_of I1 hd
  refine ⟨hr.typeIs, noDict_raw hr, ?_⟩
  have I2 : Inv X pins σ H1 { s1 with heap := s1.heap.push { cls := .type "dict_values", data := .fields #[.ref d] } } := I1.kept (t' := s1.toks) fun b ob q => Heap.get?_push_of_some _ q
  have fin : wpAny (model X.prog X.w) X.A (pyIter (.ref s1.heap.objs.size)) (PIE X pins σ tg R) X.xe { s1 with heap := s1.heap.push { cls := .type "dict_values", data := .fields #[.ref d] } } :=
    wpAny_pyIter_values_raw (d := d) ⟨_, Heap.get?_push_size _ rfl, rfl, rfl⟩ (raw_of I2 hd) (pi_one (tk := s1.toks) I2 _ (tn_vals _ (hv _ _ I1)) ⟨_, Heap.get?_push_size _ rfl, rfl, rfl⟩ q)
  show wpAny _ _ (callWith cpos (.builtin "dict.values") [.ref d] [] []) _ X.xe s1
  exact method_meetsIn PySem.F.slot_dict_values PySem.F.entry_dict_values rfl (PySem.evalArgs_none ⟨rfl, hr.typeIs, PySem.F.args_dict_values_1 _, _, meets_dict_values_raw d hm, ⟨_, _, hr⟩, fin⟩)
theorem pi_pr {elts : List Expr} {kk : Nat} {tpos : Pos} (he : PE X e td) (hb : attributeBase e "items" X.env (eval e X.env) = eval e X.env) (hl : (apos.endLine == cpos.line) = true) :
    PI X (.Tuple elts kk tpos) (.Call (.Attribute e "items" apos) [] [] cpos) (iPR X td) := by
  refine ⟨fun pins s σ H R I h => wpAny_Call_method (T := "dict") (id := "dict.items") hb rfl hl PySem.F.plainAttrs_dict PySem.F.slot_dict_items PySem.F.type_dict_items (thn (he.run pins s σ H _ I h) ?_)⟩
  rintro u s1 ⟨x, H1, I1, rx, d, es, ep, vs, ws, rfl, hd, hm, hv, q⟩
  cases (show u = Value.ref d from rx)
  have hr := raw_of I1 hd
  refine ⟨hr.typeIs, noDict_raw hr, ?_⟩
  have I2 : Inv X pins σ H1 { s1 with heap := s1.heap.push { cls := .type "dict_items", data := .fields #[.ref d] } } := I1.kept (t' := s1.toks) fun b ob q => Heap.get?_push_of_some _ q
  have fin : wpAny (model X.prog X.w) X.A (pyIter (.ref s1.heap.objs.size)) (PIE X pins σ (.Tuple elts kk tpos) R) X.xe { s1 with heap := s1.heap.push { cls := .type "dict_items", data := .fields #[.ref d] } } :=
    wpAny_pyIter_items_raw (d := d) ⟨_, Heap.get?_push_size _ rfl, rfl, rfl⟩ (raw_of I2 hd) (pi_one (tk := s1.toks) I2 _ (tn_items _ (hv _ _ I1).1 (hv _ _ I1).2) ⟨.none, .none, Heap.get?_push_size _ rfl⟩ q)
  show wpAny _ _ (callWith cpos (.builtin "dict.items") [.ref d] [] []) _ X.xe s1
  exact method_meetsIn PySem.F.slot_dict_items PySem.F.entry_dict_items rfl (PySem.evalArgs_none ⟨rfl, hr.typeIs, PySem.F.args_dict_items_1 _, _, meets_dict_items_raw d hm, ⟨_, _, hr⟩, fin⟩)
end
/-! ### walks of the small language -/
section
variable {G : List Fn} {C : Ctx} {X : Cx} {Z Z1 : Zn} {H H1 : Hp} {σ : L2.St} {env env1 : Env} {Os Os1 : List (List Addr)} {a : E} {xa tg : Expr} {apos cpos : Pos}
/-- a dict that is walked -/
theorem later_dic {rs : List Nat} {v : V} {m : M} {O : List Addr} {kvs : List (D × D)} (r : RM (wd X) Z H v m O) (hO : ∀ a ∈ O, Z a ∨ ∃ i ∈ rs, ∃ Oi, Os[i]? = some Oi ∧ a ∈ Oi) (e : m.dic = .ok kvs) :
    ∃ d es ep vs ws, v = .ref d ∧ H d = some (dO d es ep) ∧ (d == sysModules) = false ∧ RpL (wd X) Z H vs (kvs.map (·.1)) ∧ RpL (wd X) Z H ws (kvs.map (·.2)) ∧ (∀ pins s, Inv X pins σ H s → Vals vs (es.toList.map (·.key)) ∧ Vals ws (es.toList.map (·.val))) ∧
      ∀ Z2 H2, Later rs Os Z H Z2 H2 → H2 d = some (dO d es ep) := by
  have keep : ∀ {d es ep}, v = .ref d → H d = some (dO d es ep) → ∀ Z2 H2, Later rs Os Z H Z2 H2 → H2 d = some (dO d es ep) := fun {d es ep} ev h Z2 H2 l => by
    have hz : Z d ∨ d ∈ O := by
      subst ev
      cases r with
      | pu r => cases r with
        | dA z _ _ _ => exact .inl z
        | dN z _ _ _ => exact .inl z
        | _ => simp [M.dic] at e
      | dA _ _ _ => exact .inr (by simp)
      | dN _ _ _ => exact .inr (by simp)
      | _ => simp [M.dic] at e
    rcases hz with z | z
    · exact l.st.z _ _ z h
    · rcases hO d z with z | ⟨i, hi, Oi, h1, h2⟩
      · exact l.st.z _ _ z h
      · rw [l.own i hi Oi h1 d h2]; exact h
  obtain ⟨d, ev, ⟨ks, ⟨es, ep, h, p⟩, rk⟩ | ⟨es, ep, xs, h, p, rn⟩⟩ := r.dic e
  · refine ⟨d, es, ep, ks.map fun kv => kV kv.1, ks.map (·.2), ev, h, p.main, rk.keys, rk.vals, fun pins s I => ?_, keep ev h⟩
    obtain ⟨vs, rel, dd⟩ := p.dict
    exact pin_vals rel (dd _ (raw_of I h)) (raw_of I h)
  · obtain ⟨vs, ws, h1, h2, h3, h4⟩ := ren_vals rn
    refine ⟨d, es, ep, vs, ws, ev, h, p.main, h1, h2, fun pins s I => ⟨?_, ?_⟩, keep ev h⟩
    · rw [p.ent, List.map_map]; exact h3
    · rw [p.ent, List.map_map]; exact h4
theorem it_of_raw {rs : List Nat} {d : Addr} {es : Array DictEntry} {ep : Nat} {vs : List V} {xs : List D} (r : RpL (wd X) Z H vs xs) (h : ∀ Z2 H2, Later rs Os Z H Z2 H2 → H2 d = some (dO d es ep)) : ItOk (wd X) Z H Os rs (ItR d es ep vs) xs :=
  ⟨fun M => M d = some (dO d es ep), YAt vs, r.length ▸ ⟨fun _ _ hi q => ⟨q, hi⟩, fun _ q => ⟨q, Nat.le_refl _⟩, fun _ _ _ _ _ _ y => y⟩, h, fun Z2 H2 i x H3 dd l hd ⟨e, hx⟩ => by
    subst e
    exact ⟨Grow.refl, (rpl_get r hx hd).stay l.st l.zz⟩⟩
theorem its_get {kvs : List (D × D)} {i : Nat} {d : D} (h : (kvs.map fun kv => PyData.tuple [kv.1, kv.2])[i]? = some d) : ∃ k v, (kvs.map (·.1))[i]? = some k ∧ (kvs.map (·.2))[i]? = some v ∧ d = .tuple [k, v] := by
  rw [List.getElem?_map] at h
  cases q : kvs[i]? with
  | none => rw [q] at h; cases h
  | some kv => rw [q] at h; cases h; exact ⟨kv.1, kv.2, by simp [q], by simp [q], rfl⟩
theorem it_of_prs {rs : List Nat} {d : Addr} {es : Array DictEntry} {ep : Nat} {vs ws : List V} {kvs : List (D × D)} (r : RpL (wd X) Z H vs (kvs.map (·.1))) (r2 : RpL (wd X) Z H ws (kvs.map (·.2))) (h : ∀ Z2 H2, Later rs Os Z H Z2 H2 → H2 d = some (dO d es ep)) :
    ItOk (wd X) Z H Os rs (ItP d es ep vs ws) (kvs.map fun kv => .tuple [kv.1, kv.2]) := by
  have hl : (kvs.map fun kv => PyData.tuple [kv.1, kv.2]).length = vs.length := by have := r.length; simp at this; simp [this]
  refine ⟨fun M => M d = some (dO d es ep), YPairD (fun i => vs[i]?) (fun i => ws[i]?), hl ▸ ⟨fun _ _ hi q => ⟨q, hi⟩, fun _ q => ⟨q, Nat.le_refl _⟩, fun _ _ _ _ _ _ y => y⟩, h, fun Z2 H2 i x H3 dd l hd ⟨T, x1, y1, ev, hn, e3, e1, e2⟩ => ?_⟩
  subst ev
  obtain ⟨dx, dy, h1, h2, rfl⟩ := its_get hd
  exact pair_rp hn e3 ((rpl_get r e1 h1).stay l.st l.zz) ((rpl_get r2 e2 h2).stay l.st l.zz)
theorem itR_or {m : M} {xs : List D} (h : itR m = .ok xs) : m.seq = .ok xs ∨ ∃ kvs, m.dic = .ok kvs ∧ xs = kvs.map (·.1) := by
  unfold itR at h
  split at h
  · cases h; exact .inr ⟨_, rfl, rfl⟩
  · cases h; exact .inr ⟨_, rfl, rfl⟩
  · exact .inl h
/-- a list, a tuple, a dict -/
theorem w_any (ha : PE X xa (Rx (wd X) (muE a) (ev G a))) : PI X tg xa (Ix (wd X) (muE a) (iRun G a)) := by
  refine PI.of (PI.or (w_seq ha) (pi_kr ha)) fun σ H RR ⟨Z, env, Os, q, rs, xs, env', h1, h2⟩ => ?_
  obtain ⟨m, h3, h4⟩ := i_run h1
  rcases itR_or h4 with h5 | ⟨kvs, h5, rfl⟩
  · refine .inl ⟨Z, env, Os, q, rs, xs, env', ?_, h2⟩
    unfold seqOnly
    rw [h3]
    show (m.seq >>= _) = _
    rw [h5]
    rfl
  · refine .inr (Rx.go q h3 fun x H1 ⟨Z1, Os1, O1, q1, s1, r1, ro1⟩ => ?_)
    obtain ⟨Z2, q2, s2, r2, hO⟩ := walk_give q1 s1 r1 ro1
    obtain ⟨d, es, ep, vs, ws, e, hd, hm, rl, rl2, hv, hk⟩ := later_dic (σ := σ) r2 hO h5
    exact ⟨d, es, ep, vs, e, hd, hm, fun pins s I => (hv pins s I).1, h2 _ _ ⟨Z2, Os1, q2, s2, it_of_raw rl hk⟩⟩
theorem w_its {ts : List Expr} {kk : Nat} {tpos : Pos} (ha : PE X xa (Rx (wd X) (muE a) (ev G a))) (hp : plainBase xa = true) (hl : (apos.endLine == cpos.line) = true) :
    PI X (.Tuple ts kk tpos) (.Call (.Attribute xa "items" apos) [] [] cpos) (Ix (wd X) (muE (.its a)) (iRun G (.its a))) := by
  refine PI.of (pi_pr ha (base_ok hp) hl) fun σ H RR ⟨Z, env, Os, q, rs, xs, env', h1, h2⟩ => ?_
  obtain ⟨mm, h3, h4⟩ := i_run h1
  rw [ev] at h3
  simp only [muE] at h2
  obtain ⟨⟨m, r, e1⟩, h3, h5⟩ := R.bind_ok h3
  obtain ⟨kvs, h6, h7⟩ := R.bind_ok h5
  cases h7
  cases h4
  refine Rx.go q h3 fun x H1 ⟨Z1, Os1, O1, q1, s1, r1, ro1⟩ => ?_
  obtain ⟨Z2, q2, s2, r2, hO⟩ := walk_give q1 s1 r1 ro1
  obtain ⟨d, es, ep, vs, ws, e, hd, hm, rl, rl2, hv, hk⟩ := later_dic (σ := σ) r2 hO h6
  exact ⟨d, es, ep, vs, ws, e, hd, hm, hv, h2 _ _ ⟨Z2, Os1, q2, s2, it_of_prs rl rl2 hk⟩⟩
theorem w_vls (ha : PE X xa (Rx (wd X) (muE a) (ev G a))) (hp : plainBase xa = true) (hl : (apos.endLine == cpos.line) = true) :
    PI X tg (.Call (.Attribute xa "values" apos) [] [] cpos) (Ix (wd X) (muE (.vls a)) (iRun G (.vls a))) := by
  refine PI.of (pi_vr ha (base_ok hp) hl) fun σ H RR ⟨Z, env, Os, q, rs, xs, env', h1, h2⟩ => ?_
  obtain ⟨mm, h3, h4⟩ := i_run h1
  rw [ev] at h3
  simp only [muE] at h2
  obtain ⟨⟨m, r, e1⟩, h3, h5⟩ := R.bind_ok h3
  obtain ⟨kvs, h6, h7⟩ := R.bind_ok h5
  cases h7
  cases h4
  refine Rx.go q h3 fun x H1 ⟨Z1, Os1, O1, q1, s1, r1, ro1⟩ => ?_
  obtain ⟨Z2, q2, s2, r2, hO⟩ := walk_give q1 s1 r1 ro1
  obtain ⟨d, es, ep, vs, ws, e, hd, hm, rl, rl2, hv, hk⟩ := later_dic (σ := σ) r2 hO h6
  exact ⟨d, es, ep, ws, e, hd, hm, fun pins s I => (hv pins s I).2, h2 _ _ ⟨Z2, Os1, q2, s2, it_of_raw rl2 hk⟩⟩
end
end TR
set_option Elab.async false
set_option linter.all false
set_option maxHeartbeats 4000000
/-! targets -/
namespace TR
open PySem PySem.Spec PyProof.Rows L2 StX
/-- behind a store of data -/
def GPost (B : Wd) (vs : List Nat) (σ : L2.St) (Z : Zn) (H : Hp) (env : Env) (Os : List (List Addr)) (env' : Env) (σ' : L2.St) (H' : Hp) : Prop :=
  H' = H ∧ ∃ Os', Sat B Z σ' H env' Os' ∧ Step vs Z H env Os Z H env' Os' ∧ (∀ i, i ∉ vs → σ'[i]? = σ[i]?) ∧ σ'.length = σ.length
def Gb (B : Wd) (vs : List Nat) (run : D → Env → R Env) : TG := fun v σ H Q =>
  ∃ Z env Os d env', Sat B Z σ H env Os ∧ Rp B Z H v d ∧ run d env = .ok env' ∧ ∀ σ' H', GPost B vs σ Z H env Os env' σ' H' → Q σ' H'
def Gbs (B : Wd) (vs : List Nat) (run : List D → Env → R Env) : TGs := fun ws σ H Q =>
  ∃ Z env Os ds env', Sat B Z σ H env Os ∧ RpL B Z H ws ds ∧ run ds env = .ok env' ∧ ∀ σ' H', GPost B vs σ Z H env Os env' σ' H' → Q σ' H'
mutual
def chkP (C : Ctx) : P → Expr → Bool
  | .v i, .Name x _ => decide (C.N[i]? = some x) && decide (x ∈ C.loc)
  | .t ps, .Tuple xs _ _ => chkPs C ps xs
  | _, _ => false
def chkPs (C : Ctx) : List P → List Expr → Bool
  | [], [] => true
  | p :: ps, x :: xs => chkP C p x && chkPs C ps xs
  | _, _ => false
end
section
variable {G : List Fn} {C : Ctx} {X : Cx} {B : Wd} {Z Z' Z0 Z1 Z2 : Zn} {H H' H0 H1 H2 : Hp} {σ σ' : L2.St} {env env' env0 env1 : Env} {Os Os' Os0 Os1 : List (List Addr)} {mu : List Nat} {v : V} {m : M} {d : D}
theorem PG.of {tg : Expr} {t t' : TG} (h : PG X tg t) (w : ∀ v σ H Q, t' v σ H Q → t v σ H Q) : PG X tg t' := ⟨fun pins s σ H v u Q I r q => h.run pins s σ H v u Q I r (w v σ H Q q)⟩
theorem PGs.of {tg : List Expr} {t t' : TGs} (h : PGs X tg t) (w : ∀ v σ H Q, t' v σ H Q → t v σ H Q) : PGs X tg t' := ⟨fun pins s σ H v u Q I r q => h.run pins s σ H v u Q I r (w v σ H Q q)⟩
theorem set_get {α : Type} {l : List α} {i : Nat} {x : α} (h : i < l.length) : (l.set i x)[i]? = some x := List.getElem?_set_self h
/-- a slot gets a value: the heap as it was -/
theorem Sat.put {i : Nat} {O1 : List Addr} {m1 : M} {v1 : V} (q : Sat B Z σ H env Os) (hi : i < env.length) (r : RM B Z H v1 m1 O1) (nd : (O1 ++ Os.flatten).Nodup) (nz : ∀ a ∈ O1, ¬ Z a) :
    Sat B Z (σ.set i (some v1)) H (env.set i (some m1)) (Os.set i O1) := by
  have hO : ∃ Oi, Os[i]? = some Oi := ⟨_, List.getElem?_eq_getElem (by rw [q.len1]; exact hi)⟩
  obtain ⟨Oi, hO⟩ := hO
  obtain ⟨n1, n2, n3⟩ := List.nodup_append.mp nd
  exact q.upd hO (fun a o e _ => e) (fun _ z => z) (fun a z => ⟨.inl z, q.zh a z⟩) (by rw [List.length_set]) (set_get (by rw [q.len2]; exact hi)) (fun j hj => by rw [List.getElem?_set_ne (Ne.symm hj)]) r n1
    fun a ha => ⟨nz a ha, fun j O hj hOj hin => n3 a ha a (mem_flat.mpr ⟨j, O, hOj, hin⟩) rfl⟩
theorem Step.put {i : Nat} {O1 : List Addr} {w : Option M} (s : Step mu Z0 H0 env0 Os0 Z H env Os) (q : Sat B Z σ H env Os) (hm : i ∈ mu) (hi : i < env.length) (on : ∀ a ∈ O1, H0 a = none ∨ a ∈ Os0.flatten) :
    Step mu Z0 H0 env0 Os0 Z H (env.set i w) (Os.set i O1) := by
  have hO : ∃ Oi, Os[i]? = some Oi := ⟨_, List.getElem?_eq_getElem (by rw [q.len1]; exact hi)⟩
  obtain ⟨Oi, hO⟩ := hO
  exact s.upd q hm hO (fun a o e _ => e) (fun _ e => e) (fun _ z => z) (fun a z => .inl z) on
mutual
theorem g_of (ok : XOk G C X) : ∀ (p : P) (x : Expr), chkP C p x = true → PG X x (Gb (wd X) p.slots (bindP p))
  | .v i, x, h => by
    cases x <;> simp only [chkP] at h <;> try (cases h)
    rename_i nm pos
    simp only [Bool.and_eq_true, decide_eq_true_eq] at h
    obtain ⟨h1, h2⟩ := ok.loc nm h.2
    refine PG.of (pg_name (by rw [ok.N]; exact ok.nd) (by rw [ok.N]; exact h.1) h1 h2) fun v σ H Q ⟨Z, env, Os, d, env', q, r, e, k⟩ => ?_
    rw [bindP] at e
    obtain ⟨hi, e⟩ := R.of_if e
    cases e
    have s1 : Step [i] Z H env Os Z H (env.set i (some (.pu d))) (Os.set i []) := (Step.refl (mu := [i])).put (O1 := []) q (by simp) hi fun a h => nomatch h
    refine k (σ.set i (some v)) H ⟨rfl, _, q.put hi (.pu r) (by simpa using q.nd) (fun a h => nomatch h), by simpa only [P.slots] using s1, fun j hj => ?_, List.length_set⟩
    simp [P.slots] at hj
    rw [List.getElem?_set_ne (Ne.symm hj)]
  | .t ps, x, h => by
    cases x <;> simp only [chkP] at h <;> try (cases h)
    rename_i xs k pos
    have hl : ∀ {ps : List P} {xs : List Expr}, chkPs C ps xs = true → (assignEach xs X.env).length = ps.length ∧ (assignEach xs X.env).findIdx? (·.1) = none := by
      intro ps
      induction ps with
      | nil => intro xs h; cases xs <;> simp [chkPs] at h; exact ⟨rfl, rfl⟩
      | cons p ps ih =>
        intro xs h
        cases xs with
        | nil => simp [chkPs] at h
        | cons x xs =>
          simp only [chkPs, Bool.and_eq_true] at h
          obtain ⟨h1, h2⟩ := ih h.2
          have he : assignEach (x :: xs) X.env = (false, assign x X.env) :: assignEach xs X.env := by
            cases p <;> cases x <;> simp only [chkP] at h <;> first | rfl | (exact absurd h.1 (by simp))
          rw [he]
          exact ⟨by simp [h1], by simp [List.findIdx?_cons, h2]⟩
    obtain ⟨h1, h2⟩ := hl h
    refine PG.of (pg_tup ok.calm (gs_of ok ps xs h) h1 h2) fun v σ H Q ⟨Z, env, Os, d, env', q, r, e, kk⟩ => ?_
    cases d <;> simp only [bindP] at e <;> try (cases e)
    rename_i ds
    cases r with | tup hT rl =>
    refine ⟨_, _, rfl, hT.sq, ?_, Z, env, Os, ds, env', q, rl, e, kk⟩
    rw [rl.length]
    have : ∀ {ps : List P} {ds : List D} {env env' : Env}, bindPs ps ds env = .ok env' → ds.length = ps.length := by
      intro ps
      induction ps with
      | nil => intro ds env env' h; cases ds <;> simp [bindPs] at h; rfl
      | cons p ps ih =>
        intro ds env env' h
        cases ds with
        | nil => simp [bindPs] at h
        | cons d ds =>
          rw [bindPs] at h
          obtain ⟨e1, _, h2⟩ := R.bind_ok h
          simp [ih h2]
    exact this e
theorem gs_of (ok : XOk G C X) : ∀ (ps : List P) (xs : List Expr), chkPs C ps xs = true → PGs X xs (Gbs (wd X) (P.slotsL ps) (bindPs ps))
  | [], xs, h => by
    cases xs <;> simp [chkPs] at h
    refine PGs.of pgs_nil fun v σ H Q ⟨Z, env, Os, ds, env', q, r, e, k⟩ => ?_
    cases ds <;> simp [bindPs] at e
    subst e
    cases r
    exact ⟨rfl, k _ _ ⟨rfl, Os, q, Step.refl, fun _ _ => rfl, rfl⟩⟩
  | p :: ps, xs, h => by
    cases xs with
    | nil => simp [chkPs] at h
    | cons x xs =>
      simp only [chkPs, Bool.and_eq_true] at h
      have he : (assignEach (x :: xs) X.env).map (·.2) = assign x X.env :: (assignEach xs X.env).map (·.2) := by
        cases p <;> cases x <;> simp only [chkP] at h <;> first | rfl | (exact absurd h.1 (by simp))
      refine PGs.of (pgs_cons (g_of ok p x h.1) (gs_of ok ps xs h.2) he) fun v σ H Q ⟨Z, env, Os, ds, env', q, r, e, k⟩ => ?_
      cases ds with
      | nil => simp [bindPs] at e
      | cons d ds =>
        rw [bindPs] at e
        obtain ⟨e1, h2, h3⟩ := R.bind_ok e
        cases r with | cons r rl =>
        refine ⟨_, _, rfl, Z, env, Os, d, e1, q, r, h2, fun σ1 H1 ⟨eh, Os1, q1, s1, f1, l1⟩ => ?_⟩
        subst eh
        refine ⟨Z, e1, Os1, ds, env', q1, rl, h3, fun σ2 H2 ⟨eh, Os2, q2, s2, f2, l2⟩ => k σ2 H2 ⟨eh, Os2, q2, ?_, fun i hi => ?_, l2.trans l1⟩⟩
        · exact s1.trans s2 (fun i hi => by simp [P.slotsL, hi]) fun i hi => by simp [P.slotsL, hi]
        · simp [P.slotsL] at hi
          rw [f2 i hi.2, f1 i hi.1]
end
end
end TR
set_option Elab.async false
set_option linter.all false
set_option maxHeartbeats 4000000
/-! comprehensions -/
namespace TR
open PySem PySem.Spec PyProof.Rows L2 StX
/-! ### slots forgotten, slots put back -/
theorem wipeE_get : ∀ {vs : List Nat} {env : Env} {i : Nat}, (wipeE env vs)[i]? = if i ∈ vs then env[i]?.map fun _ => none else env[i]?
  | [], env, i => by simp [wipeE]
  | v :: vs, env, i => by
    unfold wipeE
    by_cases h : v = i
    · subst h
      rw [List.getElem?_set, if_pos rfl, if_pos (List.mem_cons_self)]
      have hl : ∀ vs, (wipeE env vs).length = env.length := by
        intro vs
        induction vs with
        | nil => rfl
        | cons w vs ih => unfold wipeE; rw [List.length_set, ih]
      by_cases h2 : v < env.length
      · rw [if_pos (by rw [hl]; exact h2), List.getElem?_eq_getElem h2]; rfl
      · rw [if_neg (by rw [hl]; exact h2), List.getElem?_eq_none (by omega)]; rfl
    · rw [List.getElem?_set_ne h, wipeE_get]
      by_cases h2 : i ∈ vs
      · rw [if_pos h2, if_pos (List.mem_cons_of_mem _ h2)]
      · rw [if_neg h2, if_neg (by simp only [List.mem_cons, not_or]; exact ⟨fun e => h e.symm, h2⟩)]
theorem wipeE_length : ∀ {vs : List Nat} {env : Env}, (wipeE env vs).length = env.length
  | [], env => rfl
  | v :: vs, env => by unfold wipeE; rw [List.length_set, wipeE_length]
def wipeO (Os : List (List Addr)) : List Nat → List (List Addr)
  | [] => Os
  | v :: vs => (wipeO Os vs).set v []
theorem wipeO_length : ∀ {vs : List Nat} {Os : List (List Addr)}, (wipeO Os vs).length = Os.length
  | [], env => rfl
  | v :: vs, env => by unfold wipeO; rw [List.length_set, wipeO_length]
theorem wipeO_get : ∀ {vs : List Nat} {Os : List (List Addr)} {i : Nat}, (wipeO Os vs)[i]? = if i ∈ vs then Os[i]?.map fun _ => [] else Os[i]?
  | [], env, i => by simp [wipeO]
  | v :: vs, Os, i => by
    unfold wipeO
    by_cases h : v = i
    · subst h
      rw [List.getElem?_set, if_pos rfl, if_pos (List.mem_cons_self)]
      by_cases h2 : v < Os.length
      · rw [if_pos (by rw [wipeO_length]; exact h2), List.getElem?_eq_getElem h2]; rfl
      · rw [if_neg (by rw [wipeO_length]; exact h2), List.getElem?_eq_none (by omega)]; rfl
    · rw [List.getElem?_set_ne h, wipeO_get]
      by_cases h2 : i ∈ vs
      · rw [if_pos h2, if_pos (List.mem_cons_of_mem _ h2)]
      · rw [if_neg h2, if_neg (by simp only [List.mem_cons, not_or]; exact ⟨fun e => h e.symm, h2⟩)]
theorem wipe_get : ∀ {vs : List Nat} {σ : L2.St} {i : Nat}, (wipe σ vs)[i]? = if i ∈ vs then σ[i]?.map fun _ => none else σ[i]?
  | [], env, i => by simp [wipe]
  | v :: vs, σ, i => by
    unfold wipe
    by_cases h : v = i
    · subst h
      rw [List.getElem?_set, if_pos rfl, if_pos (List.mem_cons_self)]
      by_cases h2 : v < σ.length
      · rw [if_pos (by rw [wipe_length]; exact h2), List.getElem?_eq_getElem h2]; rfl
      · rw [if_neg (by rw [wipe_length]; exact h2), List.getElem?_eq_none (by omega)]; rfl
    · rw [List.getElem?_set_ne h, wipe_get]
      by_cases h2 : i ∈ vs
      · rw [if_pos h2, if_pos (List.mem_cons_of_mem _ h2)]
      · rw [if_neg h2, if_neg (by simp only [List.mem_cons, not_or]; exact ⟨fun e => h e.symm, h2⟩)]
theorem backE_length : ∀ {vs : List Nat} {env old : Env}, (backE env old vs).length = env.length
  | [], env, old => rfl
  | v :: vs, env, old => by unfold backE; rw [List.length_set, backE_length]
theorem backE_get : ∀ {vs : List Nat} {env old : Env} {i : Nat}, (backE env old vs)[i]? = if i ∈ vs then env[i]?.map fun _ => old[i]?.getD none else env[i]?
  | [], env, old, i => by simp [backE]
  | v :: vs, env, old, i => by
    unfold backE
    by_cases h : v = i
    · subst h
      rw [List.getElem?_set, if_pos rfl, if_pos (List.mem_cons_self)]
      by_cases h2 : v < env.length
      · rw [if_pos (by rw [backE_length]; exact h2), List.getElem?_eq_getElem h2]; rfl
      · rw [if_neg (by rw [backE_length]; exact h2), List.getElem?_eq_none (l := env) (by omega)]; rfl
    · rw [List.getElem?_set_ne h, backE_get]
      by_cases h2 : i ∈ vs
      · rw [if_pos h2, if_pos (List.mem_cons_of_mem _ h2)]
      · rw [if_neg h2, if_neg (by simp only [List.mem_cons, not_or]; exact ⟨fun e => h e.symm, h2⟩)]
section
variable {G : List Fn} {C : Ctx} {X : Cx} {B : Wd} {Z Z' Z0 Z1 Z2 : Zn} {H H' H0 H1 H2 : Hp} {σ σ' : L2.St} {env env' env0 env1 en : Env} {Os Os' Os0 Os1 : List (List Addr)} {mu mub vs : List Nat} {v : V} {m : M} {d : D} {Dl : Addr}
/-- the new list at Dl is written: it is no slot's and no data -/
theorem Sat.side {o : HO} (q : Sat B Z σ H env Os) (h1 : Dl ∉ Os.flatten) (h2 : ¬ Z Dl) (h3 : ∀ ys, H Dl ≠ some (.tup ys)) (h4 : ∀ o u, H Dl ≠ some (.frz o u)) : Sat B Z σ (L2.upd H Dl o) env Os := by
  have k : ∀ a u, a ≠ Dl → H a = some u → L2.upd H Dl o a = some u := fun a u hn e => by rw [upd_ne hn]; exact e
  have st : Stay Z H (L2.upd H Dl o) := ⟨fun a u z e => k a u (fun h => h2 (h ▸ z)) e, fun a ys e => k a _ (fun h => h3 ys (h ▸ e)) e, fun a ob u e => k a _ (fun h => h4 ob u (h ▸ e)) e⟩
  refine ⟨q.len1, q.len2, fun i m e => ?_, q.emp, q.nd, q.nz, fun a z => ?_⟩
  · obtain ⟨v, O, k1, k2, r⟩ := q.val i m e
    exact ⟨v, O, k1, k2, r.stay st (fun _ z => z) fun a u ha e => k a u (fun h => h1 (h ▸ mem_flat.mpr ⟨i, O, k2, ha⟩)) e⟩
  · by_cases h : a = Dl
    · subst h; rw [upd_same]; simp
    · rw [upd_ne h]; exact q.zh a z
theorem side_stay {o : HO} (h2 : ¬ Z Dl) (h3 : ∀ ys, H Dl ≠ some (.tup ys)) (h4 : ∀ o u, H Dl ≠ some (.frz o u)) : Stay Z H (L2.upd H Dl o) := by
  have k : ∀ a u, a ≠ Dl → H a = some u → L2.upd H Dl o a = some u := fun a u hn e => by rw [upd_ne hn]; exact e
  exact ⟨fun a u z e => k a u (fun h => h2 (h ▸ z)) e, fun a ys e => k a _ (fun h => h3 ys (h ▸ e)) e, fun a ob u e => k a _ (fun h => h4 ob u (h ▸ e)) e⟩
theorem Step.side {o : HO} (s : Step mu Z0 H0 env0 Os0 Z H env Os) (h0 : H0 Dl = none) (q0 : Sat B Z0 σ H0 env0 Os0) : Step mu Z0 H0 env0 Os0 Z (L2.upd H Dl o) env Os := by
  refine ⟨s.elen, s.zz, s.zn, s.on, fun a u e hn => ?_, fun a e => ?_, fun i hi => ?_⟩
  · rw [upd_ne (ne_of_none e h0)]; exact s.keep a u e hn
  · by_cases h : a = Dl
    · subst h; exact h0
    · rw [upd_ne h] at e; exact s.dom a e
  · obtain ⟨h1, h2, h3⟩ := s.slot i hi
    refine ⟨h1, h2, fun O hO a ha => ?_⟩
    have : a ≠ Dl := fun h => q0.there (mem_flat.mpr ⟨i, O, hO, ha⟩) (h ▸ h0)
    rw [upd_ne this]; exact h3 O hO a ha
/-- forgetting slots -/
theorem Sat.wiped (q : Sat B Z σ' H env Os) (hσ : wipe σ' vs = wipe σ vs) : Sat B Z (wipe σ vs) H (wipeE env vs) (wipeO Os vs) := by
  refine ⟨by rw [wipeO_length, wipeE_length]; exact q.len1, by rw [← hσ, wipe_length, wipeE_length]; exact q.len2, fun i m e => ?_, fun i e => ?_, ?_, fun a ha => ?_, q.zh⟩
  · rw [wipeE_get] at e
    by_cases h : i ∈ vs
    · rw [if_pos h] at e
      cases hx : env[i]? <;> rw [hx] at e <;> cases e
    · rw [if_neg h] at e
      obtain ⟨v, O, k1, k2, r⟩ := q.val i m e
      refine ⟨v, O, ?_, by rw [wipeO_get, if_neg h]; exact k2, r⟩
      rw [← hσ, wipe_get, if_neg h]; exact k1
  · rw [wipeE_get] at e
    rw [wipeO_get]
    by_cases h : i ∈ vs
    · rw [if_pos h] at e ⊢
      have hl := q.len1
      cases hx : env[i]? with
      | none => rw [hx] at e; cases e
      | some w =>
        have : i < Os.length := by rw [hl]; exact (List.getElem?_eq_some_iff.mp hx).1
        rw [List.getElem?_eq_getElem this]; rfl
    · rw [if_neg h] at e ⊢
      exact q.emp i e
  · have : ∀ vs : List Nat, (wipeO Os vs).flatten.Nodup := by
      intro vs
      induction vs with
      | nil => exact q.nd
      | cons v vs ih => unfold wipeO; exact nodup_set_nil ih
    exact this vs
  · obtain ⟨j, O, h1, h2⟩ := mem_flat.mp ha
    rw [wipeO_get] at h1
    by_cases h : j ∈ vs
    · rw [if_pos h] at h1
      cases hx : Os[j]? <;> rw [hx] at h1 <;> cases h1
      cases h2
    · rw [if_neg h] at h1
      exact q.nz a (mem_flat.mpr ⟨j, O, h1, h2⟩)
theorem flat_wipeO {a : Addr} (h : a ∈ (wipeO Os vs).flatten) : a ∈ Os.flatten := by
  obtain ⟨j, O, h1, h2⟩ := mem_flat.mp h
  rw [wipeO_get] at h1
  by_cases hj : j ∈ vs
  · rw [if_pos hj] at h1
    cases hx : Os[j]? <;> rw [hx] at h1 <;> cases h1
    cases h2
  · rw [if_neg hj] at h1
    exact mem_flat.mpr ⟨j, O, h1, h2⟩
/-- a turn, its own slots forgotten -/
theorem Step.wiped (q : Sat B Z0 σ H0 (wipeE en vs) Os0) (s : Step (vs ++ mub) Z0 H0 (wipeE en vs) Os0 Z H env Os) (hl : Os.length = env.length) : Step mub Z0 H0 (wipeE en vs) Os0 Z H (wipeE env vs) (wipeO Os vs) := by
  have hel := s.elen
  refine ⟨by rw [wipeE_length]; exact s.elen, s.zz, s.zn, fun a ha => s.on a (flat_wipeO ha), s.keep, s.dom, fun i hi => ?_⟩
  by_cases h : i ∈ vs
  · have e1 : (wipeE env vs)[i]? = (wipeE en vs)[i]? := by
      rw [wipeE_get, wipeE_get, if_pos h, if_pos h]
      rw [wipeE_length] at hel
      by_cases hb : i < env.length
      · rw [List.getElem?_eq_getElem hb, List.getElem?_eq_getElem (by omega)]; rfl
      · rw [List.getElem?_eq_none (by omega), List.getElem?_eq_none (by omega)]
    have e2 : (wipeO Os vs)[i]? = Os0[i]? := by
      rw [wipeO_get, if_pos h]
      have hl0 := q.len1
      rw [wipeE_length] at hl0 hel
      by_cases hb : i < env.length
      · have : (wipeE en vs)[i]? = some none := by
          rw [wipeE_get, if_pos h, List.getElem?_eq_getElem (by omega)]; rfl
        rw [q.emp i this, List.getElem?_eq_getElem (by omega)]; rfl
      · rw [List.getElem?_eq_none (by omega), List.getElem?_eq_none (by omega)]; rfl
    refine ⟨e1, e2, fun O hO a ha => ?_⟩
    have : (wipeE en vs)[i]? = some none := by
      rw [wipeE_get, if_pos h]
      have hl0 := q.len1
      rw [wipeE_length] at hl0
      have : i < en.length := by rw [← hl0]; exact (List.getElem?_eq_some_iff.mp hO).1
      rw [List.getElem?_eq_getElem this]; rfl
    rw [q.emp i this] at hO
    cases hO
    cases ha
  · have hn : i ∉ vs ++ mub := by simp only [List.mem_append, not_or]; exact ⟨h, hi⟩
    obtain ⟨h1, h2, h3⟩ := s.slot i hn
    refine ⟨?_, ?_, h3⟩
    · rw [wipeE_get, if_neg h]; exact h1
    · rw [wipeO_get, if_neg h]; exact h2
theorem den_at (h : den env vs = true) (q : Sat B Z σ H env Os) {i : Nat} (hi : i ∈ vs) : Os[i]? = some [] ∧ (env[i]? = some none ∨ ∃ d, env[i]? = some (some (.pu d))) := by
  have := List.all_eq_true.mp h i hi
  split at this
  · rename_i e
    exact ⟨q.emp i e, .inl e⟩
  · rename_i d e
    obtain ⟨v, O, h1, h2, r⟩ := q.val i _ e
    cases r
    exact ⟨h2, .inr ⟨d, e⟩⟩
  · cases this
theorem wipeO_same (h : ∀ i ∈ vs, Os[i]? = some []) : wipeO Os vs = Os := by
  apply List.ext_getElem?
  intro i
  rw [wipeO_get]
  by_cases hi : i ∈ vs
  · rw [if_pos hi, h i hi]; rfl
  · rw [if_neg hi]
/-- the block is left: the slots hold again what they held -/
theorem Sat.back (q0 : Sat B Z0 σ H0 env0 Os0) (dn : den env0 vs = true) (q : Sat B Z (wipe σ vs) H (wipeE en vs) Os) (s : Step mub Z0 H0 (wipeE env0 vs) Os0 Z H (wipeE en vs) Os) :
    Sat B Z σ H (backE en env0 vs) Os ∧ Step (mub.filter fun i => !vs.contains i) Z0 H0 env0 Os0 Z H (backE en env0 vs) Os := by
  have hel := s.elen
  rw [wipeE_length, wipeE_length] at hel
  have hst := s.stay (q0.wiped (vs := vs) rfl |> fun z => by rw [wipeO_same fun i hi => (den_at dn q0 hi).1] at z; exact z)
  have hb : ∀ i, i ∈ vs → (backE en env0 vs)[i]? = env0[i]? := fun i hi => by
    rw [backE_get, if_pos hi]
    by_cases hl : i < env0.length
    · rw [List.getElem?_eq_getElem hl, List.getElem?_eq_getElem (by omega)]; rfl
    · rw [List.getElem?_eq_none (by omega), List.getElem?_eq_none (by omega)]; rfl
  have hemp : ∀ i, i ∈ vs → Os[i]? = some [] := fun i hi => by
    have h0 := (den_at dn q0 hi).1
    refine q.emp i ?_
    rw [wipeE_get, if_pos hi]
    have : i < env0.length := by rw [← q0.len1]; exact (List.getElem?_eq_some_iff.mp h0).1
    rw [List.getElem?_eq_getElem (by omega)]; rfl
  constructor
  · refine ⟨by rw [backE_length, ← wipeE_length (vs := vs)]; exact q.len1, by rw [backE_length, hel]; exact q0.len2, fun i m e => ?_, fun i e => ?_, q.nd, q.nz, q.zh⟩
    · by_cases hi : i ∈ vs
      · rw [hb i hi] at e
        obtain ⟨v, O, h1, h2, r⟩ := q0.val i m e
        obtain ⟨h3, h4⟩ := den_at dn q0 hi
        rcases h4 with h4 | ⟨d, h4⟩
        · rw [h4] at e; cases e
        · rw [h4] at e; cases e
          cases r with | pu r => exact ⟨v, [], h1, hemp i hi, .pu (r.stay hst s.zz)⟩
      · rw [backE_get, if_neg hi] at e
        obtain ⟨v, O, h1, h2, r⟩ := q.val i m (by rw [wipeE_get, if_neg hi]; exact e)
        rw [wipe_get, if_neg hi] at h1
        exact ⟨v, O, h1, h2, r⟩
    · by_cases hi : i ∈ vs
      · exact hemp i hi
      · rw [backE_get, if_neg hi] at e
        exact q.emp i (by rw [wipeE_get, if_neg hi]; exact e)
  · refine ⟨by rw [backE_length]; exact hel, s.zz, s.zn, s.on, s.keep, s.dom, fun i hi => ?_⟩
    by_cases h : i ∈ vs
    · refine ⟨hb i h, by rw [hemp i h, (den_at dn q0 h).1], fun O hO a ha => ?_⟩
      rw [(den_at dn q0 h).1] at hO; cases hO; cases ha
    · have hn : i ∉ mub := fun hm => hi (List.mem_filter.mpr ⟨hm, by simpa using h⟩)
      obtain ⟨h1, h2, h3⟩ := s.slot i hn
      rw [wipeE_get, wipeE_get, if_neg h, if_neg h] at h1
      exact ⟨by rw [backE_get, if_neg h]; exact h1, h2, h3⟩
/-! ### the block -/
def Ctx.blk (C : Ctx) (scope : Scope) : Ctx := { C with sc := relS scope C.sc, loc := (scope.names.filter fun y => decide (scope.names.lookup y.1 = some .local) || decide (scope.names.lookup y.1 = some .cell)).map (·.1) }
theorem XOk.blk (ok : XOk G C X) (s : Shared) (H : Hp) (scope : Scope) (Cd : Addr) (cl : List (Str × Addr)) (fp : List Addr) : XOk G (C.blk scope) (X.blk s H scope (compEnvC scope cl Cd X.env) fp) where
  N := ok.N
  nd := ok.nd
  sc := by
    show relS scope X.env.scope = relS scope C.sc
    rw [ok.sc]
  calm := ok.calm
  hu := ok.hu
  hd := ok.hd
  bl := ok.bl
  fns := ok.fns
  loc := fun x hx => by
    obtain ⟨y, h1, rfl⟩ := List.mem_map.mp hx
    obtain ⟨h1, h2⟩ := List.mem_filter.mp h1
    simp only [Bool.or_eq_true, decide_eq_true_eq] at h2
    rcases h2 with h2 | h2
    · have : (relS scope X.env.scope).names.lookup y.1 = some .local := lookup_relS_keep (by simp) h2
      exact ⟨.inl this, .inr this⟩
    · have : (relS scope X.env.scope).names.lookup y.1 = some .cell := lookup_relS_keep (by simp) h2
      exact ⟨.inr this, .inl (by show (scope.names.lookup y.1 == some .cell) = true; rw [h2]; rfl)⟩
  con := ok.con
theorem fold_no {e : Expr} {env : PySem.Env} (h : noSet e = true) : ∀ x, foldedSetIterable e env x = pure x := by
  intro x
  cases e <;> first | rfl | cases h
/-- the tests of a clause -/
def csRun (G : List Fn) (cs : List E) : Env → R (Bool × Env) := fun env => evCs G cs env
theorem pts_of {Y : Cx} {ifs : List Expr} {t t' : TT} (h : PTs Y ifs t) (w : ∀ σ H Q, t' σ H Q → t σ H Q) : PTs Y ifs t' := ⟨fun pins s σ H Q I q => h.run pins s σ H Q I (w σ H Q q)⟩
theorem c_nil {Y : Cx} : PTs Y [] (Bx (wd Y) (muEs []) (evCs G [])) := by
  refine pts_of pts_nil fun σ H Q ⟨Z, env, Os, q, b, env', h1, h2⟩ => ?_
  simp only [evCs] at h1
  cases h1
  exact h2 H ⟨Z, Os, q, Step.refl⟩
theorem c_one {Y : Cx} {c : E} {xc : Expr} (h : PT Y xc (Bx (wd Y) (muE c) (bRun G c))) : PTs Y [xc] (Bx (wd Y) (muEs [c]) (evCs G [c])) := by
  refine pts_of (pts_one h) fun σ H Q ⟨Z, env, Os, q, b, env', h1, h2⟩ => ?_
  simp only [evCs] at h1
  simp only [muEs, List.append_nil] at h2
  obtain ⟨r, h3, h4⟩ := R.bind_ok h1
  obtain ⟨⟨k, e1⟩, h5, h6⟩ := R.bind_ok h4
  have hb : bRun G c env = .ok (k, e1) := by unfold bRun; rw [h3]; exact h5
  cases k with
  | true =>
    rw [if_pos rfl] at h6
    cases h6
    exact ⟨Z, env, Os, q, _, _, hb, h2⟩
  | false =>
    rw [if_neg (by simp)] at h6
    cases h6
    exact ⟨Z, env, Os, q, _, _, hb, h2⟩
/-- one turn of a comprehension -/
def lcF (G : List Fn) (vs : List Nat) (elt : E) (p : P) (cs : List E) : D → Env → R (Option D × Env) := fun x en => do
  let e2 ← bindP p x (wipeE en vs)
  let (b, e3) ← evCs G cs e2
  if b then do
    let r ← ev G elt e3
    let (d, e4) ← takeR elt r
    R.ok (some d, e4)
  else R.ok (none, e3)
theorem lcF_at {vs : List Nat} {elt : E} {p : P} {cs : List E} {x : D} {en e' : Env} {o : Option D} (h : lcF G vs elt p cs x en = .ok (o, e')) :
    ∃ e2 b e3, bindP p x (wipeE en vs) = .ok e2 ∧ evCs G cs e2 = .ok (b, e3) ∧ ((b = true ∧ ∃ d, tRun G elt e3 = .ok (d, e') ∧ o = some d) ∨ (b = false ∧ e' = e3 ∧ o = none)) := by
  obtain ⟨e2, h1, h⟩ := R.bind_ok h
  obtain ⟨⟨b, e3⟩, h2, h⟩ := R.bind_ok h
  refine ⟨e2, b, e3, h1, h2, ?_⟩
  cases b with
  | true =>
    dsimp only at h
    rw [if_pos rfl] at h
    obtain ⟨r, h3, h⟩ := R.bind_ok h
    obtain ⟨⟨d, e4⟩, h4, h⟩ := R.bind_ok h
    cases h
    exact .inl ⟨rfl, d, tRun_eq h3 h4, rfl⟩
  | false =>
    dsimp only at h
    rw [if_neg (by simp)] at h
    cases h
    exact .inr ⟨rfl, rfl, rfl⟩
/-- the tracked list is out of reach -/
theorem out_of (s : Step mu Z0 H0 env0 Os0 Z H env Os) (q0 : Sat B Z0 σ H0 env0 Os0) (h0 : H0 Dl = some (.lst ([] : List V)) ∨ ∃ l, H0 Dl = some (.lst l)) (n1 : Dl ∉ Os0.flatten) (n2 : ¬ Z0 Dl) : H Dl = H0 Dl ∧ Dl ∉ Os.flatten ∧ ¬ Z Dl := by
  have h0' : ∃ l, H0 Dl = some (.lst l) := h0.elim (fun h => ⟨_, h⟩) id
  obtain ⟨l, hl⟩ := h0'
  refine ⟨by rw [hl]; exact s.keep _ _ hl n1, fun h => ?_, fun z => ?_⟩
  · rcases s.on _ h with k | k
    · rw [hl] at k; cases k
    · exact n1 k
  · rcases s.zn _ z with k | k | k
    · exact n2 k
    · rw [hl] at k; cases k
    · exact n1 k
/-- the loop: from the block's first state to its last -/
theorem lc_loop {vs : List Nat} {elt : E} {p : P} {cs : List E} {rs : List Nat} {J : It} {xs ys : List D} {e1 e2 : Env} {tt : TT} {te : TE} {g : TG} {σ : L2.St} {Q : V → Hp → Prop}
    (q1 : Sat B Z1 σ H1 e1 Os1) (dn : den e1 vs = true) (sp : subs p.slots vs = true) (it : ItOk B Z1 H1 Os1 rs J xs) (ap : apart rs (muT elt ++ muEs cs ++ vs) = true) (hrun : lcLoop (lcF G vs elt p cs) xs e1 = .ok (ys, e2)) (hlen : ys.length ≤ big)
    (hg : ∀ v σ H Q, Gb B p.slots (bindP p) v σ H Q → g v σ H Q) (ht : ∀ σ H Q, Bx B (muEs cs) (evCs G cs) σ H Q → tt σ H Q) (he : ∀ σ H Q, Tx B (muT elt) (tRun G elt) σ H Q → te σ H Q) (hD : H1 Dl = none)
    (fin : ∀ Z Os H ws, Sat B Z (wipe σ vs) H (wipeE e2 vs) Os → Step (muT elt ++ muEs cs) Z1 H1 (wipeE e1 vs) Os1 Z H (wipeE e2 vs) Os → H Dl = some (.lst ws) → RpL B Z H ws ys → Dl ∉ Os.flatten → ¬ Z Dl → Q (.ref Dl) H) :
    ∃ W : Nat → Nat → Hp → Prop, (∃ m, W 0 m (L2.upd H1 Dl (.lst []))) ∧ ∀ i m H, W i m H →
      (J.stop i H ∧ Q (.ref Dl) H) ∨ (J.go i H ∧ ∃ Nx : Hp → Prop, (∀ H', Nx H' → ∃ m', m' < m ∧ W (i + 1) m' H') ∧ ∀ x H', J.yld i H x H' → g x (wipe σ vs) H' fun σ2 H2 => wipe σ2 vs = wipe σ vs ∧ tt σ2 H2 fun b H3 =>
        if b = true then te σ2 H3 fun y H4 => ∃ acc, H4 Dl = some (.lst acc) ∧ acc.length < sizeLine ∧ Nx (L2.upd H4 Dl (.lst (acc ++ [y]))) else Nx H3) := by
  obtain ⟨Gd, Y, w, hG, hY⟩ := it
  have q1w := q1.wiped (vs := vs) rfl
  rw [wipeO_same fun i hi => (den_at dn q1 hi).1] at q1w
  have sub : ∀ i ∈ p.slots, i ∈ vs := fun i hi => by simpa using List.all_eq_true.mp sp i hi
  have later : ∀ {Z H en Os}, Step (muT elt ++ muEs cs) Z1 H1 (wipeE e1 vs) Os1 Z H (wipeE en vs) Os → Later rs Os1 Z1 H1 Z H := fun {Z H en Os} s => by
    refine ⟨s.zz, s.stay q1w, fun i hi O hO a ha => ?_⟩
    have := List.all_eq_true.mp ap i hi
    simp only [List.contains_eq_mem, List.mem_append, Bool.not_eq_true', decide_eq_false_iff_not, not_or] at this
    exact (s.slot i (by simp only [List.mem_append, not_or]; exact this.1)).2.2 O hO a ha
  refine lc_it w (fun i H => ∃ Z en Os ws done rest, Sat B Z (wipe σ vs) H (wipeE en vs) Os ∧ Step (muT elt ++ muEs cs) Z1 H1 (wipeE e1 vs) Os1 Z H (wipeE en vs) Os ∧ H Dl = some (.lst ws) ∧ RpL B Z H ws done ∧
      Dl ∉ Os.flatten ∧ ¬ Z Dl ∧ lcLoop (lcF G vs elt p cs) (xs.drop i) en = .ok (rest, e2) ∧ ys = done ++ rest) ?_ ?_ ?_ ?_
  · have g0 : Grow H1 (L2.upd H1 Dl (.lst [])) := Grow.upd hD
    exact ⟨Z1, e1, Os1, [], [], ys, q1w.grow g0, (Step.refl (mu := muT elt ++ muEs cs)).grow g0 q1w, upd_same, .nil, fun h => q1.there h hD, fun z => q1.zh _ z hD, by simpa using hrun, rfl⟩
  · rintro i H hi ⟨Z, en, Os, ws, done, rest, q, s, _⟩
    exact hG Z H (later s)
  · rintro i x H H' hi ⟨Z, en, Os, ws, done, rest, q, s, hDl, rw', n1, n2, hr, e⟩ hy
    have hx : xs[i]? = some xs[i] := List.getElem?_eq_getElem hi
    obtain ⟨g1, rx⟩ := hY Z H i x H' xs[i] (later s) hx hy
    rw [List.drop_eq_getElem_cons hi] at hr
    obtain ⟨⟨o, en'⟩, h1, h2⟩ := R.bind_ok hr
    obtain ⟨⟨rest', e'⟩, h3, h4⟩ := R.bind_ok h2
    have he' : e' = e2 ∧ rest = (match o with | some y => y :: rest' | none => rest') := by
      cases o <;> (cases h4; exact ⟨rfl, rfl⟩)
    obtain ⟨rfl, hrest⟩ := he'
    obtain ⟨b2, b, b3, h5, h6, h7⟩ := lcF_at h1
    have qg := q.grow g1
    have sg := s.grow g1 q
    refine hg x _ _ _ ⟨Z, _, Os, _, b2, qg, rx, h5, fun σ2 H2 ⟨eh, Os2, q2, s2, f2, l2⟩ => ?_⟩
    have hw : wipe σ2 vs = wipe σ vs := by
      apply List.ext_getElem?
      intro j
      rw [wipe_get, wipe_get]
      by_cases hj : j ∈ vs
      · rw [if_pos hj, if_pos hj]
        rw [wipe_length] at l2
        by_cases hb : j < σ.length
        · rw [List.getElem?_eq_getElem hb, List.getElem?_eq_getElem (by omega)]; rfl
        · rw [List.getElem?_eq_none (by omega), List.getElem?_eq_none (by omega)]
      · rw [if_neg hj, if_neg hj, f2 j fun h => hj (sub j h), wipe_get, if_neg hj]
    cases eh
    refine ⟨hw, ht _ _ _ ⟨Z, b2, Os2, q2, b, b3, h6, fun H3 ⟨Z3, Os3, q3, s3⟩ => ?_⟩⟩
    have hDl' : H' Dl = some (.lst ws) := g1 _ _ hDl
    have out2 := out_of s2 qg (.inr ⟨ws, hDl'⟩) n1 n2
    have out3 := out_of s3 q2 (.inr ⟨ws, hDl'⟩) out2.2.1 out2.2.2
    have s23 : Step (vs ++ (muT elt ++ muEs cs)) Z H' (wipeE en vs) Os Z3 H3 b3 Os3 := s2.trans s3 (fun i hi => ml _ (sub i hi)) (fun i hi => mr _ (mr _ hi))
    rcases h7 with ⟨rfl, d, h8, rfl⟩ | ⟨rfl, rfl, rfl⟩
    · refine if_t (he _ _ _ ⟨Z3, b3, Os3, q3, d, en', h8, fun y H4 ⟨Z4, Os4, q4, s4, r4⟩ => ?_⟩)
      have out4 := out_of s4 q3 (.inr ⟨ws, out3.1.trans hDl'⟩) out3.2.1 out3.2.2
      have hD4 : H4 Dl = some (.lst ws) := out4.1.trans (out3.1.trans hDl')
      have s24 : Step (vs ++ (muT elt ++ muEs cs)) Z H' (wipeE en vs) Os Z4 H4 en' Os4 := s23.trans s4 (fun i hi => hi) (fun i hi => mr _ (ml _ hi))
      have s5 : Step (muT elt ++ muEs cs) Z1 H1 (wipeE e1 vs) Os1 Z4 H4 (wipeE en' vs) (wipeO Os4 vs) := sg.trans (s24.wiped qg q4.len1) (fun i hi => hi) fun i hi => hi
      have t4 : ∀ zs, H4 Dl ≠ some (.tup zs) := fun zs h => by rw [hD4] at h; cases h
      have f4 : ∀ o u, H4 Dl ≠ some (.frz o u) := fun o u h => by rw [hD4] at h; cases h
      have st := side_stay (o := .lst (ws ++ [y])) out4.2.2 t4 f4
      have hlw : ws.length < sizeLine := by
        rw [← big_eq]
        have := rw'.length
        have h9 : ys.length = done.length + rest.length := by rw [e, List.length_append]
        have h10 : rest.length = rest'.length + 1 := by rw [hrest]; rfl
        omega
      refine ⟨ws, hD4, hlw, Z4, en', wipeO Os4 vs, ws ++ [y], done ++ [d], rest', (q4.wiped hw).side (fun h => out4.2.1 (flat_wipeO h)) out4.2.2 t4 f4, s5.side hD q1w, upd_same, ?_, fun h => out4.2.1 (flat_wipeO h), out4.2.2, h3, ?_⟩
      · have s6 := (s2.trans s3 (mu := vs ++ (muT elt ++ muEs cs)) (fun i hi => ml _ (sub i hi)) (fun i hi => mr _ (mr _ hi))).trans s4 (mu := vs ++ (muT elt ++ muEs cs)) (fun i hi => hi) (fun i hi => mr _ (ml _ hi))
        have r1 : RpL B Z4 H4 ws done := (rw'.stay g1.stay fun _ z => z).stay (s6.stay qg) s6.zz
        exact (r1.append (.cons r4 .nil)).stay st fun _ z => z
      · rw [e, hrest, List.append_assoc]; rfl
    · refine if_f ?_
      have s5 : Step (muT elt ++ muEs cs) Z1 H1 (wipeE e1 vs) Os1 Z3 H3 (wipeE en' vs) (wipeO Os3 vs) := sg.trans (s23.wiped qg q3.len1) (fun i hi => hi) fun i hi => hi
      refine ⟨Z3, en', wipeO Os3 vs, ws, done, rest', q3.wiped hw, s5, out3.1.trans hDl', (rw'.stay g1.stay fun _ z => z).stay (s23.stay qg) s23.zz, fun h => out3.2.1 (flat_wipeO h), out3.2.2, h3, ?_⟩
      rw [e, hrest]
  · rintro H ⟨Z, en, Os, ws, done, rest, q, s, hDl, rw', n1, n2, hr, e⟩
    rw [List.drop_of_length_le (Nat.le_refl _)] at hr
    cases hr
    rw [List.append_nil] at e
    subst e
    exact fin Z Os H ws q s hDl rw' n1 n2
end
end TR
set_option Elab.async false
set_option linter.all false
set_option maxHeartbeats 4000000
namespace TR
open PySem PySem.Spec PyProof.Rows L2 StX
section
variable {G : List Fn} {C : Ctx} {X : Cx} {B : Wd} {Z Z' Z0 Z1 Z2 : Zn} {H H' H0 H1 H2 : Hp} {σ σ' : L2.St} {env env' env0 env1 en : Env} {Os Os' Os0 Os1 : List (List Addr)} {mu mub vs : List Nat} {v : V} {m : M} {d : D} {Dl : Addr}
/-- the block's own names with their slots -/
def ownOf (C : Ctx) (vs : List Nat) : List (Str × Nat) := vs.map fun i => ((C.N[i]?).getD ⟨#[]⟩, i)
theorem ownOf_ix (C : Ctx) (vs : List Nat) : (ownOf C vs).map (·.2) = vs := by
  unfold ownOf
  rw [List.map_map]
  induction vs with
  | nil => rfl
  | cons v vs ih => rw [List.map_cons, ih]; rfl
theorem filt {l r vs : List Nat} : ∀ i ∈ (r.filter fun i => !vs.contains i), i ∈ l ++ (r.filter fun i => !vs.contains i) := fun i h => List.mem_append_right _ h
/-- [elt for p in it if ..] -/
theorem lc_fin {Q : VK} {ys : List D} {e2 : Env} (q : Sat B Z σ H env Os) (s : Step mu Z H env Os Z1 H1 env1 Os1) (q1 : Sat B Z1 σ H1 env1 Os1) (dn : den env1 vs = true) (hD : H1 Dl = none)
    (h2 : ∀ v H', Post B (mu ++ (mub.filter fun i => !vs.contains i)) σ Z H env Os (.li ys) [] (backE e2 env1 vs) v H' → Q v H') :
    ∀ Z2 Os2 H2 ws, Sat B Z2 (wipe σ vs) H2 (wipeE e2 vs) Os2 → Step mub Z1 H1 (wipeE env1 vs) Os1 Z2 H2 (wipeE e2 vs) Os2 → H2 Dl = some (.lst ws) → RpL B Z2 H2 ws ys → Dl ∉ Os2.flatten → ¬ Z2 Dl → Q (.ref Dl) H2 := fun Z2 Os2 H2 ws q2 s2 hDl rl n1 n2 => by
  obtain ⟨q3, s3⟩ := Sat.back q1 dn q2 s2
  exact h2 _ _ ⟨Z2, Os2, [Dl], q3, s.trans s3 ml mr, .li hDl rl, fun _ => ⟨List.nodup_append.mpr ⟨by simp, q3.nd, fun a ha b hb e => by simp at ha; subst ha; exact n1 (e ▸ hb)⟩, fun a ha => by simp at ha; subst ha; exact ⟨n2, .inl (s.dom _ hD)⟩⟩, fun h => (h rfl).elim, by simp⟩
theorem lc_run {vs : List Nat} {elt it : E} {p : P} {cs : List E} {env env' : Env} {rs : List Nat} (h : ev G (.lc false vs elt p it cs) env = .ok (m, rs, env')) :
    ∃ mm r1 e1, ev G it env = .ok (mm, r1, e1) ∧ den e1 vs = true ∧ subs p.slots vs = true ∧ rs = [] ∧
      ((∃ i xss, mm = .nl xss ∧ it = .var i ∧ muT elt ++ muEs cs = [] ∧ i ∉ vs ∧ ∃ ys e2, lcLoop (lcF G vs elt p cs) (xss.map .list) (e1.set i (some (.pu (.list (xss.map .list))))) = .ok (ys, e2) ∧ noLs ys = true ∧ ys.length ≤ big ∧ m = .li ys ∧ env' = e1) ∨
       (nlAt mm it = none ∧ ∃ xs, itR mm = .ok xs ∧ apart r1 (muT elt ++ muEs cs ++ vs) = true ∧ ∃ ys e2, lcLoop (lcF G vs elt p cs) xs e1 = .ok (ys, e2) ∧ ys.length ≤ big ∧ m = .li ys ∧ env' = backE e2 e1 vs)) := by
  rw [ev] at h
  obtain ⟨⟨mm, r1, e1⟩, h1, h⟩ := R.bind_ok h
  dsimp only at h
  obtain ⟨hc, h⟩ := R.of_if h
  simp only [Bool.and_eq_true] at hc
  rw [if_neg (by simp)] at h
  refine ⟨mm, r1, e1, h1, hc.1, hc.2, ?_⟩
  cases hb : nlAt mm it with
  | some ix =>
    obtain ⟨i, xs⟩ := ix
    rw [hb] at h
    dsimp only at h
    have hx : ∃ xss, mm = .nl xss ∧ it = .var i ∧ xs = xss.map .list := by
      unfold nlAt at hb
      split at hb
      · cases hb; exact ⟨_, rfl, rfl, rfl⟩
      · cases hb
    obtain ⟨xss, e2, e3, e4⟩ := hx
    obtain ⟨hm, h⟩ := R.of_if h
    obtain ⟨⟨ys, e5⟩, h3, h⟩ := R.bind_ok h
    obtain ⟨hc2, h⟩ := R.of_if h
    simp only [Bool.and_eq_true, decide_eq_true_eq] at hc2 hm
    cases h
    subst e4
    exact ⟨rfl, .inl ⟨i, xss, e2, e3, by simpa using hm.1, by simpa using hm.2, ys, e5, h3, hc2.1, hc2.2, rfl, rfl⟩⟩
  | none =>
    rw [hb] at h
    dsimp only at h
    obtain ⟨xs, h2, h⟩ := R.bind_ok h
    obtain ⟨hm, h⟩ := R.of_if h
    obtain ⟨⟨ys, e2⟩, h3, h⟩ := R.bind_ok h
    obtain ⟨hc2, h⟩ := R.of_if h
    cases h
    exact ⟨rfl, .inr ⟨rfl, xs, h2, hm, ys, e2, h3, hc2, rfl, rfl⟩⟩
/-- a slot's own list of lists, walked as data -/
def Nx (B : Wd) (i : Nat) : TI := fun σ H Q => ∃ Z env Os xss, Sat B Z σ H env Os ∧ env[i]? = some (some (.nl xss)) ∧
  ∀ J Z1 H1 Os1 Oi, Sat B Z1 σ H1 env Os1 → Step [] Z H env Os Z1 H1 env Os1 → Os1[i]? = some Oi → ItOk B (fun a => Z1 a ∨ a ∈ Oi) H1 (Os1.set i []) [] J (xss.map .list) → Q J H1
theorem w_nl {xa tg : Expr} {i : Nat} (ha : PE X xa (Rx (wd X) (muE (.var i)) (ev G (.var i)))) : PI X tg xa (Nx (wd X) i) := by
  refine PI.of (pi_list ha) fun σ H RR ⟨Z, env, Os, xss, q, e, k⟩ => ?_
  have he : ev G (.var i) env = .ok (.nl xss, [i], env) := by
    simp only [ev, Env.get, e]
    rfl
  refine Rx.go q he fun x H1 ⟨Z1, Os1, O1, q1, s1, r1, ro1⟩ => ?_
  obtain ⟨w, Oi, _, ho, _⟩ := q1.val i _ e
  have hO : ∀ a ∈ O1, a ∈ Oi := fun a ha => by
    obtain ⟨j, hj, Oj, h1, h2⟩ := ro1.2.1 (by simp) a ha
    simp at hj; subst hj
    rw [ho] at h1; cases h1
    exact h2
  cases r1 with | nl h rn =>
  have rl := rn.view (Z' := fun a => Z1 a ∨ a ∈ Oi) (fun a z => .inl z) fun b hb => .inr (hO b (List.mem_cons_of_mem _ hb))
  refine ⟨_, rfl, ⟨_, .inl (.of h)⟩, k _ Z1 H1 Os1 Oi q1 (by simpa only [muE] using s1) ho (it_of_list rl fun Z2 H2 l => .inl (RdL.keep (.of h) fun o z => l.st.z _ o (.inr (hO _ List.mem_cons_self)) z))⟩
/-- data without lists stand whatever may be written -/
theorem noL_rp {Z Z' : Zn} {H : Hp} : ∀ {v : V} {d : D}, noL d = true → Rp B Z H v d → Rp B Z' H v d
  | _, _, _, .non => .non
  | _, _, _, .bl b => .bl b
  | _, _, _, .int i => .int i
  | _, _, _, .str x => .str x
  | _, _, h, .tup hT r => .tup hT (noLs_rp (by simpa [noL] using h) r)
  | _, _, h, .lst _ _ _ => by simp [noL] at h
  | _, _, _, .lsK h r => by simp [noL] at *
  | _, _, h, .dA _ _ _ _ => by simp [noL] at h
  | _, _, h, .dN _ _ _ _ => by simp [noL] at h
where
  noLs_rp {Z Z' : Zn} {H : Hp} : ∀ {vs : List V} {ds : List D}, noLs ds = true → RpL B Z H vs ds → RpL B Z' H vs ds
    | _, _, _, .nil => .nil
    | _, _, h, .cons r t => by
      simp only [noLs, Bool.and_eq_true] at h
      exact .cons (noL_rp h.1 r) (noLs_rp h.2 t)
theorem blk_hs {xi : Expr} (h : noSet xi = true) : ∀ x, foldedSetIterable xi X.env x = pure x := fold_no h
/-- the sources of a walk -/
def lcW (G : List Fn) (B : Wd) (it : E) : TI := fun σ H Q => Ix B (muE it) (iRun G it) σ H Q ∨ ∃ i, it = .var i ∧ Nx B i σ H Q
theorem lc_w {vs : List Nat} {elt it : E} {p : P} {cs : List E} {Q : VK} (h : Rx B (muE (.lc false vs elt p it cs)) (ev G (.lc false vs elt p it cs)) σ H Q) :
    tLc (lcW G B it) (Gb B p.slots (bindP p)) (Bx B (muEs cs) (evCs G cs)) (Tx B (muT elt) (tRun G elt)) vs σ H Q := by
  obtain ⟨Z, env, Os, q, m, rs, env', h1, h2⟩ := h
  simp only [muE] at h2
  obtain ⟨mm, r1, e1, h3, dn, sp, rfl, h⟩ := lc_run h1
  rcases h with ⟨i, xss, rfl, rfl, hm, hiv, ys, e2, h4, h5, h6, rfl, rfl⟩ | ⟨_, xs, h4, ap, ys, e2, h5, h6, rfl, rfl⟩
  · obtain ⟨he1, hv, _⟩ := ev_var h3
    cases he1
    refine .inr ⟨i, rfl, Z, _, Os, xss, q, hv, fun J Z1 H1 Os1 Oi q1 s1 ho hit D hD => ?_⟩
    have qf := q1.freeze hv ho
    have dnf : den (List.set env i (some (.pu (M.nl xss).toD))) vs = true := by
      unfold den at dn ⊢
      rw [List.all_eq_true] at dn ⊢
      intro j hj
      have hne : i ≠ j := fun e => hiv (e ▸ hj)
      rw [List.getElem?_set_ne hne]
      exact dn j hj
    refine lc_loop qf dnf sp hit (by simp [apart]) h4 h6 (fun v σ H Q h => h) (fun σ H Q h => h) (fun σ H Q h => h) hD fun Z2 Os2 H2 ws q2 s2 hDl rl n1 n2 => ?_
    have hm' : muT elt = [] ∧ muEs cs = [] := List.append_eq_nil_iff.mp hm
    have g : Grow H1 H2 := by
      intro a o e
      by_cases ha : a ∈ (Os1.set i []).flatten
      · obtain ⟨j, O, k1, k2⟩ := mem_flat.mp ha
        rw [(s2.slot j (by rw [hm]; simp)).2.2 O k1 a k2]; exact e
      · exact s2.keep a o e ha
    refine h2 _ _ ?_
    have nw : New B Z1 H1 (.li ys) (.ref D) H2 := ⟨g, [D], .li hDl (noL_rp.noLs_rp h5 rl), by simp, fun a ha => by simp at ha; subst ha; exact hD⟩
    exact (nw.post q1 s1).mono fun i hi => nomatch hi
  · refine .inl ⟨Z, env, Os, q, r1, xs, e1, ?_, fun J H1 ⟨Z1, Os1, q1, s1, hit⟩ D hD => ?_⟩
    · unfold iRun
      rw [h3]
      show (itR mm >>= _) = _
      rw [h4]
      rfl
    · exact lc_loop q1 dn sp hit ap h5 h6 (fun v σ H Q h => h) (fun σ H Q h => h) (fun σ H Q h => h) hD (lc_fin q s1 q1 dn hD h2)
theorem lcW_pi {xi tg : Expr} {it : E} (hi : PI X tg xi (Ix (wd X) (muE it) (iRun G it))) (hn : ∀ i, it = .var i → PI X tg xi (Nx (wd X) i)) : PI X tg xi (lcW G (wd X) it) :=
  ⟨fun pins s σ H R I h => h.elim (hi.run pins s σ H R I) fun ⟨i, e, h⟩ => (hn i e).run pins s σ H R I h⟩
/-- [elt for p in it if ..] -/
theorem k_lc (ok : XOk G C X) {vs : List Nat} {elt it : E} {p : P} {cs : List E} {xelt xi tg : Expr} {ifs : List Expr} {scope : Scope} {pos : Pos}
    (hi : PI X tg xi (Ix (wd X) (muE it) (iRun G it))) (hn : ∀ i, it = .var i → PI X tg xi (Nx (wd X) i)) (hb : blkC C.N C.sc scope (ownOf C vs) = true) (hs : noSet xi = true)
    (hg : ∀ Y : Cx, wd Y = wd X → XOk G (C.blk scope) Y → PG Y tg (Gb (wd Y) p.slots (bindP p))) (ht : ∀ Y : Cx, wd Y = wd X → XOk G (C.blk scope) Y → PTs Y ifs (Bx (wd Y) (muEs cs) (evCs G cs)))
    (he : ∀ Y : Cx, wd Y = wd X → XOk G (C.blk scope) Y → PE Y xelt (Tx (wd Y) (muT elt) (tRun G elt))) :
    PE X (.ListComp xelt [⟨tg, xi, ifs, 0⟩] scope pos) (Rx (wd X) (muE (.lc false vs elt p it cs)) (ev G (.lc false vs elt p it cs))) ∧
    ∀ (i : Nat) (y : Str) (py spos : Pos), C.N[i]? = some y → C.sc.names.lookup y = some .local → swapsWith (.ListComp xelt [⟨tg, xi, ifs, 0⟩] scope pos) (some (.Name y py)) spos.line X.env = pure true →
      PS X (.Assign [.Name y py] (.ListComp xelt [⟨tg, xi, ifs, 0⟩] scope pos) spos) (tAsg (Rx (wd X) (muE (.lc false vs elt p it cs)) (ev G (.lc false vs elt p it cs))) (gName i)) := by
  have bo : BlkOk X.N X.env.scope scope (ownOf C vs) := by rw [ok.N, ok.sc]; exact blkOk_by hb
  have hN : X.N.Nodup := by rw [ok.N]; exact ok.nd
  have pi := lcW_pi hi hn
  refine ⟨?_, fun i y py spos hy hyl hsw => ?_⟩
  · have rule := pe_lc (X := X) (pos := pos) (g := Gb (wd X) p.slots (bindP p)) (tt := Bx (wd X) (muEs cs) (evCs G cs)) (te := Tx (wd X) (muT elt) (tRun G elt)) ok.calm hN pi bo (fun s H Cd cl fp => hg (X.blk s H scope (compEnvC scope cl Cd X.env) fp) rfl (ok.blk s H scope Cd cl fp)) (fun s H Cd cl fp => ht (X.blk s H scope (compEnvC scope cl Cd X.env) fp) rfl (ok.blk s H scope Cd cl fp)) (fun s H Cd cl fp => he (X.blk s H scope (compEnvC scope cl Cd X.env) fp) rfl (ok.blk s H scope Cd cl fp)) (fold_no hs)
    rw [ownOf_ix] at rule
    exact PE.of rule fun σ H Q h => lc_w h
  · have rule := ps_setLc (X := X) (pos := pos) (g := Gb (wd X) p.slots (bindP p)) (tt := Bx (wd X) (muEs cs) (evCs G cs)) (te := Tx (wd X) (muT elt) (tRun G elt)) ok.calm hN (by rw [ok.N]; exact hy) (by rw [ok.sc]; exact hyl) hsw pi bo (fun s H Cd cl fp => hg (X.blk s H scope (compEnvC scope cl Cd X.env) fp) rfl (ok.blk s H scope Cd cl fp)) (fun s H Cd cl fp => ht (X.blk s H scope (compEnvC scope cl Cd X.env) fp) rfl (ok.blk s H scope Cd cl fp)) (fun s H Cd cl fp => he (X.blk s H scope (compEnvC scope cl Cd X.env) fp) rfl (ok.blk s H scope Cd cl fp)) (fold_no hs)
    rw [ownOf_ix] at rule
    exact PS.of rule fun D σ H h => lc_w h
end
end TR
set_option Elab.async false
set_option linter.all false
set_option maxHeartbeats 4000000
namespace TR
open PySem PySem.Spec PyProof.Rows L2 StX
section
variable {G : List Fn} {C : Ctx} {X : Cx} {B : Wd} {Z Z' Z0 Z1 Z2 : Zn} {H H' H0 H1 H2 : Hp} {σ σ' : L2.St} {env env' env0 env1 en : Env} {Os Os' Os0 Os1 : List (List Addr)} {mu mub vs : List Nat} {v : V} {m : M} {d : D} {Dl : Addr}
theorem RN.append : ∀ {vs : List V} {dss : List (List D)} {O : List Addr} {a : Addr} {xs : List V} {ds : List D}, RN B Z H vs dss O → H a = some (.lst xs) → RpL B Z H xs ds → RN B Z H (vs ++ [.ref a]) (dss ++ [ds]) (O ++ [a])
  | _, _, _, _, _, _, .nil, h, r => .cons h r .nil
  | _, _, _, _, _, _, .cons h0 r0 t, h, r => .cons h0 r0 (RN.append t h r)
/-- one turn: a new list -/
def nlF (G : List Fn) (vs : List Nat) (elt : E) (p : P) : D → Env → R (List D × Env) := fun x en => do
  let e2 ← bindP p x (wipeE en vs)
  let r ← ev G elt e2
  ownR r
theorem nlF_at {vs : List Nat} {elt : E} {p : P} {x : D} {en e' : Env} {zs : List D} (h : nlF G vs elt p x en = .ok (zs, e')) : ∃ e2, bindP p x (wipeE en vs) = .ok e2 ∧ ev G elt e2 = .ok (.li zs, [], e') := by
  obtain ⟨e2, h1, h⟩ := R.bind_ok h
  obtain ⟨r, h2, h⟩ := R.bind_ok h
  unfold ownR at h
  split at h
  · cases h; exact ⟨e2, h1, h2⟩
  · cases h
theorem wipe_same {vs : List Nat} {σ2 σ : L2.St} {p : List Nat} (f2 : ∀ i, i ∉ p → σ2[i]? = (wipe σ vs)[i]?) (l2 : σ2.length = (wipe σ vs).length) (sub : ∀ i ∈ p, i ∈ vs) : wipe σ2 vs = wipe σ vs := by
  apply List.ext_getElem?
  intro j
  rw [wipe_get, wipe_get]
  by_cases hj : j ∈ vs
  · rw [if_pos hj, if_pos hj]
    rw [wipe_length] at l2
    by_cases hb : j < σ.length
    · rw [List.getElem?_eq_getElem hb, List.getElem?_eq_getElem (by omega)]; rfl
    · rw [List.getElem?_eq_none (by omega), List.getElem?_eq_none (by omega)]
  · rw [if_neg hj, if_neg hj, f2 j fun h => hj (sub j h), wipe_get, if_neg hj]
theorem nl_loop {vs : List Nat} {elt : E} {p : P} {rs : List Nat} {J : It} {xs : List D} {ys : List (List D)} {e1 e2 : Env} {te : TE} {g : TG} {σ : L2.St} {Q : V → Hp → Prop}
    (q1 : Sat B Z1 σ H1 e1 Os1) (dn : den e1 vs = true) (sp : subs p.slots vs = true) (it : ItOk B Z1 H1 Os1 rs J xs) (ap : apart rs (muE elt ++ vs) = true) (hrun : nlLoop (nlF G vs elt p) xs e1 = .ok (ys, e2)) (hlen : ys.length ≤ big)
    (hg : ∀ v σ H Q, Gb B p.slots (bindP p) v σ H Q → g v σ H Q) (he : ∀ σ H Q, Rx B (muE elt) (ev G elt) σ H Q → te σ H Q) (hD : H1 Dl = none)
    (fin : ∀ Z Os H ws O, Sat B Z (wipe σ vs) H (wipeE e2 vs) Os → Step (muE elt) Z1 H1 (wipeE e1 vs) Os1 Z H (wipeE e2 vs) Os → H Dl = some (.lst ws) → RN B Z H ws ys O → (Dl :: O ++ Os.flatten).Nodup → (∀ a ∈ Dl :: O, ¬ Z a ∧ (H1 a = none ∨ a ∈ Os1.flatten)) → Q (.ref Dl) H) :
    ∃ W : Nat → Nat → Hp → Prop, (∃ m, W 0 m (L2.upd H1 Dl (.lst []))) ∧ ∀ i m H, W i m H →
      (J.stop i H ∧ Q (.ref Dl) H) ∨ (J.go i H ∧ ∃ Nx : Hp → Prop, (∀ H', Nx H' → ∃ m', m' < m ∧ W (i + 1) m' H') ∧ ∀ x H', J.yld i H x H' → g x (wipe σ vs) H' fun σ2 H2 => wipe σ2 vs = wipe σ vs ∧ tYes σ2 H2 fun b H3 =>
        if b = true then te σ2 H3 fun y H4 => ∃ acc, H4 Dl = some (.lst acc) ∧ acc.length < sizeLine ∧ Nx (L2.upd H4 Dl (.lst (acc ++ [y]))) else Nx H3) := by
  obtain ⟨Gd, Y, w, hG, hY⟩ := it
  have q1w := q1.wiped (vs := vs) rfl
  rw [wipeO_same fun i hi => (den_at dn q1 hi).1] at q1w
  have sub : ∀ i ∈ p.slots, i ∈ vs := fun i hi => by simpa using List.all_eq_true.mp sp i hi
  have later : ∀ {Z H en Os}, Step (muE elt) Z1 H1 (wipeE e1 vs) Os1 Z H (wipeE en vs) Os → Later rs Os1 Z1 H1 Z H := fun {Z H en Os} s => by
    refine ⟨s.zz, s.stay q1w, fun i hi O hO a ha => ?_⟩
    have := List.all_eq_true.mp ap i hi
    simp only [List.contains_eq_mem, List.mem_append, Bool.not_eq_true', decide_eq_false_iff_not, not_or] at this
    exact (s.slot i this.1).2.2 O hO a ha
  refine lc_it w (fun i H => ∃ Z en Os ws done rest O, Sat B Z (wipe σ vs) H (wipeE en vs) Os ∧ Step (muE elt) Z1 H1 (wipeE e1 vs) Os1 Z H (wipeE en vs) Os ∧ H Dl = some (.lst ws) ∧ RN B Z H ws done O ∧
      (Dl :: O ++ Os.flatten).Nodup ∧ (∀ a ∈ Dl :: O, ¬ Z a ∧ (H1 a = none ∨ a ∈ Os1.flatten)) ∧ nlLoop (nlF G vs elt p) (xs.drop i) en = .ok (rest, e2) ∧ ys = done ++ rest) ?_ ?_ ?_ ?_
  · have g0 : Grow H1 (L2.upd H1 Dl (.lst [])) := Grow.upd hD
    refine ⟨Z1, e1, Os1, [], [], ys, [], q1w.grow g0, (Step.refl (mu := muE elt)).grow g0 q1w, upd_same, .nil, ?_, fun a ha => ?_, by simpa using hrun, rfl⟩
    · simp only [List.cons_append, List.nil_append, List.nodup_cons]
      exact ⟨fun h => q1.there h hD, q1.nd⟩
    · simp at ha; subst ha
      exact ⟨fun z => q1.zh _ z hD, .inl hD⟩
  · rintro i H hi ⟨Z, en, Os, ws, done, rest, O, q, s, _⟩
    exact hG Z H (later s)
  · rintro i x H H' hi ⟨Z, en, Os, ws, done, rest, O, q, s, hDl, rw', n1, n2, hr, e⟩ hy
    have hx : xs[i]? = some xs[i] := List.getElem?_eq_getElem hi
    obtain ⟨g1, rx⟩ := hY Z H i x H' xs[i] (later s) hx hy
    rw [List.drop_eq_getElem_cons hi] at hr
    obtain ⟨⟨zs, en'⟩, h1, h2⟩ := R.bind_ok hr
    obtain ⟨⟨rest', e'⟩, h3, h4⟩ := R.bind_ok h2
    cases h4
    obtain ⟨b2, h5, h6⟩ := nlF_at h1
    have qg := q.grow g1
    have sg := s.grow g1 q
    refine hg x _ _ _ ⟨Z, _, Os, _, b2, qg, rx, h5, fun σ2 H2 ⟨eh, Os2, q2, s2, f2, l2⟩ => ?_⟩
    have hw : wipe σ2 vs = wipe σ vs := wipe_same f2 l2 sub
    cases eh
    refine ⟨hw, ?_⟩
    unfold tYes
    dsimp only
    rw [if_pos rfl]
    refine he _ _ _ (Rx.go q2 h6 fun y H4 ⟨Z4, Os4, O4, q4, s4, r4, ro4⟩ => ?_)
    have s24 : Step (vs ++ muE elt) Z H' (wipeE en vs) Os Z4 H4 en' Os4 := s2.trans s4 (fun i hi => ml _ (sub i hi)) (fun i hi => mr _ hi)
    have s5 : Step (muE elt) Z1 H1 (wipeE e1 vs) Os1 Z4 H4 (wipeE en' vs) (wipeO Os4 vs) := sg.trans (s24.wiped qg q4.len1) (fun i hi => hi) fun i hi => hi
    cases r4 with | li hA rA =>
    rename_i a as _
    obtain ⟨nn, nz4⟩ := ro4.1 rfl
    have na := nz4 a (by simp)
    have hDl' : H' Dl = some (.lst ws) := g1 _ _ hDl
    -- what was one's own here stands
    have own' : ∀ b ∈ Dl :: O, ∃ u, H' b = some u := fun b hb => by
      rcases List.mem_cons.mp hb with z | z
      · subst z; exact ⟨_, hDl'⟩
      · obtain ⟨u, hu⟩ := rw'.there b z
        exact ⟨u, g1 _ _ hu⟩
    have off : ∀ b ∈ Dl :: O, b ∉ Os.flatten := fun b hb h => (List.nodup_append.mp n1).2.2 b hb b h rfl
    have off2 : ∀ b ∈ Dl :: O, b ∉ Os2.flatten := fun b hb h => by
      rcases s2.on b h with k | k
      · obtain ⟨u, hu⟩ := own' b hb; rw [hu] at k; cases k
      · exact off b hb k
    have off4 : ∀ b ∈ Dl :: O, b ∉ Os4.flatten := fun b hb h => by
      rcases s24.on b h with k | k
      · obtain ⟨u, hu⟩ := own' b hb; rw [hu] at k; cases k
      · exact off b hb k
    have zo4 : ∀ b ∈ Dl :: O, ¬ Z4 b := fun b hb z => by
      rcases s24.zn b z with k | k | k
      · exact (n2 b hb).1 k
      · obtain ⟨u, hu⟩ := own' b hb; rw [hu] at k; cases k
      · exact off b hb k
    have kp : ∀ b ∈ Dl :: O, ∀ u, H' b = some u → H4 b = some u := fun b hb u hu => s24.keep b u hu (off b hb)
    have hD4 : H4 Dl = some (.lst ws) := kp Dl List.mem_cons_self _ hDl'
    have na2 : a ∉ Dl :: O := fun hb => by
      rcases na.2 with k | k
      · obtain ⟨u, hu⟩ := own' a hb; rw [hu] at k; cases k
      · exact off2 a hb k
    have na1 : H1 a = none ∨ a ∈ Os1.flatten := by
      have hs := s24.on
      rcases na.2 with k | k
      · exact .inl (sg.dom a k)
      · rcases s2.on a k with k2 | k2
        · exact .inl (sg.dom a k2)
        · exact sg.on a k2
    have r1 : RN B Z4 H4 ws done O := (rw'.stay g1.stay (fun _ z => z) fun b u _ h => g1 b u h).stay (s24.stay qg) s24.zz fun b u hb h => kp b (List.mem_cons_of_mem _ hb) u h
    have t4 : ∀ ts, H4 Dl ≠ some (.tup ts) := fun ts h => by rw [hD4] at h; cases h
    have f4 : ∀ o u, H4 Dl ≠ some (.frz o u) := fun o u h => by rw [hD4] at h; cases h
    have st := side_stay (o := .lst (ws ++ [.ref a])) (zo4 Dl List.mem_cons_self) t4 f4
    have ne : ∀ b ∈ O ++ [a], b ≠ Dl := fun b hb e => by
      subst e
      rcases List.mem_append.mp hb with z | z
      · have := (List.nodup_cons.mp (List.nodup_append.mp n1).1).1
        exact this z
      · simp at z; subst z; exact na2 List.mem_cons_self
    have hlw : ws.length < sizeLine := by
      rw [← big_eq]
      have := rw'.length
      have h9 : ys.length = done.length + (rest'.length + 1) := by rw [e, List.length_append]; rfl
      omega
    refine ⟨ws, hD4, hlw, Z4, en', wipeO Os4 vs, ws ++ [.ref a], done ++ [zs], rest', O ++ [a], (q4.wiped hw).side (fun h => off4 Dl List.mem_cons_self (flat_wipeO h)) (zo4 Dl List.mem_cons_self) t4 f4, s5.side hD q1w, upd_same,
      (r1.append hA rA).stay st (fun _ z => z) (fun b u hb h => by rw [upd_ne (ne b hb)]; exact h), ?_, fun b hb => ?_, h3, by rw [e, List.append_assoc]; rfl⟩
    · obtain ⟨k1, k2, k3⟩ := List.nodup_append.mp n1
      refine List.nodup_append.mpr ⟨?_, (q4.wiped hw).nd, fun b hb c hc e => ?_⟩
      · rw [← List.cons_append]
        exact List.nodup_append.mpr ⟨k1, by simp, fun b hb c hc e => by simp at hc; subst hc; subst e; exact na2 hb⟩
      · subst e
        have hc' := flat_wipeO hc
        rw [← List.cons_append] at hb
        rcases List.mem_append.mp hb with z | z
        · exact off4 b z hc'
        · simp at z; subst z
          exact (List.nodup_append.mp nn).2.2 b (by simp) b hc' rfl
    · rw [← List.cons_append] at hb
      rcases List.mem_append.mp hb with z | z
      · exact ⟨zo4 b z, (n2 b z).2⟩
      · simp at z; subst z
        exact ⟨na.1, na1⟩
  · rintro H ⟨Z, en, Os, ws, done, rest, O, q, s, hDl, rw', n1, n2, hr, e⟩
    rw [List.drop_of_length_le (Nat.le_refl _)] at hr
    cases hr
    rw [List.append_nil] at e
    subst e
    exact fin Z Os H ws O q s hDl rw' n1 n2
theorem lcO_w {vs : List Nat} {elt it : E} {p : P} {Q : VK} (h : Rx B (muE (.lc true vs elt p it [])) (ev G (.lc true vs elt p it [])) σ H Q) :
    tLc (Ix B (muE it) (iRun G it)) (Gb B p.slots (bindP p)) tYes (Rx B (muE elt) (ev G elt)) vs σ H Q := by
  obtain ⟨Z, env, Os, q, m, rs, env', h1, h2⟩ := h
  simp only [muE, muEs, List.append_nil] at h2
  rw [ev] at h1
  obtain ⟨⟨mm, r1, e1⟩, h3, h⟩ := R.bind_ok h1
  dsimp only at h
  obtain ⟨hc, h⟩ := R.of_if h
  simp only [Bool.and_eq_true] at hc
  rw [if_pos rfl] at h
  obtain ⟨xs, h4, h⟩ := R.bind_ok h
  obtain ⟨ap, h⟩ := R.of_if h
  obtain ⟨⟨ys, e2⟩, h5, h⟩ := R.bind_ok h
  obtain ⟨hc2, h⟩ := R.of_if h
  cases h
  have hlen : ys.length ≤ big := by simpa using hc2
  refine ⟨Z, env, Os, q, r1, xs, e1, ?_, fun J H1 ⟨Z1, Os1, q1, s1, hit⟩ D hD => ?_⟩
  · unfold iRun
    rw [h3]
    show (itR mm >>= _) = _
    rw [h4]
    rfl
  · refine nl_loop q1 hc.1 hc.2 hit ap h5 hlen (fun v σ H Q h => h) (fun σ H Q h => h) hD fun Z2 Os2 H2 ws O q2 s2 hDl rn n1 n2 => ?_
    obtain ⟨q3, s3⟩ := Sat.back q1 hc.1 q2 s2
    have s4 : Step (muE it ++ ((muT elt).filter fun i => !vs.contains i)) Z H env Os Z2 H2 (backE e2 e1 vs) Os2 := s1.trans s3 ml fun i hi => mr i (by
      obtain ⟨k1, k2⟩ := List.mem_filter.mp hi
      exact List.mem_filter.mpr ⟨(muT_of elt).1 i k1, k2⟩)
    refine h2 _ _ ⟨Z2, Os2, D :: O, q3, s4, .nl hDl rn, fun _ => ⟨n1, fun a ha => ⟨(n2 a ha).1, ?_⟩⟩, fun h => (h rfl).elim, (List.nodup_append.mp n1).1⟩
    rcases (n2 a ha).2 with k | k
    · exact .inl (s1.dom a k)
    · exact s1.on a k
/-- [elt for p in it], each item a new list -/
theorem k_lcO (ok : XOk G C X) {vs : List Nat} {elt it : E} {p : P} {xelt xi tg : Expr} {scope : Scope} {pos : Pos}
    (hi : PI X tg xi (Ix (wd X) (muE it) (iRun G it))) (hb : blkC C.N C.sc scope (ownOf C vs) = true) (hs : noSet xi = true)
    (hg : ∀ Y : Cx, wd Y = wd X → XOk G (C.blk scope) Y → PG Y tg (Gb (wd Y) p.slots (bindP p)))
    (he : ∀ Y : Cx, wd Y = wd X → XOk G (C.blk scope) Y → PE Y xelt (Rx (wd Y) (muE elt) (ev G elt))) :
    PE X (.ListComp xelt [⟨tg, xi, [], 0⟩] scope pos) (Rx (wd X) (muE (.lc true vs elt p it [])) (ev G (.lc true vs elt p it []))) ∧
    ∀ (i : Nat) (y : Str) (py spos : Pos), C.N[i]? = some y → C.sc.names.lookup y = some .local → swapsWith (.ListComp xelt [⟨tg, xi, [], 0⟩] scope pos) (some (.Name y py)) spos.line X.env = pure true →
      PS X (.Assign [.Name y py] (.ListComp xelt [⟨tg, xi, [], 0⟩] scope pos) spos) (tAsg (Rx (wd X) (muE (.lc true vs elt p it [])) (ev G (.lc true vs elt p it []))) (gName i)) := by
  have bo : BlkOk X.N X.env.scope scope (ownOf C vs) := by rw [ok.N, ok.sc]; exact blkOk_by hb
  have hN : X.N.Nodup := by rw [ok.N]; exact ok.nd
  refine ⟨?_, fun i y py spos hy hyl hsw => ?_⟩
  · have rule := pe_lc (X := X) (pos := pos) (g := Gb (wd X) p.slots (bindP p)) (tt := tYes) (te := Rx (wd X) (muE elt) (ev G elt)) ok.calm hN hi bo (fun s H Cd cl fp => hg (X.blk s H scope (compEnvC scope cl Cd X.env) fp) rfl (ok.blk s H scope Cd cl fp)) (fun s H Cd cl fp => pts_nil) (fun s H Cd cl fp => he (X.blk s H scope (compEnvC scope cl Cd X.env) fp) rfl (ok.blk s H scope Cd cl fp)) (fold_no hs)
    rw [ownOf_ix] at rule
    exact PE.of rule fun σ H Q h => lcO_w h
  · have rule := ps_setLc (X := X) (pos := pos) (g := Gb (wd X) p.slots (bindP p)) (tt := tYes) (te := Rx (wd X) (muE elt) (ev G elt)) ok.calm hN (by rw [ok.N]; exact hy) (by rw [ok.sc]; exact hyl) hsw hi bo (fun s H Cd cl fp => hg (X.blk s H scope (compEnvC scope cl Cd X.env) fp) rfl (ok.blk s H scope Cd cl fp)) (fun s H Cd cl fp => pts_nil) (fun s H Cd cl fp => he (X.blk s H scope (compEnvC scope cl Cd X.env) fp) rfl (ok.blk s H scope Cd cl fp)) (fold_no hs)
    rw [ownOf_ix] at rule
    exact PS.of rule fun D σ H h => lcO_w h
end
end TR
set_option Elab.async false
set_option linter.all false
set_option maxHeartbeats 4000000
/-! comprehensions of two clauses -/
namespace TR
open PySem PySem.Spec PyProof.Rows L2 StX
/-- the heap without the tracked list -/
def hid (Dl : Addr) (H : Hp) : Hp := fun a => if a = Dl then none else H a
section
variable {J : It} {n : Nat} {Gd : Hp → Prop} {Y : Nat → Hp → V → Hp → Prop}
theorem it_gen (w : Walk J n Gd Y) {H0 : Hp} {Qd : Hp → Prop} (body : V → Hp → (Hp → Prop) → Prop) (Pv : Nat → Hp → Prop) (h0 : Pv 0 H0) (hG : ∀ i H, i ≤ n → Pv i H → Gd H)
    (hs : ∀ i x H H', i < n → Pv i H → Y i H x H' → body x H' (Pv (i + 1))) (hd : ∀ H, Pv n H → Qd H) :
    ∃ W : Nat → Nat → Hp → Prop, (∃ m, W 0 m H0) ∧ ∀ i m H, W i m H →
      (J.stop i H ∧ Qd H) ∨ (J.go i H ∧ ∃ Nx : Hp → Prop, (∀ H', Nx H' → ∃ m', m' < m ∧ W (i + 1) m' H') ∧ ∀ x H', J.yld i H x H' → body x H' Nx) := by
  refine ⟨fun i m H => m = n - i ∧ i ≤ n ∧ Pv i H, ⟨n, by simp, Nat.zero_le _, h0⟩, ?_⟩
  rintro i m H ⟨rfl, hi, p⟩
  have q := hG i H hi p
  by_cases hlt : i < n
  · refine .inr ⟨w.goes i H hlt q, Pv (i + 1), fun H' p' => ⟨n - (i + 1), by omega, rfl, hlt, p'⟩, fun x H' y => hs i x H H' hlt p (w.yields i H x H' hlt q y)⟩
  · have e : i = n := by omega
    subst e
    exact .inl ⟨w.stops H q, hd H p⟩
end
section
variable {G : List Fn} {C : Ctx} {X : Cx} {B : Wd} {Z Z' Z0 Z1 Z2 : Zn} {H H' H0 H1 H2 : Hp} {σ σ' : L2.St} {env env' env0 env1 en : Env} {Os Os' Os0 Os1 : List (List Addr)} {mu mub vs : List Nat} {v : V} {m : M} {d : D} {Dl : Addr}
theorem hide_ne {a : Addr} (h : a ≠ Dl) : hid Dl H a = H a := if_neg h
theorem hide_self : hid Dl H Dl = none := if_pos rfl
theorem hide_some {a : Addr} {u : HO} (h : hid Dl H a = some u) : a ≠ Dl ∧ H a = some u := by
  unfold hid at h
  split at h
  · cases h
  · exact ⟨by assumption, h⟩
theorem hide_none {a : Addr} (h : H a = none) : hid Dl H a = none := by
  unfold hid
  split
  · rfl
  · exact h
theorem hide_off (h : H Dl = none) : hid Dl H = H := funext fun a => by
  unfold hid
  split
  · rename_i e; rw [e, h]
  · rfl
theorem hide_upd {o : HO} : hid Dl (L2.upd H Dl o) = hid Dl H := funext fun a => by
  unfold hid
  split
  · rfl
  · rename_i h; exact upd_ne h
theorem Grow.hide (g : Grow H H') : Grow (hid Dl H) (hid Dl H') := fun a u e => by
  obtain ⟨h1, h2⟩ := hide_some e
  rw [hide_ne h1]; exact g a u h2
theorem Step.hide (s : Step mu Z H env Os Z' H' env' Os') : Step mu Z (hid Dl H) env Os Z' (hid Dl H') env' Os' := by
  refine ⟨s.elen, s.zz, fun a z => ?_, fun a h => ?_, fun a u e hn => ?_, fun a e => ?_, fun i hi => ?_⟩
  · rcases s.zn a z with k | k | k
    · exact .inl k
    · exact .inr (.inl (hide_none k))
    · exact .inr (.inr k)
  · rcases s.on a h with k | k
    · exact .inl (hide_none k)
    · exact .inr k
  · obtain ⟨h1, h2⟩ := hide_some e
    rw [hide_ne h1]; exact s.keep a u h2 hn
  · by_cases h : a = Dl
    · rw [h]; exact hide_self
    · rw [hide_ne h] at e ⊢; exact s.dom a e
  · obtain ⟨h1, h2, h3⟩ := s.slot i hi
    refine ⟨h1, h2, fun O hO a ha => ?_⟩
    by_cases h : a = Dl
    · rw [h, hide_self, hide_self]
    · rw [hide_ne h, hide_ne h]; exact h3 O hO a ha
theorem Sat.hide (q : Sat B Z σ H env Os) (h1 : Dl ∉ Os.flatten) (h2 : ¬ Z Dl) (h3 : ∀ ys, H Dl ≠ some (.tup ys)) (h4 : ∀ o u, H Dl ≠ some (.frz o u)) : Sat B Z σ (hid Dl H) env Os := by
  have k : ∀ a u, a ≠ Dl → H a = some u → hid Dl H a = some u := fun a u hn e => by rw [hide_ne hn]; exact e
  have st : Stay Z H (hid Dl H) := ⟨fun a u z e => k a u (fun h => h2 (h ▸ z)) e, fun a ys e => k a _ (fun h => h3 ys (h ▸ e)) e, fun a ob u e => k a _ (fun h => h4 ob u (h ▸ e)) e⟩
  refine ⟨q.len1, q.len2, fun i m e => ?_, q.emp, q.nd, q.nz, fun a z => ?_⟩
  · obtain ⟨v, O, k1, k2, r⟩ := q.val i m e
    exact ⟨v, O, k1, k2, r.stay st (fun _ z => z) fun a u ha e => k a u (fun h => h1 (h ▸ mem_flat.mpr ⟨i, O, k2, ha⟩)) e⟩
  · by_cases h : a = Dl
    · subst h; exact absurd z h2
    · rw [hide_ne h]; exact q.zh a z
theorem stay_show (st : Stay Z (hid Dl H) (hid Dl H')) (h2 : ¬ Z Dl) (h3 : ∀ ys, H Dl ≠ some (.tup ys)) (h4 : ∀ o u, H Dl ≠ some (.frz o u)) : Stay Z H H' :=
  ⟨fun a u z e => (hide_some (st.z a u z ((hide_ne (Dl := Dl) fun h => h2 (h ▸ z)).trans e))).2, fun a ys e => (hide_some (st.t a ys ((hide_ne (Dl := Dl) fun h => h3 ys (h ▸ e)).trans e))).2, fun a o u e => (hide_some (st.f a o u ((hide_ne (Dl := Dl) fun h => h4 o u (h ▸ e)).trans e))).2⟩
theorem Step.show (s : Step mu Z0 (hid Dl H0) env0 Os0 Z (hid Dl H) env Os) (h0 : H0 Dl = none) (q0 : Sat B Z0 σ H0 env0 Os0) : Step mu Z0 H0 env0 Os0 Z H env Os := by
  rw [hide_off h0] at s
  refine ⟨s.elen, s.zz, s.zn, s.on, fun a u e hn => (hide_some (s.keep a u e hn)).2, fun a e => s.dom a (hide_none e), fun i hi => ?_⟩
  obtain ⟨h1, h2, h3⟩ := s.slot i hi
  refine ⟨h1, h2, fun O hO a ha => ?_⟩
  have : a ≠ Dl := fun h => q0.there (mem_flat.mpr ⟨i, O, hO, ha⟩) (h ▸ h0)
  rw [← h3 O hO a ha, hide_ne this]
theorem Step.wipe (vs : List Nat) : Step vs Z H env Os Z H (wipeE env vs) (wipeO Os vs) := by
  refine ⟨wipeE_length, fun _ z => z, fun _ z => .inl z, fun a h => .inr (flat_wipeO h), fun _ _ e _ => e, fun _ e => e, fun i hi => ⟨?_, ?_, fun _ _ _ _ => rfl⟩⟩
  · rw [wipeE_get, if_neg hi]
  · rw [wipeO_get, if_neg hi]
theorem wipeE_two {vs1 : List Nat} (h : ∀ i ∈ vs1, i ∈ vs) : wipeE (wipeE env vs1) vs = wipeE env vs := by
  apply List.ext_getElem?
  intro i
  rw [wipeE_get, wipeE_get, wipeE_get]
  by_cases h1 : i ∈ vs
  · rw [if_pos h1, if_pos h1]
    by_cases h2 : i ∈ vs1
    · rw [if_pos h2]; cases env[i]? <;> rfl
    · rw [if_neg h2]
  · rw [if_neg h1, if_neg h1, if_neg fun h2 => h1 (h i h2)]
theorem wipe_two {vs1 : List Nat} (h : ∀ i ∈ vs1, i ∈ vs) : wipe (wipe σ vs1) vs = wipe σ vs := by
  apply List.ext_getElem?
  intro i
  rw [wipe_get, wipe_get, wipe_get]
  by_cases h1 : i ∈ vs
  · rw [if_pos h1, if_pos h1]
    by_cases h2 : i ∈ vs1
    · rw [if_pos h2]; cases σ[i]? <;> rfl
    · rw [if_neg h2]
  · rw [if_neg h1, if_neg h1, if_neg fun h2 => h1 (h i h2)]
theorem sub_at {a b : List Nat} (h : subs a b = true) : ∀ i ∈ a, i ∈ b := fun i hi => by simpa using List.all_eq_true.mp h i hi
/-- the loop that adds to a list begun before -/
theorem lc_loopA {vs : List Nat} {elt : E} {p : P} {cs : List E} {rs : List Nat} {J : It} {xs ys done0 : List D} {ws0 : List V} {e1 e2 : Env} {tt : TT} {te : TE} {g : TG} {σ : L2.St} {Qd : Hp → Prop}
    (q1 : Sat B Z1 σ H1 e1 Os1) (dn : den e1 vs = true) (sp : subs p.slots vs = true) (it : ItOk B Z1 H1 Os1 rs J xs) (ap : apart rs (muT elt ++ muEs cs ++ vs) = true) (hrun : lcLoop (lcF G vs elt p cs) xs e1 = .ok (ys, e2)) (hlen : done0.length + ys.length ≤ big)
    (hg : ∀ v σ H Q, Gb B p.slots (bindP p) v σ H Q → g v σ H Q) (ht : ∀ σ H Q, Bx B (muEs cs) (evCs G cs) σ H Q → tt σ H Q) (he : ∀ σ H Q, Tx B (muT elt) (tRun G elt) σ H Q → te σ H Q)
    (hD : H1 Dl = some (.lst ws0)) (r0 : RpL B Z1 H1 ws0 done0) (n01 : Dl ∉ Os1.flatten) (n02 : ¬ Z1 Dl)
    (fin : ∀ Z Os H ws, Sat B Z (wipe σ vs) H (wipeE e2 vs) Os → Step (muT elt ++ muEs cs) Z1 (hid Dl H1) (wipeE e1 vs) Os1 Z (hid Dl H) (wipeE e2 vs) Os → H Dl = some (.lst ws) → RpL B Z H ws (done0 ++ ys) → Dl ∉ Os.flatten → ¬ Z Dl → Qd H) :
    ∃ W : Nat → Nat → Hp → Prop, (∃ m, W 0 m H1) ∧ ∀ i m H, W i m H →
      (J.stop i H ∧ Qd H) ∨ (J.go i H ∧ ∃ Nx : Hp → Prop, (∀ H', Nx H' → ∃ m', m' < m ∧ W (i + 1) m' H') ∧ ∀ x H', J.yld i H x H' → g x (wipe σ vs) H' fun σ2 H2 => wipe σ2 vs = wipe σ vs ∧ tt σ2 H2 fun b H3 =>
        if b = true then te σ2 H3 fun y H4 => ∃ acc, H4 Dl = some (.lst acc) ∧ acc.length < sizeLine ∧ Nx (L2.upd H4 Dl (.lst (acc ++ [y]))) else Nx H3) := by
  obtain ⟨Gd, Y, w, hG, hY⟩ := it
  have q1w := q1.wiped (vs := vs) rfl
  rw [wipeO_same fun i hi => (den_at dn q1 hi).1] at q1w
  have sub := sub_at sp
  have t1 : ∀ zs, H1 Dl ≠ some (.tup zs) := fun zs h => by rw [hD] at h; cases h
  have f1 : ∀ o u, H1 Dl ≠ some (.frz o u) := fun o u h => by rw [hD] at h; cases h
  have q1h := q1w.hide n01 n02 t1 f1
  have later : ∀ {Z H en Os}, Step (muT elt ++ muEs cs) Z1 (hid Dl H1) (wipeE e1 vs) Os1 Z (hid Dl H) (wipeE en vs) Os → Later rs Os1 Z1 H1 Z H := fun {Z H en Os} s => by
    refine ⟨s.zz, stay_show (s.stay q1h) n02 t1 f1, fun i hi O hO a ha => ?_⟩
    have := List.all_eq_true.mp ap i hi
    simp only [List.contains_eq_mem, List.mem_append, Bool.not_eq_true', decide_eq_false_iff_not, not_or] at this
    have hne : a ≠ Dl := fun h => n01 (h ▸ mem_flat.mpr ⟨i, O, hO, ha⟩)
    have := (s.slot i (by simp only [List.mem_append, not_or]; exact this.1)).2.2 O hO a ha
    rw [hide_ne hne, hide_ne hne] at this
    exact this
  refine it_gen w (fun x H' Nx => g x (wipe σ vs) H' fun σ2 H2 => wipe σ2 vs = wipe σ vs ∧ tt σ2 H2 fun b H3 =>
        if b = true then te σ2 H3 fun y H4 => ∃ acc, H4 Dl = some (.lst acc) ∧ acc.length < sizeLine ∧ Nx (L2.upd H4 Dl (.lst (acc ++ [y]))) else Nx H3) (fun i H => ∃ Z en Os ws done rest, Sat B Z (wipe σ vs) H (wipeE en vs) Os ∧ Step (muT elt ++ muEs cs) Z1 (hid Dl H1) (wipeE e1 vs) Os1 Z (hid Dl H) (wipeE en vs) Os ∧ H Dl = some (.lst ws) ∧ RpL B Z H ws (done0 ++ done) ∧
      Dl ∉ Os.flatten ∧ ¬ Z Dl ∧ lcLoop (lcF G vs elt p cs) (xs.drop i) en = .ok (rest, e2) ∧ ys = done ++ rest) ?_ ?_ ?_ ?_
  · exact ⟨Z1, e1, Os1, ws0, [], ys, q1w, Step.refl, hD, by rw [List.append_nil]; exact r0, n01, n02, by simpa using hrun, rfl⟩
  · rintro i H hi ⟨Z, en, Os, ws, done, rest, q, s, _⟩
    exact hG Z H (later s)
  · rintro i x H H' hi ⟨Z, en, Os, ws, done, rest, q, s, hDl, rw', n1, n2, hr, e⟩ hy
    have hx : xs[i]? = some xs[i] := List.getElem?_eq_getElem hi
    obtain ⟨g1, rx⟩ := hY Z H i x H' xs[i] (later s) hx hy
    rw [List.drop_eq_getElem_cons hi] at hr
    obtain ⟨⟨o, en'⟩, h1, h2⟩ := R.bind_ok hr
    obtain ⟨⟨rest', e'⟩, h3, h4⟩ := R.bind_ok h2
    have he' : e' = e2 ∧ rest = (match o with | some y => y :: rest' | none => rest') := by
      cases o <;> (cases h4; exact ⟨rfl, rfl⟩)
    obtain ⟨rfl, hrest⟩ := he'
    obtain ⟨b2, b, b3, h5, h6, h7⟩ := lcF_at h1
    have qg := q.grow g1
    have hDl' : H' Dl = some (.lst ws) := g1 _ _ hDl
    have qgh := qg.hide n1 n2 (fun zs h => by rw [hDl'] at h; cases h) (fun o u h => by rw [hDl'] at h; cases h)
    have sg : Step (muT elt ++ muEs cs) Z1 (hid Dl H1) (wipeE e1 vs) Os1 Z (hid Dl H') (wipeE en vs) Os := s.trans ((Step.refl (mu := muT elt ++ muEs cs)).grow g1 q).hide (fun i hi => hi) fun i hi => hi
    refine hg x _ _ _ ⟨Z, _, Os, _, b2, qg, rx, h5, fun σ2 H2 ⟨eh, Os2, q2, s2, f2, l2⟩ => ?_⟩
    have hw : wipe σ2 vs = wipe σ vs := wipe_same f2 l2 sub
    cases eh
    refine ⟨hw, ht _ _ _ ⟨Z, b2, Os2, q2, b, b3, h6, fun H3 ⟨Z3, Os3, q3, s3⟩ => ?_⟩⟩
    have out2 := out_of s2 qg (.inr ⟨ws, hDl'⟩) n1 n2
    have out3 := out_of s3 q2 (.inr ⟨ws, hDl'⟩) out2.2.1 out2.2.2
    have s23 : Step (vs ++ (muT elt ++ muEs cs)) Z H' (wipeE en vs) Os Z3 H3 b3 Os3 := s2.trans s3 (fun i hi => ml _ (sub i hi)) (fun i hi => mr _ (mr _ hi))
    rcases h7 with ⟨rfl, d, h8, rfl⟩ | ⟨rfl, rfl, rfl⟩
    · refine if_t (he _ _ _ ⟨Z3, b3, Os3, q3, d, en', h8, fun y H4 ⟨Z4, Os4, q4, s4, r4⟩ => ?_⟩)
      have out4 := out_of s4 q3 (.inr ⟨ws, out3.1.trans hDl'⟩) out3.2.1 out3.2.2
      have hD4 : H4 Dl = some (.lst ws) := out4.1.trans (out3.1.trans hDl')
      have s24 : Step (vs ++ (muT elt ++ muEs cs)) Z H' (wipeE en vs) Os Z4 H4 en' Os4 := s23.trans s4 (fun i hi => hi) (fun i hi => mr _ (ml _ hi))
      have s5 : Step (muT elt ++ muEs cs) Z1 (hid Dl H1) (wipeE e1 vs) Os1 Z4 (hid Dl H4) (wipeE en' vs) (wipeO Os4 vs) := sg.trans (s24.hide.wiped qgh q4.len1) (fun i hi => hi) fun i hi => hi
      have t4 : ∀ zs, H4 Dl ≠ some (.tup zs) := fun zs h => by rw [hD4] at h; cases h
      have f4 : ∀ o u, H4 Dl ≠ some (.frz o u) := fun o u h => by rw [hD4] at h; cases h
      have st := side_stay (o := .lst (ws ++ [y])) out4.2.2 t4 f4
      have hlw : ws.length < sizeLine := by
        rw [← big_eq]
        have := rw'.length
        rw [List.length_append] at this
        have h9 : ys.length = done.length + rest.length := by rw [e, List.length_append]
        have h10 : rest.length = rest'.length + 1 := by rw [hrest]; rfl
        omega
      refine ⟨ws, hD4, hlw, Z4, en', wipeO Os4 vs, ws ++ [y], done ++ [d], rest', (q4.wiped hw).side (fun h => out4.2.1 (flat_wipeO h)) out4.2.2 t4 f4, by rw [hide_upd]; exact s5, upd_same, ?_, fun h => out4.2.1 (flat_wipeO h), out4.2.2, h3, ?_⟩
      · have s6 := (s2.trans s3 (mu := vs ++ (muT elt ++ muEs cs)) (fun i hi => ml _ (sub i hi)) (fun i hi => mr _ (mr _ hi))).trans s4 (mu := vs ++ (muT elt ++ muEs cs)) (fun i hi => hi) (fun i hi => mr _ (ml _ hi))
        have r1 : RpL B Z4 H4 ws (done0 ++ done) := (rw'.stay g1.stay fun _ z => z).stay (s6.stay qg) s6.zz
        rw [← List.append_assoc]
        exact (r1.append (.cons r4 .nil)).stay st fun _ z => z
      · rw [e, hrest, List.append_assoc]; rfl
    · refine if_f ?_
      have s5 : Step (muT elt ++ muEs cs) Z1 (hid Dl H1) (wipeE e1 vs) Os1 Z3 (hid Dl H3) (wipeE en' vs) (wipeO Os3 vs) := sg.trans (s23.hide.wiped qgh q3.len1) (fun i hi => hi) fun i hi => hi
      refine ⟨Z3, en', wipeO Os3 vs, ws, done, rest', q3.wiped hw, s5, out3.1.trans hDl', (rw'.stay g1.stay fun _ z => z).stay (s23.stay qg) s23.zz, fun h => out3.2.1 (flat_wipeO h), out3.2.2, h3, ?_⟩
      rw [e, hrest]
  · rintro H ⟨Z, en, Os, ws, done, rest, q, s, hDl, rw', n1, n2, hr, e⟩
    rw [List.drop_of_length_le (Nat.le_refl _)] at hr
    cases hr
    rw [List.append_nil] at e
    subst e
    exact fin Z Os H ws q s hDl rw' n1 n2
/-- one turn of the outer loop -/
def lc2F (G : List Fn) (vs vs1 : List Nat) (elt : E) (p : P) (it1 : E) (p1 : P) (cs1 : List E) : D → Env → R (List D × Env) := fun x en => do
  let e2 ← bindP p x (wipeE en vs)
  let (m1, rs1, e3) ← ev G it1 e2
  let xs1 ← itR m1
  if den e3 vs1 && apart rs1 (muT elt ++ muEs cs1 ++ vs1) then
    lcLoop (lcF G vs1 elt p1 cs1) xs1 e3
  else .bad
theorem lc2_loop {vs vs1 : List Nat} {elt it1 : E} {p p1 : P} {cs1 : List E} {rs : List Nat} {J : It} {xs ys : List D} {e1 e2 : Env} {tt1 : TT} {te : TE} {g g1 : TG} {wi1 : TI} {σ : L2.St} {Q : V → Hp → Prop}
    (q1 : Sat B Z1 σ H1 e1 Os1) (dn : den e1 vs = true) (sp : subs p.slots vs = true) (sv : subs vs1 vs = true) (sp1 : subs p1.slots vs1 = true) (it : ItOk B Z1 H1 Os1 rs J xs) (ap : apart rs (muE it1 ++ muT elt ++ muEs cs1 ++ vs) = true)
    (hrun : lc2Loop (lc2F G vs vs1 elt p it1 p1 cs1) xs e1 = .ok (ys, e2)) (hlen : ys.length ≤ big)
    (hg : ∀ v σ H Q, Gb B p.slots (bindP p) v σ H Q → g v σ H Q) (hw1 : ∀ σ H Q, Ix B (muE it1) (iRun G it1) σ H Q → wi1 σ H Q) (hg1 : ∀ v σ H Q, Gb B p1.slots (bindP p1) v σ H Q → g1 v σ H Q) (ht : ∀ σ H Q, Bx B (muEs cs1) (evCs G cs1) σ H Q → tt1 σ H Q) (he : ∀ σ H Q, Tx B (muT elt) (tRun G elt) σ H Q → te σ H Q) (hD : H1 Dl = none)
    (fin : ∀ Z Os H ws, Sat B Z (wipe σ vs) H (wipeE e2 vs) Os → Step (muE it1 ++ muT elt ++ muEs cs1) Z1 H1 (wipeE e1 vs) Os1 Z H (wipeE e2 vs) Os → H Dl = some (.lst ws) → RpL B Z H ws ys → Dl ∉ Os.flatten → ¬ Z Dl → Q (.ref Dl) H) :
    ∃ W : Nat → Nat → Hp → Prop, (∃ m, W 0 m (L2.upd H1 Dl (.lst []))) ∧ ∀ i m H, W i m H →
      (J.stop i H ∧ Q (.ref Dl) H) ∨ (J.go i H ∧ ∃ Nx : Hp → Prop, (∀ H', Nx H' → ∃ m', m' < m ∧ W (i + 1) m' H') ∧ ∀ x H', J.yld i H x H' → g x (wipe σ vs) H' fun σ2 H2 => wipe σ2 vs = wipe σ vs ∧ tYes σ2 H2 fun b H3 =>
        if b = true then wi1 σ2 H3 fun J1 H4 => ∃ W1 : Nat → Nat → Hp → Prop, (∃ m, W1 0 m H4) ∧ ∀ j k H, W1 j k H →
          (J1.stop j H ∧ Nx H) ∨ (J1.go j H ∧ ∃ Nx1 : Hp → Prop, (∀ H', Nx1 H' → ∃ k', k' < k ∧ W1 (j + 1) k' H') ∧ ∀ x H', J1.yld j H x H' → g1 x (wipe σ2 vs1) H' fun σ3 H5 => wipe σ3 vs1 = wipe σ2 vs1 ∧ tt1 σ3 H5 fun b H6 =>
            if b = true then te σ3 H6 fun y H7 => ∃ acc, H7 Dl = some (.lst acc) ∧ acc.length < sizeLine ∧ Nx1 (L2.upd H7 Dl (.lst (acc ++ [y]))) else Nx1 H6)
        else Nx H3) := by
  obtain ⟨Gd, Y, w, hG, hY⟩ := it
  have q1w := q1.wiped (vs := vs) rfl
  rw [wipeO_same fun i hi => (den_at dn q1 hi).1] at q1w
  have sub := sub_at sp
  have subv := sub_at sv
  have n01 : Dl ∉ Os1.flatten := fun h => q1.there h hD
  have n02 : ¬ Z1 Dl := fun z => q1.zh _ z hD
  have t1 : ∀ zs, H1 Dl ≠ some (.tup zs) := fun zs h => by rw [hD] at h; cases h
  have f1 : ∀ o u, H1 Dl ≠ some (.frz o u) := fun o u h => by rw [hD] at h; cases h
  have q1h := q1w.hide n01 n02 t1 f1
  have later : ∀ {Z H en Os}, Step (muE it1 ++ muT elt ++ muEs cs1) Z1 (hid Dl H1) (wipeE e1 vs) Os1 Z (hid Dl H) (wipeE en vs) Os → Later rs Os1 Z1 H1 Z H := fun {Z H en Os} s => by
    refine ⟨s.zz, stay_show (s.stay q1h) n02 t1 f1, fun i hi O hO a ha => ?_⟩
    have := List.all_eq_true.mp ap i hi
    simp only [List.contains_eq_mem, List.mem_append, Bool.not_eq_true', decide_eq_false_iff_not, not_or] at this
    have hne : a ≠ Dl := fun h => n01 (h ▸ mem_flat.mpr ⟨i, O, hO, ha⟩)
    have := (s.slot i (by simp only [List.mem_append, not_or]; exact this.1)).2.2 O hO a ha
    rw [hide_ne hne, hide_ne hne] at this
    exact this
  refine it_gen w (fun x H' Nx => g x (wipe σ vs) H' fun σ2 H2 => wipe σ2 vs = wipe σ vs ∧ tYes σ2 H2 fun b H3 =>
        if b = true then wi1 σ2 H3 fun J1 H4 => ∃ W1 : Nat → Nat → Hp → Prop, (∃ m, W1 0 m H4) ∧ ∀ j k H, W1 j k H →
          (J1.stop j H ∧ Nx H) ∨ (J1.go j H ∧ ∃ Nx1 : Hp → Prop, (∀ H', Nx1 H' → ∃ k', k' < k ∧ W1 (j + 1) k' H') ∧ ∀ x H', J1.yld j H x H' → g1 x (wipe σ2 vs1) H' fun σ3 H5 => wipe σ3 vs1 = wipe σ2 vs1 ∧ tt1 σ3 H5 fun b H6 =>
            if b = true then te σ3 H6 fun y H7 => ∃ acc, H7 Dl = some (.lst acc) ∧ acc.length < sizeLine ∧ Nx1 (L2.upd H7 Dl (.lst (acc ++ [y]))) else Nx1 H6)
        else Nx H3) (fun i H => ∃ Z en Os ws done rest, Sat B Z (wipe σ vs) H (wipeE en vs) Os ∧ Step (muE it1 ++ muT elt ++ muEs cs1) Z1 (hid Dl H1) (wipeE e1 vs) Os1 Z (hid Dl H) (wipeE en vs) Os ∧ H Dl = some (.lst ws) ∧ RpL B Z H ws done ∧
      Dl ∉ Os.flatten ∧ ¬ Z Dl ∧ lc2Loop (lc2F G vs vs1 elt p it1 p1 cs1) (xs.drop i) en = .ok (rest, e2) ∧ ys = done ++ rest) ?_ ?_ ?_ ?_
  · have g0 : Grow H1 (L2.upd H1 Dl (.lst [])) := Grow.upd hD
    exact ⟨Z1, e1, Os1, [], [], ys, q1w.grow g0, by rw [hide_upd]; exact Step.refl, upd_same, .nil, n01, n02, by simpa using hrun, rfl⟩
  · rintro i H hi ⟨Z, en, Os, ws, done, rest, q, s, _⟩
    exact hG Z H (later s)
  · rintro i x H H' hi ⟨Z, en, Os, ws, done, rest, q, s, hDl, rw', n1, n2, hr, e⟩ hy
    have hx : xs[i]? = some xs[i] := List.getElem?_eq_getElem hi
    obtain ⟨gr, rx⟩ := hY Z H i x H' xs[i] (later s) hx hy
    rw [List.drop_eq_getElem_cons hi] at hr
    obtain ⟨⟨os, en'⟩, h1, h2⟩ := R.bind_ok hr
    obtain ⟨⟨rest', e'⟩, h3, h4⟩ := R.bind_ok h2
    cases h4
    obtain ⟨b2, h5, h6⟩ := R.bind_ok h1
    obtain ⟨⟨m1, rs1, e3⟩, h7, h8⟩ := R.bind_ok h6
    obtain ⟨xs1, h9, h10⟩ := R.bind_ok h8
    obtain ⟨h11, h12⟩ := R.of_if h10
    simp only [Bool.and_eq_true] at h11
    have qg := q.grow gr
    have hDl' : H' Dl = some (.lst ws) := gr _ _ hDl
    have qgh := qg.hide n1 n2 (fun zs h => by rw [hDl'] at h; cases h) (fun o u h => by rw [hDl'] at h; cases h)
    have sg : Step (muE it1 ++ muT elt ++ muEs cs1) Z1 (hid Dl H1) (wipeE e1 vs) Os1 Z (hid Dl H') (wipeE en vs) Os := s.trans ((Step.refl (mu := muE it1 ++ muT elt ++ muEs cs1)).grow gr q).hide (fun i hi => hi) fun i hi => hi
    refine hg x _ _ _ ⟨Z, _, Os, _, b2, qg, rx, h5, fun σ2 H2 ⟨eh, Os2, q2, s2, f2, l2⟩ => ?_⟩
    have hw : wipe σ2 vs = wipe σ vs := wipe_same f2 l2 sub
    cases eh
    refine ⟨hw, ?_⟩
    unfold tYes
    dsimp only
    rw [if_pos rfl]
    have hir : iRun G it1 b2 = .ok (rs1, xs1, e3) := by
      unfold iRun
      rw [h7]
      show (itR m1 >>= _) = _
      rw [h9]
      rfl
    refine hw1 _ _ _ ⟨Z, b2, Os2, q2, rs1, xs1, e3, hir, fun J1 H4 ⟨Z4, Os4, q4, s4, it4⟩ => ?_⟩
    have out2 := out_of s2 qg (.inr ⟨ws, hDl'⟩) n1 n2
    have out4 := out_of s4 q2 (.inr ⟨ws, hDl'⟩) out2.2.1 out2.2.2
    have hD4 : H4 Dl = some (.lst ws) := out4.1.trans hDl'
    have s24 : Step (vs ++ (muE it1 ++ muT elt ++ muEs cs1)) Z H' (wipeE en vs) Os Z4 H4 e3 Os4 := s2.trans s4 (fun i hi => ml _ (sub i hi)) (fun i hi => mr _ (ml _ (ml _ hi)))
    have r4 : RpL B Z4 H4 ws done := (rw'.stay gr.stay fun _ z => z).stay (s24.stay qg) s24.zz
    have hl : done.length + os.length ≤ big := by
      have : ys.length = done.length + (os.length + rest'.length) := by rw [e, List.length_append, List.length_append]
      omega
    refine lc_loopA q4 h11.1 sp1 it4 h11.2 h12 hl hg1 ht he hD4 r4 out4.2.1 out4.2.2 fun Z5 Os5 H5 ws5 q5 s5 hD5 r5 n5 n6 => ?_
    have hw2 : wipe (wipe σ2 vs1) vs = wipe σ vs := (wipe_two subv).trans hw
    have q6 := q5.wiped hw2
    rw [wipeE_two subv] at q6
    have hsame : wipeO Os4 vs1 = Os4 := wipeO_same fun i hi => (den_at h11.1 q4 hi).1
    have sw : Step vs1 Z4 H4 e3 Os4 Z4 H4 (wipeE e3 vs1) Os4 := by
      have := Step.wipe (Z := Z4) (H := H4) (env := e3) (Os := Os4) vs1
      rw [hsame] at this
      exact this
    have s25 : Step (vs ++ (muE it1 ++ muT elt ++ muEs cs1)) Z (hid Dl H') (wipeE en vs) Os Z4 (hid Dl H4) (wipeE e3 vs1) Os4 := (s24.trans sw (mu := vs ++ (muE it1 ++ muT elt ++ muEs cs1)) (fun i hi => hi) (fun i hi => ml _ (subv i hi))).hide
    have s26 : Step (vs ++ (muE it1 ++ muT elt ++ muEs cs1)) Z (hid Dl H') (wipeE en vs) Os Z5 (hid Dl H5) (wipeE en' vs1) Os5 := s25.trans s5 (fun i hi => hi) (fun i hi => mr _ (by rw [List.append_assoc]; exact mr _ hi))
    have s27 := s26.wiped qgh q5.len1
    rw [wipeE_two subv] at s27
    exact ⟨Z5, en', wipeO Os5 vs, ws5, done ++ os, rest', q6, sg.trans s27 (fun i hi => hi) (fun i hi => hi), hD5, r5, fun h => n5 (flat_wipeO h), n6, h3, by rw [e, List.append_assoc]⟩
  · rintro H ⟨Z, en, Os, ws, done, rest, q, s, hDl, rw', n1, n2, hr, e⟩
    rw [List.drop_of_length_le (Nat.le_refl _)] at hr
    cases hr
    rw [List.append_nil] at e
    subst e
    exact fin Z Os H ws q (s.show hD q1w) hDl rw' n1 n2
end
end TR
set_option Elab.async false
set_option linter.all false
set_option maxHeartbeats 4000000
set_option maxRecDepth 100000
/-! x[::-1] -/
namespace TR
open PySem PySem.Spec PyProof.Rows L2 StX HT
section
variable {prog : Program} {w : World} {A : Around} {E : Value → Shared → Prop} {s : Shared}
theorem adjust_rev (n : Nat) : Builtin.Slice.sliceAdjust none none (-1) (n : Int) = ((n : Int) - 1, -1) := rfl
theorem places_rev (n : Nat) : Builtin.Slice.slicePlaces ((n : Int) - 1) (-1) (-1) = n := by
  unfold Builtin.Slice.slicePlaces
  have h1 : ¬ ((-1 : Int) > 0) := by decide
  simp only [h1, if_false]
  by_cases h : (n : Int) - 1 > -1
  · have e : ((n : Int) - 1 - -1 - 1) / (- -1) + 1 = (n : Int) := by
      rw [show (- -1 : Int) = 1 by decide, Int.ediv_one]; omega
    simp only [h, if_true, e, Int.toNat_natCast]
  · have e : n = 0 := by omega
    subst e
    simp
theorem sliceApplied_rev {sl : Addr} {vl vu vs : Value} {n : Nat} {Q : Int × Int × Nat → Shared → Prop} (hs : s.heap.IsSliceOf sl vl vu vs) (pl : IsPart vl none) (pu : IsPart vu none) (ps : IsPart vs (some (-1)))
    (h : Q ((n : Int) - 1, -1, n) s) : wpAny (model prog w) A (Builtin.Slice.sliceApplied (.ref sl) (pure (n : Int))) Q E s := by
  obtain ⟨os, hos, hcs, hds⟩ := id hs
  unfold Builtin.Slice.sliceApplied Builtin.Slice.sliceFields
  refine wpAny_bind (wpAny_bind (wpAny_field hos hds (x := vl) rfl (wpAny_bind (wpAny_field hos hds (x := vu) rfl (wpAny_bind (wpAny_field hos hds (x := vs) rfl (wpAny_pure ?_)))))))
  refine wpAny_bind (slicePart_ ps ?_)
  show wpAny _ _ (if ((-1 : Int) == 0) = true then _ else _) _ _ s
  rw [if_neg (by decide)]
  refine wpAny_bind (slicePart_ pl (wpAny_bind (slicePart_ pu (wpAny_bind (wpAny_pure ?_)))))
  show wpAny _ _ (match Builtin.Slice.sliceAdjust none none (-1) (n : Int) with | (lo, hi) => pure (lo, (-1 : Int), Builtin.Slice.slicePlaces lo hi (-1))) _ _ s
  rw [adjust_rev n]
  show wpAny _ _ (pure ((n : Int) - 1, (-1 : Int), Builtin.Slice.slicePlaces ((n : Int) - 1) (-1) (-1))) _ _ s
  rw [places_rev]
  exact wpAny_pure h
theorem pick_rev (xs : Array Value) : ((List.range xs.size).filterMap fun (m : Nat) => xs[((xs.size : Int) - 1 + (m : Int) * (-1)).toNat]?).toArray = xs.toList.reverse.toArray := by
  congr 1
  have e : (List.range xs.size).filterMap (fun (m : Nat) => xs[((xs.size : Int) - 1 + (m : Int) * (-1)).toNat]?) = ((List.range xs.size).map (fun k => xs.size - 1 - k)).filterMap (xs[·]?) := by
    rw [List.filterMap_map]
    have hh : ∀ l : List Nat, (∀ m ∈ l, m < xs.size) → l.filterMap (fun (m : Nat) => xs[((xs.size : Int) - 1 + (m : Int) * (-1)).toNat]?) = l.filterMap ((fun k => xs[k]?) ∘ fun k => xs.size - 1 - k) := by
      intro l
      induction l with
      | nil => intro _; rfl
      | cons m l ih =>
        intro h
        have h1 := h m List.mem_cons_self
        have e2 : ((xs.size : Int) - 1 + (m : Int) * (-1)).toNat = xs.size - 1 - m := by omega
        rw [List.filterMap_cons, List.filterMap_cons, ih fun m hm => h m (List.mem_cons_of_mem _ hm), e2]
        rfl
    exact hh _ fun m hm => List.mem_range.mp hm
  rw [e, PySem.W.krv_range, List.filterMap_reverse, PySem.W.krv_all]
theorem getItem_tuple_rev {t sl : Addr} {items : Array Value} {vl vu vs : Value} {Q : Value → Shared → Prop} (ht : IsTup s.heap t items) (hs : s.heap.IsSliceOf sl vl vu vs) (pl : IsPart vl none) (pu : IsPart vu none) (ps : IsPart vs (some (-1)))
    (h : Q (.ref s.heap.objs.size) { s with heap := s.heap.push { cls := .type "tuple", data := .seq items.toList.reverse.toArray } })
    (hsz : items.size ≤ sizeLine) : wpAny (model prog w) A (getItem (.ref t) (.ref sl)) Q E s := by
  have htake : sizeOk (.seq items.toList.reverse.toArray) := by
    show (items.toList.reverse.toArray).size ≤ sizeLine
    rw [List.size_toArray, List.length_reverse, Array.length_toList]
    omega
  obtain ⟨os, hos, hcs, hds⟩ := id hs
  have hTs : s.TypeIs (.ref sl) "slice" := ⟨os, hos, hcs⟩
  unfold getItem
  try with_reducible refine wpAny_holding ?_
  first | refine wpAny_bind (wpAny_pure ?_) | skip
  refine wpAny_bind (wpAny_sequenceKey ht.typeIs (by decide) ?_)
  refine wpAny_bind (wpAny_callSpecial?_slot (name := Str.ofString "__getitem__") ht.typeIs PyProof.Rows.slot_tuple_getitem
    (wpAny_call_entry PyProof.Rows.slot_tuple_getitem ht.typeIs entry_tuple_getitem ?_ (args_tuple_getitem _ _)))
  show wpAny _ _ (Builtin.Tuple.tupleItemsOf (.ref t) >>= _) _ _ s
  refine wpAny_bind (tupleItemsOf_ ht ?_)
  refine wpAny_bind (wpAny_typeOf hTs ?_)
  rw [if_pos (by decide)]
  refine wpAny_bind (sliceApplied_rev hs pl pu ps ?_)
  have hno : ¬ (((items.size : Int) - 1 == 0 && (-1 : Int) == 1 && items.size == items.size) = true) := by
    intro q
    rw [Bool.and_eq_true, Bool.and_eq_true] at q
    exact absurd q.1.2 (by decide)
  show wpAny _ _ (if ((items.size : Int) - 1 == 0 && (-1 : Int) == 1 && items.size == items.size) = true then _ else _) _ _ s
  rw [if_neg hno, pick_rev]
  first
    | exact wpAny_bind (m := Builtin.Tuple.tupleExact _) (wpAny_newObj_type (wpAny_pure ⟨_, rfl, wpAny_pure h⟩) htake)
    | exact wpAny_bind (m := Builtin.Tuple.tupleExact _) (wpAny_newObj_type (wpAny_bind (wpAny_pure (wpAny_pure ⟨_, rfl, wpAny_pure h⟩))) htake)
    | exact wpAny_bind (wpAny_bind (m := Builtin.Tuple.tupleExact _) (wpAny_newObj_type (wpAny_pure (wpAny_pure ⟨_, rfl, wpAny_pure h⟩)) htake))
    | exact wpAny_bind (wpAny_bind (m := Builtin.Tuple.tupleExact _) (wpAny_newObj_type (wpAny_pure ⟨_, rfl, wpAny_pure h⟩) htake))
end
section
variable {X : Cx}
def tRevA (K : PySem.W.Frag) (te : TE) : TE := fun σ H Q => te σ H fun x H1 => ∃ a xs, x = .ref a ∧ ((SqL K H1 a xs ∧ ∀ p, H1 p = none → Q (.ref p) (upd H1 p (.lst xs.reverse))) ∨ (SqT K H1 a xs ∧ ∀ p its, H1 p = none → Q (.ref p) (upd H1 p (.frz (tupO its) (.tup xs.reverse)))))
theorem pe_revA {e : Expr} {te : TE} {k : Nat} {p1 p2 p3 pos : Pos} (he : PE X e te) : PE X (.Subscript e (.Slice none none (some (.UnaryOp .USub (.Constant (.int 1) k p1) p2)) p3) pos) (tRevA X.K te) := by
  refine ⟨fun pins s σ H Q I h => ?_⟩
  refine Subscript_ (thn (he.run pins s σ H _ I h) fun v s1 ⟨x, H1, I1, r1, q1⟩ => ?_)
  obtain ⟨a, xs, ex, q⟩ := q1
  subst ex
  cases r1
  have hst : PO X (some (.UnaryOp .USub (.Constant (.int 1) k p1) p2)) (tPart (tUn (rU fun i => .int (-i)) (tC (.int 1)))) := po_some (pe_un un_neg pe_int)
  refine wpAny_Slice (thn (po_none.run pins s1 σ H1 (fun o H2 => o = none ∧ H2 = H1) I1 ⟨rfl, rfl⟩) fun vl s2 ⟨l, H2, I2, pl, el, e2⟩ => ?_)
  subst el e2
  refine thn (po_none.run pins s2 σ H2 (fun o H3 => o = none ∧ H3 = H2) I2 ⟨rfl, rfl⟩) fun vu s3 ⟨u, H3, I3, pu, eu, e3⟩ => ?_
  subst eu e3
  refine thn (hst.run pins s3 σ H3 (fun o H4 => o = some (-1) ∧ H4 = H3) I3 ⟨1, rfl, -1, rfl, rfl, rfl⟩) fun vs s4 ⟨o, H4, I4, ps, eo, e4⟩ => ?_
  subst eo e4
  have I5 : Inv X pins σ H4 { s4 with heap := s4.heap.push { cls := .type "slice", data := .fields #[vl, vu, vs] } } := I4.kept (t' := s4.toks) fun b ob q => Heap.get?_push_of_some _ q
  show wpAny (model X.prog X.w) X.A (subscriptTail e (.Slice none none (some (.UnaryOp .USub (.Constant (.int 1) k p1) p2)) p3) (.ref a) (.ref s4.heap.objs.size)) (EP X pins σ Q) X.xe { s4 with heap := s4.heap.push { cls := .type "slice", data := .fields #[vl, vu, vs] } }
  rcases q with ⟨hx, q⟩ | ⟨hx, q⟩
  · obtain ⟨its, r, ht, hz⟩ := I5.list hx
    have hlen := r.length
    refine tail_any (ops := [.ref a, .ref s4.heap.objs.size]) ht.isList.typeIs (PySem.slot_list_getitem.lookup) ?_ (by with_unfolding_all rfl)
    refine wpAny_getItem_list_slice ht.isList (Heap.IsSliceOf.new _ vl vu vs) pl pu ps (by decide) ?_ (by rw [List.size_toArray]; omega)
    rw [PySem.W.krv_pick]
    refine ⟨.ref _, _, I5.laid (t' := s4.toks) (o := .lst xs.reverse) (fun b ob q => Heap.get?_push_of_some _ q) (Nat.le_refl _) ?_, rfl, q _ (I5.hok.fresh (Nat.le_refl _))⟩
    exact ⟨by rw [List.length_reverse]; exact hz, _, 0, r.reverse, Heap.get?_push_size _ rfl⟩
  · obtain ⟨its, r, ht, hz⟩ := I5.tuple hx
    have hlen := r.length
    refine tail_any (ops := [.ref a, .ref s4.heap.objs.size]) ht.typeIs (PyProof.Rows.slot_tuple_getitem.lookup) ?_ (by with_unfolding_all rfl)
    refine getItem_tuple_rev ht (Heap.IsSliceOf.new _ vl vu vs) pl pu ps ?_ (by rw [List.size_toArray]; omega)
    have I6 := laidT (tk := s4.toks) I5 r.reverse (by rw [List.length_reverse]; exact hz)
    exact ⟨.ref _, _, I6, rfl, q _ _ (I5.hok.fresh (Nat.le_refl _))⟩
end
end TR
set_option Elab.async false
set_option linter.all false
set_option maxHeartbeats 4000000
/-! comprehensions of two clauses; walks backwards; x[::-1]; x is True -/
namespace TR
open PySem PySem.Spec PyProof.Rows L2 StX RT RZ
section
variable {G : List Fn} {C : Ctx} {X : Cx} {B : Wd} {Z Z' Z0 Z1 Z2 : Zn} {H H' H0 H1 H2 : Hp} {σ σ' : L2.St} {env env' env0 env1 en : Env} {Os Os' Os0 Os1 : List (List Addr)} {mu mub vs : List Nat} {v : V} {m : M} {d : D} {Dl : Addr} {a : E} {xa xb : Expr} {pos p p1 p2 p3 : Pos}
theorem lc2_w {vs vs1 : List Nat} {elt it it1 : E} {p p1 : P} {cs1 : List E} {Q : VK} (h : Rx B (muE (.lc2 vs vs1 elt p it p1 it1 cs1)) (ev G (.lc2 vs vs1 elt p it p1 it1 cs1)) σ H Q) :
    tLc2 (Ix B (muE it) (iRun G it)) (Gb B p.slots (bindP p)) tYes (Ix B (muE it1) (iRun G it1)) (Gb B p1.slots (bindP p1)) (Bx B (muEs cs1) (evCs G cs1)) (Tx B (muT elt) (tRun G elt)) vs vs1 σ H Q := by
  obtain ⟨Z, env, Os, q, m, rs, env', h1, h2⟩ := h
  simp only [muE] at h2
  rw [ev] at h1
  obtain ⟨⟨mm, r1, e1⟩, h3, h⟩ := R.bind_ok h1
  obtain ⟨xs, h4, h⟩ := R.bind_ok h
  obtain ⟨hc, h⟩ := R.of_if h
  simp only [Bool.and_eq_true] at hc
  obtain ⟨⟨⟨⟨dn, sp⟩, sv⟩, sp1⟩, ap⟩ := hc
  obtain ⟨⟨ys, e2⟩, h5, h⟩ := R.bind_ok h
  obtain ⟨hc2, h⟩ := R.of_if h
  cases h
  refine ⟨Z, env, Os, q, r1, xs, e1, ?_, fun J H1 ⟨Z1, Os1, q1, s1, hit⟩ D hD => ?_⟩
  · unfold iRun
    rw [h3]
    show (itR mm >>= _) = _
    rw [h4]
    rfl
  · exact lc2_loop q1 dn sp sv sp1 hit ap h5 hc2 (fun v σ H Q h => h) (fun σ H Q h => h) (fun v σ H Q h => h) (fun σ H Q h => h) (fun σ H Q h => h) hD (lc_fin q s1 q1 dn hD h2)
/-- [elt for p in it for p1 in it1 if ..] -/
theorem k_lc2 (ok : XOk G C X) {vs vs1 : List Nat} {elt it it1 : E} {p p1 : P} {cs1 : List E} {xelt xi tg xi1 tg1 : Expr} {ifs1 : List Expr} {scope : Scope} {pos : Pos}
    (hi : PI X tg xi (Ix (wd X) (muE it) (iRun G it))) (hb : blkC C.N C.sc scope (ownOf C vs) = true) (hv : subs vs1 vs = true) (hs : noSet xi = true) (hs1 : noSet xi1 = true)
    (hg : ∀ Y : Cx, wd Y = wd X → XOk G (C.blk scope) Y → PG Y tg (Gb (wd Y) p.slots (bindP p))) (hi1 : ∀ Y : Cx, wd Y = wd X → XOk G (C.blk scope) Y → PI Y tg1 xi1 (Ix (wd Y) (muE it1) (iRun G it1)))
    (hg1 : ∀ Y : Cx, wd Y = wd X → XOk G (C.blk scope) Y → PG Y tg1 (Gb (wd Y) p1.slots (bindP p1))) (ht1 : ∀ Y : Cx, wd Y = wd X → XOk G (C.blk scope) Y → PTs Y ifs1 (Bx (wd Y) (muEs cs1) (evCs G cs1)))
    (he : ∀ Y : Cx, wd Y = wd X → XOk G (C.blk scope) Y → PE Y xelt (Tx (wd Y) (muT elt) (tRun G elt))) :
    PE X (.ListComp xelt [⟨tg, xi, [], 0⟩, ⟨tg1, xi1, ifs1, 0⟩] scope pos) (Rx (wd X) (muE (.lc2 vs vs1 elt p it p1 it1 cs1)) (ev G (.lc2 vs vs1 elt p it p1 it1 cs1))) ∧
    ∀ (i : Nat) (y : Str) (py spos : Pos), C.N[i]? = some y → C.sc.names.lookup y = some .local → swapsWith (.ListComp xelt [⟨tg, xi, [], 0⟩, ⟨tg1, xi1, ifs1, 0⟩] scope pos) (some (.Name y py)) spos.line X.env = pure true →
      PS X (.Assign [.Name y py] (.ListComp xelt [⟨tg, xi, [], 0⟩, ⟨tg1, xi1, ifs1, 0⟩] scope pos) spos) (tAsg (Rx (wd X) (muE (.lc2 vs vs1 elt p it p1 it1 cs1)) (ev G (.lc2 vs vs1 elt p it p1 it1 cs1))) (gName i)) := by
  have bo : BlkOk X.N X.env.scope scope (ownOf C vs) := by rw [ok.N, ok.sc]; exact blkOk_by hb
  have hN : X.N.Nodup := by rw [ok.N]; exact ok.nd
  have hvs : ∀ i ∈ vs1, i ∈ (ownOf C vs).map (·.2) := by rw [ownOf_ix]; exact sub_at hv
  refine ⟨?_, fun i y py spos hy hyl hsw => ?_⟩
  · have rule := pe_lc2 (X := X) (pos := pos) (vs1 := vs1) (g := Gb (wd X) p.slots (bindP p)) (tt := tYes) (wi1 := Ix (wd X) (muE it1) (iRun G it1)) (g1 := Gb (wd X) p1.slots (bindP p1)) (tt1 := Bx (wd X) (muEs cs1) (evCs G cs1)) (te := Tx (wd X) (muT elt) (tRun G elt)) ok.calm hN hi bo hvs (fun s H Cd cl fp => hg (X.blk s H scope (compEnvC scope cl Cd X.env) fp) rfl (ok.blk s H scope Cd cl fp)) (fun s H Cd cl fp => pts_nil) (fun s H Cd cl fp => hi1 (X.blk s H scope (compEnvC scope cl Cd X.env) fp) rfl (ok.blk s H scope Cd cl fp)) (fun s H Cd cl fp => hg1 (X.blk s H scope (compEnvC scope cl Cd X.env) fp) rfl (ok.blk s H scope Cd cl fp)) (fun s H Cd cl fp => ht1 (X.blk s H scope (compEnvC scope cl Cd X.env) fp) rfl (ok.blk s H scope Cd cl fp)) (fun s H Cd cl fp => he (X.blk s H scope (compEnvC scope cl Cd X.env) fp) rfl (ok.blk s H scope Cd cl fp)) (fold_no hs) (fun env x => fold_no hs1 x)
    rw [ownOf_ix] at rule
    exact PE.of rule fun σ H Q h => lc2_w h
  · have rule := ps_setLc2 (X := X) (pos := pos) (vs1 := vs1) (g := Gb (wd X) p.slots (bindP p)) (tt := tYes) (wi1 := Ix (wd X) (muE it1) (iRun G it1)) (g1 := Gb (wd X) p1.slots (bindP p1)) (tt1 := Bx (wd X) (muEs cs1) (evCs G cs1)) (te := Tx (wd X) (muT elt) (tRun G elt)) ok.calm hN (by rw [ok.N]; exact hy) (by rw [ok.sc]; exact hyl) hsw hi bo hvs (fun s H Cd cl fp => hg (X.blk s H scope (compEnvC scope cl Cd X.env) fp) rfl (ok.blk s H scope Cd cl fp)) (fun s H Cd cl fp => pts_nil) (fun s H Cd cl fp => hi1 (X.blk s H scope (compEnvC scope cl Cd X.env) fp) rfl (ok.blk s H scope Cd cl fp)) (fun s H Cd cl fp => hg1 (X.blk s H scope (compEnvC scope cl Cd X.env) fp) rfl (ok.blk s H scope Cd cl fp)) (fun s H Cd cl fp => ht1 (X.blk s H scope (compEnvC scope cl Cd X.env) fp) rfl (ok.blk s H scope Cd cl fp)) (fun s H Cd cl fp => he (X.blk s H scope (compEnvC scope cl Cd X.env) fp) rfl (ok.blk s H scope Cd cl fp)) (fold_no hs) (fun env x => fold_no hs1 x)
    rw [ownOf_ix] at rule
    exact PS.of rule fun D σ H h => lc2_w h
/-! ### reversed(..) walked -/
theorem walk_revT {K : PySem.W.Frag} {a : Addr} {xs : List V} : Walk (ItvT K a xs.length) xs.length (fun H => SqT K H a xs) (fun i H x H' => H' = H ∧ xs[xs.length - 1 - i]? = some x) where
  goes := fun i H hi q => ⟨hi, xs, xs[xs.length - 1 - i]'(by omega), q, List.getElem?_eq_getElem (by omega)⟩
  stops := fun H q => Nat.le_refl _
  yields := fun i H x H' hi q ⟨e, hy⟩ => ⟨e, hy xs q⟩
theorem rev_at {xs : List D} {vs : List V} {i : Nat} {x : V} {d : D} (r : RpL B Z H vs xs) (hd : xs.reverse[i]? = some d) (hx : vs[vs.length - 1 - i]? = some x) : Rp B Z H x d := by
  have hi : i < xs.length := by
    have := (List.getElem?_eq_some_iff.mp hd).1
    rwa [List.length_reverse] at this
  rw [List.getElem?_reverse hi] at hd
  rw [r.length] at hx
  exact rpl_get r hx hd
theorem it_of_revL {rs : List Nat} {a : Addr} {vs : List V} {xs : List D} (r : RpL B Z H vs xs) (h : ∀ Z2 H2, Later rs Os Z H Z2 H2 → SqL B.K H2 a vs) : ItOk B Z H Os rs (Itv B.K a vs.length) xs.reverse :=
  ⟨fun H => SqL B.K H a vs, fun i H x H' => H' = H ∧ vs[vs.length - 1 - i]? = some x, by rw [List.length_reverse, ← r.length]; exact walk_rev, h, fun Z2 H2 i x H3 d l hd ⟨e, hx⟩ => by
    subst e
    exact ⟨Grow.refl, (rev_at r hd hx).stay l.st l.zz⟩⟩
theorem it_of_revT {rs : List Nat} {a : Addr} {vs : List V} {xs : List D} (r : RpL B Z H vs xs) (h : ∀ Z2 H2, Later rs Os Z H Z2 H2 → SqT B.K H2 a vs) : ItOk B Z H Os rs (ItvT B.K a vs.length) xs.reverse :=
  ⟨fun H => SqT B.K H a vs, fun i H x H' => H' = H ∧ vs[vs.length - 1 - i]? = some x, by rw [List.length_reverse, ← r.length]; exact walk_revT, h, fun Z2 H2 i x H3 d l hd ⟨e, hx⟩ => by
    subst e
    exact ⟨Grow.refl, (rev_at r hd hx).stay l.st l.zz⟩⟩
theorem w_rvd {tg : Expr} (ok : XOk G C X) (hg : glB C.sc "reversed" = true) (ha : PE X xa (Rx (wd X) (muE a) (ev G a))) (hn : noStar xa = true) :
    PI X tg (.Call (.Name "reversed" p) [xa] [] pos) (Ix (wd X) (muE (.rvd a)) (iRun G (.rvd a))) := by
  refine PI.of (pi_revA (gl_of ok hg) (ok.bl _ (by simp [bnames])) ha (by rw [starEach_no hn])) fun σ H RR ⟨Z, env, Os, q, rs, xs, env', h1, h2⟩ => ?_
  obtain ⟨mm, h3, h4⟩ := i_run h1
  rw [ev] at h3
  simp only [muE] at h2
  obtain ⟨⟨m, r, e1⟩, h3, h5⟩ := R.bind_ok h3
  obtain ⟨ys, h6, h7⟩ := R.bind_ok h5
  cases h7
  cases h4
  refine Rx.go q h3 fun x H1 ⟨Z1, Os1, O1, q1, s1, r1, ro1⟩ => ?_
  obtain ⟨Z2, q2, s2, r2, hO⟩ := walk_give q1 s1 r1 ro1
  obtain ⟨p, vs, e, rl, ⟨_, h⟩ | ⟨_, h⟩⟩ := later_lst r2 hO h6
  · subst e
    exact ⟨p, vs, rfl, .inl ⟨h _ _ .refl, h2 _ _ ⟨Z2, Os1, q2, s2, it_of_revL rl h⟩⟩⟩
  · subst e
    exact ⟨p, vs, rfl, .inr ⟨h _ _ .refl, h2 _ _ ⟨Z2, Os1, q2, s2, it_of_revT rl h⟩⟩⟩
/-! ### x[::-1] -/
theorem k_rev {kk : Nat} {pos : Pos} (ha : PE X xa (Rx (wd X) (muE a) (ev G a))) :
    PE X (.Subscript xa (.Slice none none (some (.UnaryOp .USub (.Constant (.int 1) kk p1) p2)) p3) pos) (Rx (wd X) (muE (.rev a)) (ev G (.rev a))) := by
  refine PE.of (pe_revA ha) fun σ H Q ⟨Z, env, Os, q, m, rs, env', h1, h2⟩ => ?_
  rw [ev] at h1
  simp only [muE] at h2
  obtain ⟨⟨ma, ra, e1⟩, h3, h5⟩ := R.bind_ok h1
  obtain ⟨m', h6, h7⟩ := R.bind_ok h5
  cases h7
  refine Rx.go q h3 fun x H1 ⟨Z1, Os1, O1, q1, s1, r1, ro1⟩ => ?_
  obtain ⟨Z2, q2, s2, r2, hO⟩ := walk_give q1 s1 r1 ro1
  have hseq : ∃ ys, ma.seq = .ok ys ∧ ((ma = .pu (.tuple ys) ∧ m = .pu (.tuple ys.reverse)) ∨ (ma ≠ .pu (.tuple ys) ∧ m = .li ys.reverse)) := by
    unfold revD at h6
    split at h6
    · cases h6; exact ⟨_, rfl, .inl ⟨rfl, rfl⟩⟩
    · rename_i hne
      obtain ⟨ys, h8, h9⟩ := R.bind_ok h6
      cases h9
      exact ⟨ys, h8, .inr ⟨fun h => hne ys h, rfl⟩⟩
  obtain ⟨ys, hs, hm⟩ := hseq
  obtain ⟨p, vs, e, rl, hh⟩ := later_lst r2 hO hs
  subst e
  rcases hm with ⟨h8, rfl⟩ | ⟨h8, rfl⟩
  · have hh := hh.resolve_left fun w => w.1 h8
    exact ⟨p, vs, rfl, .inr ⟨hh.2 _ _ .refl, fun p its hp => h2 _ _ ((New.tup hp rl.reverse).post q2 s2)⟩⟩
  · have hh := hh.resolve_right fun w => h8 w.1
    exact ⟨p, vs, rfl, .inl ⟨hh.2 _ _ .refl, fun p hp => h2 _ _ ((New.li hp rl.reverse).post q2 s2)⟩⟩
/-! ### x is True -/
theorem blM_ok {m : M} {b : Bool} (h : blM m = .ok b) : m = .pu (.bool b) := by
  unfold blM at h
  split at h
  · cases h; rfl
  · cases h
theorem isb_run {n b : Bool} {r : R2} (hr : ∀ (x : Bool) (H : Hp) (Q : VK), Q (.bl ((x == b) != n)) H → r (.bl x) (.bl b) H Q) {Q : VK} (h : Rx B (muE (.isc n a (.bool b))) (ev G (.isc n a (.bool b))) σ H Q) :
    tOp r (Rx B (muE a) (ev G a)) (tC (.bl b)) σ H Q := by
  obtain ⟨Z, env, Os, q, m, rs, env', h1, h2⟩ := h
  simp only [ev] at h1
  simp only [muE] at h2
  obtain ⟨⟨ma, ra, e1⟩, e1', h1⟩ := R.bind_ok h1
  obtain ⟨x, h3, h1⟩ := R.bind_ok h1
  cases h1
  have h4 := blM_ok h3
  refine Rx.go q e1' fun y H1 pp => ?_
  dsimp only at h4
  rw [h4] at pp
  obtain ⟨Z1, Os1, q1, s1, r1⟩ := pp.pure
  cases r1
  exact hr x H1 Q (h2 _ _ ((New.pure (.bl _)).post q1 s1))
theorem k_isB {b : Bool} {j : Nat} {p : Pos} (ha : PE X xa (Rx (wd X) (muE a) (ev G a))) : PE X (.Compare xa [.Is] [.Constant (.bool b) j p] pos) (Rx (wd X) (muE (.isc false a (.bool b))) (ev G (.isc false a (.bool b)))) :=
  PE.of (pe_cmpR op_is_bl ha pe_bl rfl) fun σ H Q h => isb_run (fun x H Q q => ⟨x, b, rfl, rfl, by cases x <;> cases b <;> exact q⟩) h
theorem t_isB {b : Bool} {j : Nat} {p : Pos} (ha : PE X xa (Rx (wd X) (muE a) (ev G a))) : PT X (.Compare xa [.Is] [.Constant (.bool b) j p] pos) (Bx (wd X) (muE (.isc false a (.bool b))) (bRun G (.isc false a (.bool b)))) :=
  PT.of (pt_cmpR op_is_bl ha pe_bl rfl) fun σ H Q h => isb_run (fun x H Q q => ⟨x, b, rfl, rfl, by cases x <;> cases b <;> exact q⟩) (bx_of h)
theorem k_notB {b : Bool} {j : Nat} {p : Pos} (ha : PE X xa (Rx (wd X) (muE a) (ev G a))) : PE X (.Compare xa [.IsNot] [.Constant (.bool b) j p] pos) (Rx (wd X) (muE (.isc true a (.bool b))) (ev G (.isc true a (.bool b)))) :=
  PE.of (pe_cmpR op_isnot_bl ha pe_bl rfl) fun σ H Q h => isb_run (fun x H Q q => ⟨x, b, rfl, rfl, by cases x <;> cases b <;> exact q⟩) h
theorem t_notB {b : Bool} {j : Nat} {p : Pos} (ha : PE X xa (Rx (wd X) (muE a) (ev G a))) : PT X (.Compare xa [.IsNot] [.Constant (.bool b) j p] pos) (Bx (wd X) (muE (.isc true a (.bool b))) (bRun G (.isc true a (.bool b)))) :=
  PT.of (pt_cmpR op_isnot_bl ha pe_bl rfl) fun σ H Q h => isb_run (fun x H Q q => ⟨x, b, rfl, rfl, by cases x <;> cases b <;> exact q⟩) (bx_of h)
end
end TR
set_option Elab.async false
set_option linter.all false
set_option maxHeartbeats 4000000
set_option maxRecDepth 100000
/-! zip of a list and a tuple -/
namespace TR
open PySem PySem.Spec PyProof.Rows L2 StX RT RZ
theorem nin2 (x p q : Nat) (h1 : x ≠ p) (h2 : x ≠ q) : (x : Addr) ∉ ([p, q] : List Addr) := by
  intro h
  rcases List.mem_cons.1 h with h | h
  · exact h1 h
  · rcases List.mem_cons.1 h with h | h
    · exact h2 h
    · cases h
theorem sep_new (I a b : Nat) (h1 : a < I) (h2 : b < I) : ZipSep2 (I + 4) (I + 2) (I + 3) I (I + 1) [I, a] [I + 1, b] where
  TIz := by show (I + 2 : Nat) ≠ I + 4; omega
  TOz := by show (I + 3 : Nat) ≠ I + 4; omega
  TITO := by show (I + 2 : Nat) ≠ I + 3; omega
  TIi1 := by show (I + 2 : Nat) ≠ I; omega
  mem1 := List.mem_cons_self
  zf1 := nin2 _ _ _ (by omega) (by omega)
  Tf1 := nin2 _ _ _ (by omega) (by omega)
  TIi2 := by show (I + 2 : Nat) ≠ I + 1; omega
  mem2 := List.mem_cons_self
  zf2 := nin2 _ _ _ (by omega) (by omega)
  Tf2 := nin2 _ _ _ (by omega) (by omega)
  sep1_2 := nin2 _ _ _ (by omega) (by omega)
  sep2_1 := nin2 _ _ _ (by omega) (by omega)
/-- the list at a and the tuple at b, the items in new pairs -/
def ItzM (K : PySem.W.Frag) (a b : Addr) : It :=
  ⟨fun i H => ∃ (xs ys : List V) (x y : V), SqL K H a xs ∧ SqT K H b ys ∧ xs[i]? = some x ∧ ys[i]? = some y,
    fun i H v H' => ∃ T x y, v = .ref T ∧ H T = none ∧ (∃ its, H' = upd H T (.frz (tupO its) (.tup [x, y]))) ∧ (∀ xs, SqL K H a xs → xs[i]? = some x) ∧ ∀ ys, SqT K H b ys → ys[i]? = some y,
    fun i H => ∃ xs ys : List V, SqL K H a xs ∧ SqT K H b ys ∧ i ≤ xs.length ∧ i ≤ ys.length ∧ (i = xs.length ∨ i = ys.length)⟩
theorem turn_zipM {P : Program} {w : World} {K : PySem.W.Frag} {elts : List Expr} {kk : Nat} {tpos : Pos} {a b z TI TO i1 i2 : Addr} (S : ZipSep2 z TI TO i1 i2 [i1, a] [i2, b]) (hai : a ≠ i1) (hbi : b ≠ i2) :
    Turn P w K (.Tuple elts kk tpos) (ItzM K a b) [z, TI, TO, i1, i2] z (fun i h => IsZip h z TI TO .none ∧ IsTupOf2 h TI (.ref i1) (.ref i2) ∧ (∃ x y, IsTupOf2 h TO x y) ∧ h.IsListIter i1 a i ∧ h.IsTupleIter i2 b i) where
  mem := by simp
  obj := fun i h st c hc => by
    obtain ⟨hz, hTI, ⟨x, y, hTO⟩, ⟨o1, e1, _, d1⟩, ⟨o2, e2, _, d2⟩⟩ := st
    have e' : c = z ∨ c = TI ∨ c = TO ∨ c = i1 ∨ c = i2 := by simpa using hc
    rcases e' with q | q | q | q | q
    · rw [q]; exact ⟨_, hz, fun v q => nomatch q⟩
    · rw [q]; exact ⟨_, hTI, fun v q => nomatch q⟩
    · rw [q]; exact ⟨_, hTO, fun v q => nomatch q⟩
    · rw [q]; exact ⟨o1, e1, fun v q => by rw [d1] at q; cases q⟩
    · rw [q]; exact ⟨o2, e2, fun v q => by rw [d2] at q; cases q⟩
  keep := fun i h h' st k => by
    obtain ⟨hz, hTI, ⟨x, y, hTO⟩, h1, h2⟩ := st
    exact ⟨k z (by simp) _ hz, k TI (by simp) _ hTI, ⟨x, y, k TO (by simp) _ hTO⟩, h1.at fun o q => k i1 (by simp) o q, h2.at fun o q => k i2 (by simp) o q⟩
  item := by
    intro X hP hw hK hc i pins s σ H E I hf st hg
    subst hP hw hK
    obtain ⟨hz, hTI, ⟨x0, y0, hTO⟩, h1, h2⟩ := st
    obtain ⟨xs, ys, x, y, hqx, hqy, hx, hy⟩ := hg
    obtain ⟨its, rv, p, _⟩ := I.list hqx
    obtain ⟨its2, rv2, p2, _⟩ := I.tuple hqy
    obtain ⟨u, hu, ru⟩ := rv.get hx
    obtain ⟨u2, hu2, ru2⟩ := rv2.get hy
    have hzl : z < s.heap.objs.size := Heap.lt_size hz
    have hin : i < its.toArray.size := by
      have := (List.getElem?_eq_some_iff.mp hu).1
      simpa using this
    have hin2 : i < its2.toArray.size := by
      have := (List.getElem?_eq_some_iff.mp hu2).1
      simpa using this
    refine wpAny_pyNext_zipD2_item S (Draws.list (A := X.A.in1) (I.ok.hd hc) i1 a hai its.toArray) (Draws.tuple (A := X.A.in1) (I.ok.hd hc) i2 b hbi its2.toArray) hz hTI hTO ⟨h1, p.isList⟩ ⟨h2, p2⟩ hin hin2 fun y1 y2 h' tk hP1 hP2 z' TO' st1 st2 hT hsz hk => ?_
    have hyu : y1 = u := by
      have e1 : its[i]? = some y1 := by simpa using hP1
      rw [hu] at e1
      exact (Option.some.inj e1).symm
    have hyu2 : y2 = u2 := by
      have e1 : its2[i]? = some y2 := by simpa using hP2
      rw [hu2] at e1
      exact (Option.some.inj e1).symm
    subst hyu hyu2
    refine ⟨_, rfl, wpAny_letOwnedTupleGo_zip (s := { s with heap := h', toks := tk }) z' fun h'' z'' sb => ?_⟩
    have hT2 : h''.get? s.heap.objs.size = some { cls := .type "tuple", data := .seq #[y1, y2] } := (sb.2 _ (Nat.ne_of_gt hzl)).trans hT
    have new : ObjOk X.prog X.w (upd H s.heap.objs.size (.frz (tupO [y1, y2]) (.tup [x, y]))) h'' s.heap.objs.size (.frz (tupO [y1, y2]) (.tup [x, y])) :=
      ⟨hT2, by show 2 ≤ sizeLine; decide, [y1, y2], .cons ru (.cons ru2 .nil), ⟨_, hT2, rfl, _, rfl⟩⟩
    have I1 : Inv X pins σ (upd H s.heap.objs.size (.frz (tupO [y1, y2]) (.tup [x, y]))) { s with heap := h'', toks := tk } :=
      I.turnedNew (ch := [z, TI, TO, i1, i2]) (fun c o hb q => (sb.2 c (fun q' => hb (by simp [q']))).trans (hk c o (fun q' => hb (by simp [q'])) (fun q' => hb (by simp [q'])) (fun q' => hb (by simp [q'])) (fun q' => hb (by simp [q'])) q)) hf (Nat.le_refl _) new
    refine ⟨.ref s.heap.objs.size, _, I1, rfl, ⟨_, x, y, rfl, I.hok.fresh (Nat.le_refl _), ⟨_, rfl⟩, fun l hl => by rw [I.list_inj hl hqx]; exact hx, fun l hl => by rw [I.tuple_inj hl hqy]; exact hy⟩, ⟨z'', ?_, ⟨y1, y2, ?_⟩, ?_, ?_⟩, fun c hcm => ?_⟩
    · exact (sb.2 _ S.TIz).trans (hk _ _ S.TIz S.TITO S.TIi1 S.TIi2 hTI)
    · exact (sb.2 _ S.TOz).trans TO'
    · exact st1.1.at fun o q => (sb.2 _ (Ne.symm S.zi1)).trans q
    · exact st2.1.at fun o q => (sb.2 _ (Ne.symm S.zi2)).trans q
    · have hlt : c < s.heap.objs.size := by
        have e' : c = z ∨ c = TI ∨ c = TO ∨ c = i1 ∨ c = i2 := by simpa using hcm
        rcases e' with q | q | q | q | q
        · rw [q]; exact hzl
        · rw [q]; exact Heap.lt_size hTI
        · rw [q]; exact Heap.lt_size hTO
        · rw [q]; obtain ⟨_, e1, _⟩ := h1; exact Heap.lt_size e1
        · rw [q]; obtain ⟨_, e2, _⟩ := h2; exact Heap.lt_size e2
      rw [upd_ne (Nat.ne_of_lt hlt)]
      exact (hf c hcm).1
  done := by
    intro X hP hw hK hc i pins s σ H E I hf st hg
    subst hP hw hK
    obtain ⟨hz, hTI, ⟨x0, y0, hTO⟩, h1, h2⟩ := st
    obtain ⟨xs, ys, hqx, hqy, hl1, hl2, hend⟩ := hg
    obtain ⟨its, rv, p, _⟩ := I.list hqx
    obtain ⟨its2, rv2, p2, _⟩ := I.tuple hqy
    have l1 := rv.length
    have l2 := rv2.length
    exact wpAny_pyNext_zipD2_end S (Draws.list (A := X.A.in1) (I.ok.hd hc) i1 a hai its.toArray) (Draws.tuple (A := X.A.in1) (I.ok.hd hc) i2 b hbi its2.toArray) hz hTI hTO ⟨h1, p.isList⟩ ⟨h2, p2⟩ (by simp; omega) (by simp; omega) (by simp; omega) fun h' tk hk => ⟨rfl, I.turnedL (t' := tk) (ch := [z, TI, TO, i1, i2]) (fun c o hb q =>
      hk c o (fun q' => hb (by simp [q'])) (fun q' => hb (by simp [q'])) (fun q' => hb (by simp [q'])) (fun q' => hb (by simp [q'])) q) hf⟩
  self := fun A i s Q E st h => wpAny_pyIter_zip st.1 h
def iZipM (K : PySem.W.Frag) (ta : TA) : TI := fun σ H R => ta σ H fun vs H1 => ∃ a b xs ys, vs = [.ref a, .ref b] ∧ SqL K H1 a xs ∧ SqT K H1 b ys ∧ R (ItzM K a b) H1
theorem pi_zipM {X : Cx} {e e2 : Expr} {ta : TA} {p pos tpos : Pos} {elts : List Expr} {kk : Nat} (hg : Gl X "zip") (hm : X.mg "zip" = none) (ha : PA X [e, e2] ta)
    (hs : starEach [e, e2] X.env = (false, eval e X.env) :: starEach [e2] X.env) (hpl : (backTo pos (starEach [e2] X.env)).any (·.1) = false) :
    PI X (.Tuple elts kk tpos) (.Call (.Name "zip" p) [e, e2] [] pos) (iZipM X.K ta) := by
  refine ⟨fun pins s σ H R I h => ?_⟩
  refine Call_ (ld_blt I hg hm PyProof.Rows.boot_zip (PyProof.Rows.callWith_type1 (thn (ha.run pos pins s σ H _ I h) fun us s1 ⟨vs, H1, I1, r1, q1⟩ => ?_) hs hpl))
  obtain ⟨a, b, xs, ys, ex, hqx, hqy, q⟩ := q1
  subst ex
  cases r1 with
  | cons r rr =>
    cases rr with
    | cons r' rr =>
      cases rr
      cases r
      cases r'
      have fresh5 : ∀ c, c ∈ [s1.heap.objs.size + 4, s1.heap.objs.size + 2, s1.heap.objs.size + 3, s1.heap.objs.size, s1.heap.objs.size + 1] → FpOk X pins H1 c := fun c hcm => by
        have e' : c = s1.heap.objs.size + 4 ∨ c = s1.heap.objs.size + 2 ∨ c = s1.heap.objs.size + 3 ∨ c = s1.heap.objs.size ∨ c = s1.heap.objs.size + 1 := by simpa using hcm
        have hle : s1.heap.objs.size ≤ c := by
          rcases e' with z | z | z | z | z
          · rw [z]; exact Nat.le_add_right _ _
          · rw [z]; exact Nat.le_add_right _ _
          · rw [z]; exact Nat.le_add_right _ _
          · rw [z]; exact Nat.le_refl _
          · rw [z]; exact Nat.le_add_right _ _
        exact I1.fpOk hle (I1.hok.fresh hle)
      obtain ⟨its, rv, p1, _⟩ := I1.list hqx
      obtain ⟨its2, rv2, p2, _⟩ := I1.tuple hqy
      refine zip_begins2 (begins_list a its.toArray) (begins_tuple b its2.toArray) p1.isList p2 fun h' hz hTI hTO g1 g2 hsz hk => wpAny_pyIter_zip hz ?_
      have I2 : Inv X pins σ H1 { s1 with heap := h' } := I1.kept (t' := s1.toks) hk
      have la : a < s1.heap.objs.size := p1.lt
      have lb : b < s1.heap.objs.size := p2.lt
      exact ⟨s1.heap.objs.size + 4, [s1.heap.objs.size + 4, s1.heap.objs.size + 2, s1.heap.objs.size + 3, s1.heap.objs.size, s1.heap.objs.size + 1], _, _, H1, rfl, I2, turn_zipM (sep_new _ a b la lb) (Nat.ne_of_lt la) (Nat.ne_of_lt (Nat.lt_succ_of_lt lb)), ⟨hz, hTI, ⟨_, _, hTO⟩, ⟨_, g1, rfl, rfl⟩, ⟨_, g2, rfl, rfl⟩⟩, fresh5, q⟩
theorem walk_zipM {K : PySem.W.Frag} {a b : Addr} {xs ys : List V} : Walk (ItzM K a b) (min xs.length ys.length) (fun H => SqL K H a xs ∧ SqT K H b ys) (YPairD (fun i => xs[i]?) (fun i => ys[i]?)) := by
  refine ⟨fun i _ hi q => ?_, fun _ q => ⟨xs, ys, q.1, q.2, by omega, by omega, by omega⟩, fun i H v H' _ q y => ?_⟩
  · have h1 : i < xs.length := by omega
    have h2 : i < ys.length := by omega
    exact ⟨xs, ys, xs[i], ys[i], q.1, q.2, by simp [h1], by simp [h2]⟩
  · obtain ⟨T, x, z, h1, h2, h3, h4, h5⟩ := y
    exact ⟨T, x, z, h1, h2, h3, h4 xs q.1, h5 ys q.2⟩
/-- the tuple at a and the list at b, the items in new pairs -/
def ItzN (K : PySem.W.Frag) (a b : Addr) : It :=
  ⟨fun i H => ∃ (xs ys : List V) (x y : V), SqT K H a xs ∧ SqL K H b ys ∧ xs[i]? = some x ∧ ys[i]? = some y,
    fun i H v H' => ∃ T x y, v = .ref T ∧ H T = none ∧ (∃ its, H' = upd H T (.frz (tupO its) (.tup [x, y]))) ∧ (∀ xs, SqT K H a xs → xs[i]? = some x) ∧ ∀ ys, SqL K H b ys → ys[i]? = some y,
    fun i H => ∃ xs ys : List V, SqT K H a xs ∧ SqL K H b ys ∧ i ≤ xs.length ∧ i ≤ ys.length ∧ (i = xs.length ∨ i = ys.length)⟩
theorem turn_zipN {P : Program} {w : World} {K : PySem.W.Frag} {elts : List Expr} {kk : Nat} {tpos : Pos} {a b z TI TO i1 i2 : Addr} (S : ZipSep2 z TI TO i1 i2 [i1, a] [i2, b]) (hai : a ≠ i1) (hbi : b ≠ i2) :
    Turn P w K (.Tuple elts kk tpos) (ItzN K a b) [z, TI, TO, i1, i2] z (fun i h => IsZip h z TI TO .none ∧ IsTupOf2 h TI (.ref i1) (.ref i2) ∧ (∃ x y, IsTupOf2 h TO x y) ∧ h.IsTupleIter i1 a i ∧ h.IsListIter i2 b i) where
  mem := by simp
  obj := fun i h st c hc => by
    obtain ⟨hz, hTI, ⟨x, y, hTO⟩, ⟨o1, e1, _, d1⟩, ⟨o2, e2, _, d2⟩⟩ := st
    have e' : c = z ∨ c = TI ∨ c = TO ∨ c = i1 ∨ c = i2 := by simpa using hc
    rcases e' with q | q | q | q | q
    · rw [q]; exact ⟨_, hz, fun v q => nomatch q⟩
    · rw [q]; exact ⟨_, hTI, fun v q => nomatch q⟩
    · rw [q]; exact ⟨_, hTO, fun v q => nomatch q⟩
    · rw [q]; exact ⟨o1, e1, fun v q => by rw [d1] at q; cases q⟩
    · rw [q]; exact ⟨o2, e2, fun v q => by rw [d2] at q; cases q⟩
  keep := fun i h h' st k => by
    obtain ⟨hz, hTI, ⟨x, y, hTO⟩, h1, h2⟩ := st
    exact ⟨k z (by simp) _ hz, k TI (by simp) _ hTI, ⟨x, y, k TO (by simp) _ hTO⟩, h1.at fun o q => k i1 (by simp) o q, h2.at fun o q => k i2 (by simp) o q⟩
  item := by
    intro X hP hw hK hc i pins s σ H E I hf st hg
    subst hP hw hK
    obtain ⟨hz, hTI, ⟨x0, y0, hTO⟩, h1, h2⟩ := st
    obtain ⟨xs, ys, x, y, hqx, hqy, hx, hy⟩ := hg
    obtain ⟨its, rv, p, _⟩ := I.tuple hqx
    obtain ⟨its2, rv2, p2, _⟩ := I.list hqy
    obtain ⟨u, hu, ru⟩ := rv.get hx
    obtain ⟨u2, hu2, ru2⟩ := rv2.get hy
    have hzl : z < s.heap.objs.size := Heap.lt_size hz
    have hin : i < its.toArray.size := by
      have := (List.getElem?_eq_some_iff.mp hu).1
      simpa using this
    have hin2 : i < its2.toArray.size := by
      have := (List.getElem?_eq_some_iff.mp hu2).1
      simpa using this
    refine wpAny_pyNext_zipD2_item S (Draws.tuple (A := X.A.in1) (I.ok.hd hc) i1 a hai its.toArray) (Draws.list (A := X.A.in1) (I.ok.hd hc) i2 b hbi its2.toArray) hz hTI hTO ⟨h1, p⟩ ⟨h2, p2.isList⟩ hin hin2 fun y1 y2 h' tk hP1 hP2 z' TO' st1 st2 hT hsz hk => ?_
    have hyu : y1 = u := by
      have e1 : its[i]? = some y1 := by simpa using hP1
      rw [hu] at e1
      exact (Option.some.inj e1).symm
    have hyu2 : y2 = u2 := by
      have e1 : its2[i]? = some y2 := by simpa using hP2
      rw [hu2] at e1
      exact (Option.some.inj e1).symm
    subst hyu hyu2
    refine ⟨_, rfl, wpAny_letOwnedTupleGo_zip (s := { s with heap := h', toks := tk }) z' fun h'' z'' sb => ?_⟩
    have hT2 : h''.get? s.heap.objs.size = some { cls := .type "tuple", data := .seq #[y1, y2] } := (sb.2 _ (Nat.ne_of_gt hzl)).trans hT
    have new : ObjOk X.prog X.w (upd H s.heap.objs.size (.frz (tupO [y1, y2]) (.tup [x, y]))) h'' s.heap.objs.size (.frz (tupO [y1, y2]) (.tup [x, y])) :=
      ⟨hT2, by show 2 ≤ sizeLine; decide, [y1, y2], .cons ru (.cons ru2 .nil), ⟨_, hT2, rfl, _, rfl⟩⟩
    have I1 : Inv X pins σ (upd H s.heap.objs.size (.frz (tupO [y1, y2]) (.tup [x, y]))) { s with heap := h'', toks := tk } :=
      I.turnedNew (ch := [z, TI, TO, i1, i2]) (fun c o hb q => (sb.2 c (fun q' => hb (by simp [q']))).trans (hk c o (fun q' => hb (by simp [q'])) (fun q' => hb (by simp [q'])) (fun q' => hb (by simp [q'])) (fun q' => hb (by simp [q'])) q)) hf (Nat.le_refl _) new
    refine ⟨.ref s.heap.objs.size, _, I1, rfl, ⟨_, x, y, rfl, I.hok.fresh (Nat.le_refl _), ⟨_, rfl⟩, fun l hl => by rw [I.tuple_inj hl hqx]; exact hx, fun l hl => by rw [I.list_inj hl hqy]; exact hy⟩, ⟨z'', ?_, ⟨y1, y2, ?_⟩, ?_, ?_⟩, fun c hcm => ?_⟩
    · exact (sb.2 _ S.TIz).trans (hk _ _ S.TIz S.TITO S.TIi1 S.TIi2 hTI)
    · exact (sb.2 _ S.TOz).trans TO'
    · exact st1.1.at fun o q => (sb.2 _ (Ne.symm S.zi1)).trans q
    · exact st2.1.at fun o q => (sb.2 _ (Ne.symm S.zi2)).trans q
    · have hlt : c < s.heap.objs.size := by
        have e' : c = z ∨ c = TI ∨ c = TO ∨ c = i1 ∨ c = i2 := by simpa using hcm
        rcases e' with q | q | q | q | q
        · rw [q]; exact hzl
        · rw [q]; exact Heap.lt_size hTI
        · rw [q]; exact Heap.lt_size hTO
        · rw [q]; obtain ⟨_, e1, _⟩ := h1; exact Heap.lt_size e1
        · rw [q]; obtain ⟨_, e2, _⟩ := h2; exact Heap.lt_size e2
      rw [upd_ne (Nat.ne_of_lt hlt)]
      exact (hf c hcm).1
  done := by
    intro X hP hw hK hc i pins s σ H E I hf st hg
    subst hP hw hK
    obtain ⟨hz, hTI, ⟨x0, y0, hTO⟩, h1, h2⟩ := st
    obtain ⟨xs, ys, hqx, hqy, hl1, hl2, hend⟩ := hg
    obtain ⟨its, rv, p, _⟩ := I.tuple hqx
    obtain ⟨its2, rv2, p2, _⟩ := I.list hqy
    have l1 := rv.length
    have l2 := rv2.length
    exact wpAny_pyNext_zipD2_end S (Draws.tuple (A := X.A.in1) (I.ok.hd hc) i1 a hai its.toArray) (Draws.list (A := X.A.in1) (I.ok.hd hc) i2 b hbi its2.toArray) hz hTI hTO ⟨h1, p⟩ ⟨h2, p2.isList⟩ (by simp; omega) (by simp; omega) (by simp; omega) fun h' tk hk => ⟨rfl, I.turnedL (t' := tk) (ch := [z, TI, TO, i1, i2]) (fun c o hb q =>
      hk c o (fun q' => hb (by simp [q'])) (fun q' => hb (by simp [q'])) (fun q' => hb (by simp [q'])) (fun q' => hb (by simp [q'])) q) hf⟩
  self := fun A i s Q E st h => wpAny_pyIter_zip st.1 h
def iZipN (K : PySem.W.Frag) (ta : TA) : TI := fun σ H R => ta σ H fun vs H1 => ∃ a b xs ys, vs = [.ref a, .ref b] ∧ SqT K H1 a xs ∧ SqL K H1 b ys ∧ R (ItzN K a b) H1
theorem pi_zipN {X : Cx} {e e2 : Expr} {ta : TA} {p pos tpos : Pos} {elts : List Expr} {kk : Nat} (hg : Gl X "zip") (hm : X.mg "zip" = none) (ha : PA X [e, e2] ta)
    (hs : starEach [e, e2] X.env = (false, eval e X.env) :: starEach [e2] X.env) (hpl : (backTo pos (starEach [e2] X.env)).any (·.1) = false) :
    PI X (.Tuple elts kk tpos) (.Call (.Name "zip" p) [e, e2] [] pos) (iZipN X.K ta) := by
  refine ⟨fun pins s σ H R I h => ?_⟩
  refine Call_ (ld_blt I hg hm PyProof.Rows.boot_zip (PyProof.Rows.callWith_type1 (thn (ha.run pos pins s σ H _ I h) fun us s1 ⟨vs, H1, I1, r1, q1⟩ => ?_) hs hpl))
  obtain ⟨a, b, xs, ys, ex, hqx, hqy, q⟩ := q1
  subst ex
  cases r1 with
  | cons r rr =>
    cases rr with
    | cons r' rr =>
      cases rr
      cases r
      cases r'
      have fresh5 : ∀ c, c ∈ [s1.heap.objs.size + 4, s1.heap.objs.size + 2, s1.heap.objs.size + 3, s1.heap.objs.size, s1.heap.objs.size + 1] → FpOk X pins H1 c := fun c hcm => by
        have e' : c = s1.heap.objs.size + 4 ∨ c = s1.heap.objs.size + 2 ∨ c = s1.heap.objs.size + 3 ∨ c = s1.heap.objs.size ∨ c = s1.heap.objs.size + 1 := by simpa using hcm
        have hle : s1.heap.objs.size ≤ c := by
          rcases e' with z | z | z | z | z
          · rw [z]; exact Nat.le_add_right _ _
          · rw [z]; exact Nat.le_add_right _ _
          · rw [z]; exact Nat.le_add_right _ _
          · rw [z]; exact Nat.le_refl _
          · rw [z]; exact Nat.le_add_right _ _
        exact I1.fpOk hle (I1.hok.fresh hle)
      obtain ⟨its, rv, p1, _⟩ := I1.tuple hqx
      obtain ⟨its2, rv2, p2, _⟩ := I1.list hqy
      refine zip_begins2 (begins_tuple a its.toArray) (begins_list b its2.toArray) p1 p2.isList fun h' hz hTI hTO g1 g2 hsz hk => wpAny_pyIter_zip hz ?_
      have I2 : Inv X pins σ H1 { s1 with heap := h' } := I1.kept (t' := s1.toks) hk
      have la : a < s1.heap.objs.size := p1.lt
      have lb : b < s1.heap.objs.size := p2.lt
      exact ⟨s1.heap.objs.size + 4, [s1.heap.objs.size + 4, s1.heap.objs.size + 2, s1.heap.objs.size + 3, s1.heap.objs.size, s1.heap.objs.size + 1], _, _, H1, rfl, I2, turn_zipN (sep_new _ a b la lb) (Nat.ne_of_lt la) (Nat.ne_of_lt (Nat.lt_succ_of_lt lb)), ⟨hz, hTI, ⟨_, _, hTO⟩, ⟨_, g1, rfl, rfl⟩, ⟨_, g2, rfl, rfl⟩⟩, fresh5, q⟩
theorem walk_zipN {K : PySem.W.Frag} {a b : Addr} {xs ys : List V} : Walk (ItzN K a b) (min xs.length ys.length) (fun H => SqT K H a xs ∧ SqL K H b ys) (YPairD (fun i => xs[i]?) (fun i => ys[i]?)) := by
  refine ⟨fun i _ hi q => ?_, fun _ q => ⟨xs, ys, q.1, q.2, by omega, by omega, by omega⟩, fun i H v H' _ q y => ?_⟩
  · have h1 : i < xs.length := by omega
    have h2 : i < ys.length := by omega
    exact ⟨xs, ys, xs[i], ys[i], q.1, q.2, by simp [h1], by simp [h2]⟩
  · obtain ⟨T, x, z, h1, h2, h3, h4, h5⟩ := y
    exact ⟨T, x, z, h1, h2, h3, h4 xs q.1, h5 ys q.2⟩
/-- the list at a and the list at b, the items in new pairs -/
def ItzL (K : PySem.W.Frag) (a b : Addr) : It :=
  ⟨fun i H => ∃ (xs ys : List V) (x y : V), SqL K H a xs ∧ SqL K H b ys ∧ xs[i]? = some x ∧ ys[i]? = some y,
    fun i H v H' => ∃ T x y, v = .ref T ∧ H T = none ∧ (∃ its, H' = upd H T (.frz (tupO its) (.tup [x, y]))) ∧ (∀ xs, SqL K H a xs → xs[i]? = some x) ∧ ∀ ys, SqL K H b ys → ys[i]? = some y,
    fun i H => ∃ xs ys : List V, SqL K H a xs ∧ SqL K H b ys ∧ i ≤ xs.length ∧ i ≤ ys.length ∧ (i = xs.length ∨ i = ys.length)⟩
theorem turn_zipL {P : Program} {w : World} {K : PySem.W.Frag} {elts : List Expr} {kk : Nat} {tpos : Pos} {a b z TI TO i1 i2 : Addr} (S : ZipSep2 z TI TO i1 i2 [i1, a] [i2, b]) (hai : a ≠ i1) (hbi : b ≠ i2) :
    Turn P w K (.Tuple elts kk tpos) (ItzL K a b) [z, TI, TO, i1, i2] z (fun i h => IsZip h z TI TO .none ∧ IsTupOf2 h TI (.ref i1) (.ref i2) ∧ (∃ x y, IsTupOf2 h TO x y) ∧ h.IsListIter i1 a i ∧ h.IsListIter i2 b i) where
  mem := by simp
  obj := fun i h st c hc => by
    obtain ⟨hz, hTI, ⟨x, y, hTO⟩, ⟨o1, e1, _, d1⟩, ⟨o2, e2, _, d2⟩⟩ := st
    have e' : c = z ∨ c = TI ∨ c = TO ∨ c = i1 ∨ c = i2 := by simpa using hc
    rcases e' with q | q | q | q | q
    · rw [q]; exact ⟨_, hz, fun v q => nomatch q⟩
    · rw [q]; exact ⟨_, hTI, fun v q => nomatch q⟩
    · rw [q]; exact ⟨_, hTO, fun v q => nomatch q⟩
    · rw [q]; exact ⟨o1, e1, fun v q => by rw [d1] at q; cases q⟩
    · rw [q]; exact ⟨o2, e2, fun v q => by rw [d2] at q; cases q⟩
  keep := fun i h h' st k => by
    obtain ⟨hz, hTI, ⟨x, y, hTO⟩, h1, h2⟩ := st
    exact ⟨k z (by simp) _ hz, k TI (by simp) _ hTI, ⟨x, y, k TO (by simp) _ hTO⟩, h1.at fun o q => k i1 (by simp) o q, h2.at fun o q => k i2 (by simp) o q⟩
  item := by
    intro X hP hw hK hc i pins s σ H E I hf st hg
    subst hP hw hK
    obtain ⟨hz, hTI, ⟨x0, y0, hTO⟩, h1, h2⟩ := st
    obtain ⟨xs, ys, x, y, hqx, hqy, hx, hy⟩ := hg
    obtain ⟨its, rv, p, _⟩ := I.list hqx
    obtain ⟨its2, rv2, p2, _⟩ := I.list hqy
    obtain ⟨u, hu, ru⟩ := rv.get hx
    obtain ⟨u2, hu2, ru2⟩ := rv2.get hy
    have hzl : z < s.heap.objs.size := Heap.lt_size hz
    have hin : i < its.toArray.size := by
      have := (List.getElem?_eq_some_iff.mp hu).1
      simpa using this
    have hin2 : i < its2.toArray.size := by
      have := (List.getElem?_eq_some_iff.mp hu2).1
      simpa using this
    refine wpAny_pyNext_zipD2_item S (Draws.list (A := X.A.in1) (I.ok.hd hc) i1 a hai its.toArray) (Draws.list (A := X.A.in1) (I.ok.hd hc) i2 b hbi its2.toArray) hz hTI hTO ⟨h1, p.isList⟩ ⟨h2, p2.isList⟩ hin hin2 fun y1 y2 h' tk hP1 hP2 z' TO' st1 st2 hT hsz hk => ?_
    have hyu : y1 = u := by
      have e1 : its[i]? = some y1 := by simpa using hP1
      rw [hu] at e1
      exact (Option.some.inj e1).symm
    have hyu2 : y2 = u2 := by
      have e1 : its2[i]? = some y2 := by simpa using hP2
      rw [hu2] at e1
      exact (Option.some.inj e1).symm
    subst hyu hyu2
    refine ⟨_, rfl, wpAny_letOwnedTupleGo_zip (s := { s with heap := h', toks := tk }) z' fun h'' z'' sb => ?_⟩
    have hT2 : h''.get? s.heap.objs.size = some { cls := .type "tuple", data := .seq #[y1, y2] } := (sb.2 _ (Nat.ne_of_gt hzl)).trans hT
    have new : ObjOk X.prog X.w (upd H s.heap.objs.size (.frz (tupO [y1, y2]) (.tup [x, y]))) h'' s.heap.objs.size (.frz (tupO [y1, y2]) (.tup [x, y])) :=
      ⟨hT2, by show 2 ≤ sizeLine; decide, [y1, y2], .cons ru (.cons ru2 .nil), ⟨_, hT2, rfl, _, rfl⟩⟩
    have I1 : Inv X pins σ (upd H s.heap.objs.size (.frz (tupO [y1, y2]) (.tup [x, y]))) { s with heap := h'', toks := tk } :=
      I.turnedNew (ch := [z, TI, TO, i1, i2]) (fun c o hb q => (sb.2 c (fun q' => hb (by simp [q']))).trans (hk c o (fun q' => hb (by simp [q'])) (fun q' => hb (by simp [q'])) (fun q' => hb (by simp [q'])) (fun q' => hb (by simp [q'])) q)) hf (Nat.le_refl _) new
    refine ⟨.ref s.heap.objs.size, _, I1, rfl, ⟨_, x, y, rfl, I.hok.fresh (Nat.le_refl _), ⟨_, rfl⟩, fun l hl => by rw [I.list_inj hl hqx]; exact hx, fun l hl => by rw [I.list_inj hl hqy]; exact hy⟩, ⟨z'', ?_, ⟨y1, y2, ?_⟩, ?_, ?_⟩, fun c hcm => ?_⟩
    · exact (sb.2 _ S.TIz).trans (hk _ _ S.TIz S.TITO S.TIi1 S.TIi2 hTI)
    · exact (sb.2 _ S.TOz).trans TO'
    · exact st1.1.at fun o q => (sb.2 _ (Ne.symm S.zi1)).trans q
    · exact st2.1.at fun o q => (sb.2 _ (Ne.symm S.zi2)).trans q
    · have hlt : c < s.heap.objs.size := by
        have e' : c = z ∨ c = TI ∨ c = TO ∨ c = i1 ∨ c = i2 := by simpa using hcm
        rcases e' with q | q | q | q | q
        · rw [q]; exact hzl
        · rw [q]; exact Heap.lt_size hTI
        · rw [q]; exact Heap.lt_size hTO
        · rw [q]; obtain ⟨_, e1, _⟩ := h1; exact Heap.lt_size e1
        · rw [q]; obtain ⟨_, e2, _⟩ := h2; exact Heap.lt_size e2
      rw [upd_ne (Nat.ne_of_lt hlt)]
      exact (hf c hcm).1
  done := by
    intro X hP hw hK hc i pins s σ H E I hf st hg
    subst hP hw hK
    obtain ⟨hz, hTI, ⟨x0, y0, hTO⟩, h1, h2⟩ := st
    obtain ⟨xs, ys, hqx, hqy, hl1, hl2, hend⟩ := hg
    obtain ⟨its, rv, p, _⟩ := I.list hqx
    obtain ⟨its2, rv2, p2, _⟩ := I.list hqy
    have l1 := rv.length
    have l2 := rv2.length
    exact wpAny_pyNext_zipD2_end S (Draws.list (A := X.A.in1) (I.ok.hd hc) i1 a hai its.toArray) (Draws.list (A := X.A.in1) (I.ok.hd hc) i2 b hbi its2.toArray) hz hTI hTO ⟨h1, p.isList⟩ ⟨h2, p2.isList⟩ (by simp; omega) (by simp; omega) (by simp; omega) fun h' tk hk => ⟨rfl, I.turnedL (t' := tk) (ch := [z, TI, TO, i1, i2]) (fun c o hb q =>
      hk c o (fun q' => hb (by simp [q'])) (fun q' => hb (by simp [q'])) (fun q' => hb (by simp [q'])) (fun q' => hb (by simp [q'])) q) hf⟩
  self := fun A i s Q E st h => wpAny_pyIter_zip st.1 h
def iZipL (K : PySem.W.Frag) (ta : TA) : TI := fun σ H R => ta σ H fun vs H1 => ∃ a b xs ys, vs = [.ref a, .ref b] ∧ SqL K H1 a xs ∧ SqL K H1 b ys ∧ R (ItzL K a b) H1
theorem pi_zipL {X : Cx} {e e2 : Expr} {ta : TA} {p pos tpos : Pos} {elts : List Expr} {kk : Nat} (hg : Gl X "zip") (hm : X.mg "zip" = none) (ha : PA X [e, e2] ta)
    (hs : starEach [e, e2] X.env = (false, eval e X.env) :: starEach [e2] X.env) (hpl : (backTo pos (starEach [e2] X.env)).any (·.1) = false) :
    PI X (.Tuple elts kk tpos) (.Call (.Name "zip" p) [e, e2] [] pos) (iZipL X.K ta) := by
  refine ⟨fun pins s σ H R I h => ?_⟩
  refine Call_ (ld_blt I hg hm PyProof.Rows.boot_zip (PyProof.Rows.callWith_type1 (thn (ha.run pos pins s σ H _ I h) fun us s1 ⟨vs, H1, I1, r1, q1⟩ => ?_) hs hpl))
  obtain ⟨a, b, xs, ys, ex, hqx, hqy, q⟩ := q1
  subst ex
  cases r1 with
  | cons r rr =>
    cases rr with
    | cons r' rr =>
      cases rr
      cases r
      cases r'
      have fresh5 : ∀ c, c ∈ [s1.heap.objs.size + 4, s1.heap.objs.size + 2, s1.heap.objs.size + 3, s1.heap.objs.size, s1.heap.objs.size + 1] → FpOk X pins H1 c := fun c hcm => by
        have e' : c = s1.heap.objs.size + 4 ∨ c = s1.heap.objs.size + 2 ∨ c = s1.heap.objs.size + 3 ∨ c = s1.heap.objs.size ∨ c = s1.heap.objs.size + 1 := by simpa using hcm
        have hle : s1.heap.objs.size ≤ c := by
          rcases e' with z | z | z | z | z
          · rw [z]; exact Nat.le_add_right _ _
          · rw [z]; exact Nat.le_add_right _ _
          · rw [z]; exact Nat.le_add_right _ _
          · rw [z]; exact Nat.le_refl _
          · rw [z]; exact Nat.le_add_right _ _
        exact I1.fpOk hle (I1.hok.fresh hle)
      obtain ⟨its, rv, p1, _⟩ := I1.list hqx
      obtain ⟨its2, rv2, p2, _⟩ := I1.list hqy
      refine zip_begins2 (begins_list a its.toArray) (begins_list b its2.toArray) p1.isList p2.isList fun h' hz hTI hTO g1 g2 hsz hk => wpAny_pyIter_zip hz ?_
      have I2 : Inv X pins σ H1 { s1 with heap := h' } := I1.kept (t' := s1.toks) hk
      have la : a < s1.heap.objs.size := p1.lt
      have lb : b < s1.heap.objs.size := p2.lt
      exact ⟨s1.heap.objs.size + 4, [s1.heap.objs.size + 4, s1.heap.objs.size + 2, s1.heap.objs.size + 3, s1.heap.objs.size, s1.heap.objs.size + 1], _, _, H1, rfl, I2, turn_zipL (sep_new _ a b la lb) (Nat.ne_of_lt la) (Nat.ne_of_lt (Nat.lt_succ_of_lt lb)), ⟨hz, hTI, ⟨_, _, hTO⟩, ⟨_, g1, rfl, rfl⟩, ⟨_, g2, rfl, rfl⟩⟩, fresh5, q⟩
theorem walk_zipL {K : PySem.W.Frag} {a b : Addr} {xs ys : List V} : Walk (ItzL K a b) (min xs.length ys.length) (fun H => SqL K H a xs ∧ SqL K H b ys) (YPairD (fun i => xs[i]?) (fun i => ys[i]?)) := by
  refine ⟨fun i _ hi q => ?_, fun _ q => ⟨xs, ys, q.1, q.2, by omega, by omega, by omega⟩, fun i H v H' _ q y => ?_⟩
  · have h1 : i < xs.length := by omega
    have h2 : i < ys.length := by omega
    exact ⟨xs, ys, xs[i], ys[i], q.1, q.2, by simp [h1], by simp [h2]⟩
  · obtain ⟨T, x, z, h1, h2, h3, h4, h5⟩ := y
    exact ⟨T, x, z, h1, h2, h3, h4 xs q.1, h5 ys q.2⟩
/-- the tuple at a and the tuple at b, the items in new pairs -/
def ItzT (K : PySem.W.Frag) (a b : Addr) : It :=
  ⟨fun i H => ∃ (xs ys : List V) (x y : V), SqT K H a xs ∧ SqT K H b ys ∧ xs[i]? = some x ∧ ys[i]? = some y,
    fun i H v H' => ∃ T x y, v = .ref T ∧ H T = none ∧ (∃ its, H' = upd H T (.frz (tupO its) (.tup [x, y]))) ∧ (∀ xs, SqT K H a xs → xs[i]? = some x) ∧ ∀ ys, SqT K H b ys → ys[i]? = some y,
    fun i H => ∃ xs ys : List V, SqT K H a xs ∧ SqT K H b ys ∧ i ≤ xs.length ∧ i ≤ ys.length ∧ (i = xs.length ∨ i = ys.length)⟩
theorem turn_zipT {P : Program} {w : World} {K : PySem.W.Frag} {elts : List Expr} {kk : Nat} {tpos : Pos} {a b z TI TO i1 i2 : Addr} (S : ZipSep2 z TI TO i1 i2 [i1, a] [i2, b]) (hai : a ≠ i1) (hbi : b ≠ i2) :
    Turn P w K (.Tuple elts kk tpos) (ItzT K a b) [z, TI, TO, i1, i2] z (fun i h => IsZip h z TI TO .none ∧ IsTupOf2 h TI (.ref i1) (.ref i2) ∧ (∃ x y, IsTupOf2 h TO x y) ∧ h.IsTupleIter i1 a i ∧ h.IsTupleIter i2 b i) where
  mem := by simp
  obj := fun i h st c hc => by
    obtain ⟨hz, hTI, ⟨x, y, hTO⟩, ⟨o1, e1, _, d1⟩, ⟨o2, e2, _, d2⟩⟩ := st
    have e' : c = z ∨ c = TI ∨ c = TO ∨ c = i1 ∨ c = i2 := by simpa using hc
    rcases e' with q | q | q | q | q
    · rw [q]; exact ⟨_, hz, fun v q => nomatch q⟩
    · rw [q]; exact ⟨_, hTI, fun v q => nomatch q⟩
    · rw [q]; exact ⟨_, hTO, fun v q => nomatch q⟩
    · rw [q]; exact ⟨o1, e1, fun v q => by rw [d1] at q; cases q⟩
    · rw [q]; exact ⟨o2, e2, fun v q => by rw [d2] at q; cases q⟩
  keep := fun i h h' st k => by
    obtain ⟨hz, hTI, ⟨x, y, hTO⟩, h1, h2⟩ := st
    exact ⟨k z (by simp) _ hz, k TI (by simp) _ hTI, ⟨x, y, k TO (by simp) _ hTO⟩, h1.at fun o q => k i1 (by simp) o q, h2.at fun o q => k i2 (by simp) o q⟩
  item := by
    intro X hP hw hK hc i pins s σ H E I hf st hg
    subst hP hw hK
    obtain ⟨hz, hTI, ⟨x0, y0, hTO⟩, h1, h2⟩ := st
    obtain ⟨xs, ys, x, y, hqx, hqy, hx, hy⟩ := hg
    obtain ⟨its, rv, p, _⟩ := I.tuple hqx
    obtain ⟨its2, rv2, p2, _⟩ := I.tuple hqy
    obtain ⟨u, hu, ru⟩ := rv.get hx
    obtain ⟨u2, hu2, ru2⟩ := rv2.get hy
    have hzl : z < s.heap.objs.size := Heap.lt_size hz
    have hin : i < its.toArray.size := by
      have := (List.getElem?_eq_some_iff.mp hu).1
      simpa using this
    have hin2 : i < its2.toArray.size := by
      have := (List.getElem?_eq_some_iff.mp hu2).1
      simpa using this
    refine wpAny_pyNext_zipD2_item S (Draws.tuple (A := X.A.in1) (I.ok.hd hc) i1 a hai its.toArray) (Draws.tuple (A := X.A.in1) (I.ok.hd hc) i2 b hbi its2.toArray) hz hTI hTO ⟨h1, p⟩ ⟨h2, p2⟩ hin hin2 fun y1 y2 h' tk hP1 hP2 z' TO' st1 st2 hT hsz hk => ?_
    have hyu : y1 = u := by
      have e1 : its[i]? = some y1 := by simpa using hP1
      rw [hu] at e1
      exact (Option.some.inj e1).symm
    have hyu2 : y2 = u2 := by
      have e1 : its2[i]? = some y2 := by simpa using hP2
      rw [hu2] at e1
      exact (Option.some.inj e1).symm
    subst hyu hyu2
    refine ⟨_, rfl, wpAny_letOwnedTupleGo_zip (s := { s with heap := h', toks := tk }) z' fun h'' z'' sb => ?_⟩
    have hT2 : h''.get? s.heap.objs.size = some { cls := .type "tuple", data := .seq #[y1, y2] } := (sb.2 _ (Nat.ne_of_gt hzl)).trans hT
    have new : ObjOk X.prog X.w (upd H s.heap.objs.size (.frz (tupO [y1, y2]) (.tup [x, y]))) h'' s.heap.objs.size (.frz (tupO [y1, y2]) (.tup [x, y])) :=
      ⟨hT2, by show 2 ≤ sizeLine; decide, [y1, y2], .cons ru (.cons ru2 .nil), ⟨_, hT2, rfl, _, rfl⟩⟩
    have I1 : Inv X pins σ (upd H s.heap.objs.size (.frz (tupO [y1, y2]) (.tup [x, y]))) { s with heap := h'', toks := tk } :=
      I.turnedNew (ch := [z, TI, TO, i1, i2]) (fun c o hb q => (sb.2 c (fun q' => hb (by simp [q']))).trans (hk c o (fun q' => hb (by simp [q'])) (fun q' => hb (by simp [q'])) (fun q' => hb (by simp [q'])) (fun q' => hb (by simp [q'])) q)) hf (Nat.le_refl _) new
    refine ⟨.ref s.heap.objs.size, _, I1, rfl, ⟨_, x, y, rfl, I.hok.fresh (Nat.le_refl _), ⟨_, rfl⟩, fun l hl => by rw [I.tuple_inj hl hqx]; exact hx, fun l hl => by rw [I.tuple_inj hl hqy]; exact hy⟩, ⟨z'', ?_, ⟨y1, y2, ?_⟩, ?_, ?_⟩, fun c hcm => ?_⟩
    · exact (sb.2 _ S.TIz).trans (hk _ _ S.TIz S.TITO S.TIi1 S.TIi2 hTI)
    · exact (sb.2 _ S.TOz).trans TO'
    · exact st1.1.at fun o q => (sb.2 _ (Ne.symm S.zi1)).trans q
    · exact st2.1.at fun o q => (sb.2 _ (Ne.symm S.zi2)).trans q
    · have hlt : c < s.heap.objs.size := by
        have e' : c = z ∨ c = TI ∨ c = TO ∨ c = i1 ∨ c = i2 := by simpa using hcm
        rcases e' with q | q | q | q | q
        · rw [q]; exact hzl
        · rw [q]; exact Heap.lt_size hTI
        · rw [q]; exact Heap.lt_size hTO
        · rw [q]; obtain ⟨_, e1, _⟩ := h1; exact Heap.lt_size e1
        · rw [q]; obtain ⟨_, e2, _⟩ := h2; exact Heap.lt_size e2
      rw [upd_ne (Nat.ne_of_lt hlt)]
      exact (hf c hcm).1
  done := by
    intro X hP hw hK hc i pins s σ H E I hf st hg
    subst hP hw hK
    obtain ⟨hz, hTI, ⟨x0, y0, hTO⟩, h1, h2⟩ := st
    obtain ⟨xs, ys, hqx, hqy, hl1, hl2, hend⟩ := hg
    obtain ⟨its, rv, p, _⟩ := I.tuple hqx
    obtain ⟨its2, rv2, p2, _⟩ := I.tuple hqy
    have l1 := rv.length
    have l2 := rv2.length
    exact wpAny_pyNext_zipD2_end S (Draws.tuple (A := X.A.in1) (I.ok.hd hc) i1 a hai its.toArray) (Draws.tuple (A := X.A.in1) (I.ok.hd hc) i2 b hbi its2.toArray) hz hTI hTO ⟨h1, p⟩ ⟨h2, p2⟩ (by simp; omega) (by simp; omega) (by simp; omega) fun h' tk hk => ⟨rfl, I.turnedL (t' := tk) (ch := [z, TI, TO, i1, i2]) (fun c o hb q =>
      hk c o (fun q' => hb (by simp [q'])) (fun q' => hb (by simp [q'])) (fun q' => hb (by simp [q'])) (fun q' => hb (by simp [q'])) q) hf⟩
  self := fun A i s Q E st h => wpAny_pyIter_zip st.1 h
def iZipT (K : PySem.W.Frag) (ta : TA) : TI := fun σ H R => ta σ H fun vs H1 => ∃ a b xs ys, vs = [.ref a, .ref b] ∧ SqT K H1 a xs ∧ SqT K H1 b ys ∧ R (ItzT K a b) H1
theorem pi_zipT {X : Cx} {e e2 : Expr} {ta : TA} {p pos tpos : Pos} {elts : List Expr} {kk : Nat} (hg : Gl X "zip") (hm : X.mg "zip" = none) (ha : PA X [e, e2] ta)
    (hs : starEach [e, e2] X.env = (false, eval e X.env) :: starEach [e2] X.env) (hpl : (backTo pos (starEach [e2] X.env)).any (·.1) = false) :
    PI X (.Tuple elts kk tpos) (.Call (.Name "zip" p) [e, e2] [] pos) (iZipT X.K ta) := by
  refine ⟨fun pins s σ H R I h => ?_⟩
  refine Call_ (ld_blt I hg hm PyProof.Rows.boot_zip (PyProof.Rows.callWith_type1 (thn (ha.run pos pins s σ H _ I h) fun us s1 ⟨vs, H1, I1, r1, q1⟩ => ?_) hs hpl))
  obtain ⟨a, b, xs, ys, ex, hqx, hqy, q⟩ := q1
  subst ex
  cases r1 with
  | cons r rr =>
    cases rr with
    | cons r' rr =>
      cases rr
      cases r
      cases r'
      have fresh5 : ∀ c, c ∈ [s1.heap.objs.size + 4, s1.heap.objs.size + 2, s1.heap.objs.size + 3, s1.heap.objs.size, s1.heap.objs.size + 1] → FpOk X pins H1 c := fun c hcm => by
        have e' : c = s1.heap.objs.size + 4 ∨ c = s1.heap.objs.size + 2 ∨ c = s1.heap.objs.size + 3 ∨ c = s1.heap.objs.size ∨ c = s1.heap.objs.size + 1 := by simpa using hcm
        have hle : s1.heap.objs.size ≤ c := by
          rcases e' with z | z | z | z | z
          · rw [z]; exact Nat.le_add_right _ _
          · rw [z]; exact Nat.le_add_right _ _
          · rw [z]; exact Nat.le_add_right _ _
          · rw [z]; exact Nat.le_refl _
          · rw [z]; exact Nat.le_add_right _ _
        exact I1.fpOk hle (I1.hok.fresh hle)
      obtain ⟨its, rv, p1, _⟩ := I1.tuple hqx
      obtain ⟨its2, rv2, p2, _⟩ := I1.tuple hqy
      refine zip_begins2 (begins_tuple a its.toArray) (begins_tuple b its2.toArray) p1 p2 fun h' hz hTI hTO g1 g2 hsz hk => wpAny_pyIter_zip hz ?_
      have I2 : Inv X pins σ H1 { s1 with heap := h' } := I1.kept (t' := s1.toks) hk
      have la : a < s1.heap.objs.size := p1.lt
      have lb : b < s1.heap.objs.size := p2.lt
      exact ⟨s1.heap.objs.size + 4, [s1.heap.objs.size + 4, s1.heap.objs.size + 2, s1.heap.objs.size + 3, s1.heap.objs.size, s1.heap.objs.size + 1], _, _, H1, rfl, I2, turn_zipT (sep_new _ a b la lb) (Nat.ne_of_lt la) (Nat.ne_of_lt (Nat.lt_succ_of_lt lb)), ⟨hz, hTI, ⟨_, _, hTO⟩, ⟨_, g1, rfl, rfl⟩, ⟨_, g2, rfl, rfl⟩⟩, fresh5, q⟩
theorem walk_zipT {K : PySem.W.Frag} {a b : Addr} {xs ys : List V} : Walk (ItzT K a b) (min xs.length ys.length) (fun H => SqT K H a xs ∧ SqT K H b ys) (YPairD (fun i => xs[i]?) (fun i => ys[i]?)) := by
  refine ⟨fun i _ hi q => ?_, fun _ q => ⟨xs, ys, q.1, q.2, by omega, by omega, by omega⟩, fun i H v H' _ q y => ?_⟩
  · have h1 : i < xs.length := by omega
    have h2 : i < ys.length := by omega
    exact ⟨xs, ys, xs[i], ys[i], q.1, q.2, by simp [h1], by simp [h2]⟩
  · obtain ⟨T, x, z, h1, h2, h3, h4, h5⟩ := y
    exact ⟨T, x, z, h1, h2, h3, h4 xs q.1, h5 ys q.2⟩
section
variable {G : List Fn} {C : Ctx} {X : Cx} {B : Wd} {Z Z1 Z3 : Zn} {H H1 H2 : Hp} {σ : L2.St} {env e1 e2 : Env} {Os Os1 Os2 : List (List Addr)} {mu2 ra rb : List Nat} {x y : V} {ma mb : M} {O1 O2 : List Addr} {ys zs : List D} {a b : E} {xa xb : Expr} {pos p : Pos}
theorem zip_tail (q1 : Sat B Z1 σ H1 e1 Os1) (r1 : RM B Z1 H1 x ma O1) (hO1 : ∀ a ∈ O1, Z1 a ∨ ∃ i ∈ ra, ∃ Oi, Os1[i]? = some Oi ∧ a ∈ Oi) (s3 : Step mu2 Z1 H1 e1 Os1 Z3 H2 e2 Os2)
    (r3 : RM B Z3 H2 y mb O2) (hO2 : ∀ a ∈ O2, Z3 a ∨ ∃ i ∈ rb, ∃ Oi, Os2[i]? = some Oi ∧ a ∈ Oi) (ap : apart ra mu2 = true) (h1 : ma.seq = .ok ys) (h2 : mb.seq = .ok zs) :
    (∃ pa vs, x = .ref pa ∧ RpL B Z3 H2 vs ys ∧ ((ma ≠ .pu (.tuple ys) ∧ ∀ Z2 H3, Later (ra ++ rb) Os2 Z3 H2 Z2 H3 → SqL B.K H3 pa vs) ∨ (ma = .pu (.tuple ys) ∧ ∀ Z2 H3, Later (ra ++ rb) Os2 Z3 H2 Z2 H3 → SqT B.K H3 pa vs))) ∧
    ∃ pb ws, y = .ref pb ∧ RpL B Z3 H2 ws zs ∧ ((mb ≠ .pu (.tuple zs) ∧ ∀ Z2 H3, Later (ra ++ rb) Os2 Z3 H2 Z2 H3 → SqL B.K H3 pb ws) ∨ (mb = .pu (.tuple zs) ∧ ∀ Z2 H3, Later (ra ++ rb) Os2 Z3 H2 Z2 H3 → SqT B.K H3 pb ws)) := by
  have hn : ∀ i ∈ ra, i ∉ mu2 := fun i hi => by
    unfold apart at ap
    simpa using List.all_eq_true.mp ap i hi
  have r : RM B Z3 H2 x ma O1 := by
    refine r1.stay (s3.stay q1) s3.zz fun a o ha e => ?_
    rcases hO1 a ha with z | ⟨i, hi, Oi, h3, h4⟩
    · exact (s3.stay q1).z _ _ z e
    · rw [(s3.slot i (hn i hi)).2.2 Oi h3 a h4]; exact e
  refine ⟨later_lst r (fun a ha => ?_) h1, later_lst r3 (fun a ha => ?_) h2⟩
  · rcases hO1 a ha with z | ⟨i, hi, Oi, h3, h4⟩
    · exact .inl (s3.zz a z)
    · exact .inr ⟨i, List.mem_append_left _ hi, Oi, (s3.slot i (hn i hi)).2.1.trans h3, h4⟩
  · rcases hO2 a ha with z | ⟨i, hi, Oi, h3, h4⟩
    · exact .inl z
    · exact .inr ⟨i, List.mem_append_right _ hi, Oi, h3, h4⟩
theorem w_zip {ts : List Expr} {kk : Nat} {tpos : Pos} (ok : XOk G C X) (hg : glB C.sc "zip" = true) (ha : PE X xa (Rx (wd X) (muE a) (ev G a))) (hb : PE X xb (Rx (wd X) (muE b) (ev G b))) (hn : noStar xa = true) (hn2 : noStar xb = true) :
    PI X (.Tuple ts kk tpos) (.Call (.Name "zip" p) [xa, xb] [] pos) (Ix (wd X) (muE (.zip a b)) (iRun G (.zip a b))) := by
  have hpa := pa_cons ha (pa_cons hb pa_nil (starEach_no hn2)) (starEach_no hn)
  have hse : starEach [xa, xb] X.env = (false, eval xa X.env) :: starEach [xb] X.env := by rw [starEach_no hn]
  have hpl : (backTo pos (starEach [xb] X.env)).any (·.1) = false := by rw [starEach_no hn2]; rfl
  refine PI.of (PI.or (PI.or (pi_zipL (gl_of ok hg) (ok.bl _ (by simp [bnames])) hpa hse hpl) (pi_zipT (gl_of ok hg) (ok.bl _ (by simp [bnames])) hpa hse hpl)) (PI.or (pi_zipM (gl_of ok hg) (ok.bl _ (by simp [bnames])) hpa hse hpl) (pi_zipN (gl_of ok hg) (ok.bl _ (by simp [bnames])) hpa hse hpl))) fun σ H RR ⟨Z, env, Os, q, rs, xs, env', h1, h2⟩ => ?_
  obtain ⟨mm, h3, h4⟩ := i_run h1
  rw [ev] at h3
  simp only [muE] at h2
  obtain ⟨⟨ma, ra, e1⟩, k3, h5⟩ := R.bind_ok h3
  obtain ⟨⟨mb, rb, e2⟩, h6, h7⟩ := R.bind_ok h5
  obtain ⟨ys, h8, h9⟩ := R.bind_ok h7
  obtain ⟨zs, h10, h11⟩ := R.bind_ok h9
  obtain ⟨ap, h12⟩ := R.of_if h11
  cases h12
  cases h4
  by_cases m1 : ma = .pu (.tuple ys)
  · by_cases m2 : mb = .pu (.tuple zs)
    · refine .inl (.inr (Rx.go q k3 fun x H1 ⟨Z1, Os1, O1, q1, s1, r1, ro1⟩ => ?_))
      obtain ⟨Z1', q1', s1', r1', hO1⟩ := walk_give q1 s1 r1 ro1
      refine Rx.go q1' h6 fun y H2 ⟨Z2, Os2, O2, q2, s2, r2, ro2⟩ => ?_
      obtain ⟨Z3, q3, s3, r3, hO2⟩ := walk_give q2 s2 r2 ro2
      obtain ⟨⟨pa, vs, ex, rl, g⟩, pb, ws, ey, rl2, g2⟩ := zip_tail q1' r1' hO1 s3 r3 hO2 ap h8 h10
      have g := g.resolve_left (fun w => w.1 m1)
      have g2 := g2.resolve_left (fun w => w.1 m2)
      subst ex ey
      exact ⟨pa, pb, vs, ws, rfl, g.2 _ _ .refl, g2.2 _ _ .refl, h2 _ _ ⟨Z3, Os2, q3, s1'.trans s3 ml mr, it_of_zipY rl rl2 walk_zipT fun Z2 H3 l => ⟨g.2 _ _ l, g2.2 _ _ l⟩⟩⟩
    · refine .inr (.inr (Rx.go q k3 fun x H1 ⟨Z1, Os1, O1, q1, s1, r1, ro1⟩ => ?_))
      obtain ⟨Z1', q1', s1', r1', hO1⟩ := walk_give q1 s1 r1 ro1
      refine Rx.go q1' h6 fun y H2 ⟨Z2, Os2, O2, q2, s2, r2, ro2⟩ => ?_
      obtain ⟨Z3, q3, s3, r3, hO2⟩ := walk_give q2 s2 r2 ro2
      obtain ⟨⟨pa, vs, ex, rl, g⟩, pb, ws, ey, rl2, g2⟩ := zip_tail q1' r1' hO1 s3 r3 hO2 ap h8 h10
      have g := g.resolve_left (fun w => w.1 m1)
      have g2 := g2.resolve_right (fun w => m2 w.1)
      subst ex ey
      exact ⟨pa, pb, vs, ws, rfl, g.2 _ _ .refl, g2.2 _ _ .refl, h2 _ _ ⟨Z3, Os2, q3, s1'.trans s3 ml mr, it_of_zipY rl rl2 walk_zipN fun Z2 H3 l => ⟨g.2 _ _ l, g2.2 _ _ l⟩⟩⟩
  · by_cases m2 : mb = .pu (.tuple zs)
    · refine .inr (.inl (Rx.go q k3 fun x H1 ⟨Z1, Os1, O1, q1, s1, r1, ro1⟩ => ?_))
      obtain ⟨Z1', q1', s1', r1', hO1⟩ := walk_give q1 s1 r1 ro1
      refine Rx.go q1' h6 fun y H2 ⟨Z2, Os2, O2, q2, s2, r2, ro2⟩ => ?_
      obtain ⟨Z3, q3, s3, r3, hO2⟩ := walk_give q2 s2 r2 ro2
      obtain ⟨⟨pa, vs, ex, rl, g⟩, pb, ws, ey, rl2, g2⟩ := zip_tail q1' r1' hO1 s3 r3 hO2 ap h8 h10
      have g := g.resolve_right (fun w => m1 w.1)
      have g2 := g2.resolve_left (fun w => w.1 m2)
      subst ex ey
      exact ⟨pa, pb, vs, ws, rfl, g.2 _ _ .refl, g2.2 _ _ .refl, h2 _ _ ⟨Z3, Os2, q3, s1'.trans s3 ml mr, it_of_zipY rl rl2 walk_zipM fun Z2 H3 l => ⟨g.2 _ _ l, g2.2 _ _ l⟩⟩⟩
    · refine .inl (.inl (Rx.go q k3 fun x H1 ⟨Z1, Os1, O1, q1, s1, r1, ro1⟩ => ?_))
      obtain ⟨Z1', q1', s1', r1', hO1⟩ := walk_give q1 s1 r1 ro1
      refine Rx.go q1' h6 fun y H2 ⟨Z2, Os2, O2, q2, s2, r2, ro2⟩ => ?_
      obtain ⟨Z3, q3, s3, r3, hO2⟩ := walk_give q2 s2 r2 ro2
      obtain ⟨⟨pa, vs, ex, rl, g⟩, pb, ws, ey, rl2, g2⟩ := zip_tail q1' r1' hO1 s3 r3 hO2 ap h8 h10
      have g := g.resolve_right (fun w => m1 w.1)
      have g2 := g2.resolve_right (fun w => m2 w.1)
      subst ex ey
      exact ⟨pa, pb, vs, ws, rfl, g.2 _ _ .refl, g2.2 _ _ .refl, h2 _ _ ⟨Z3, Os2, q3, s1'.trans s3 ml mr, it_of_zipY rl rl2 walk_zipL fun Z2 H3 l => ⟨g.2 _ _ l, g2.2 _ _ l⟩⟩⟩
end
end TR
set_option Elab.async false
set_option linter.all false
set_option maxHeartbeats 4000000
/-! {k: v}, k a tuple -/
namespace TR
open PySem PySem.Spec PyProof.Rows L2 StX
section
variable {Z0 Z : Zn} {H0 H : Hp} {env0 env : Env} {Os0 Os : List (List Addr)} {mu : List Nat} {Dl : Addr}
theorem out_dk (s : Step mu Z0 H0 env0 Os0 Z H env Os) {l : List (Key × V)} (hl : H0 Dl = some (.dK l)) (n1 : Dl ∉ Os0.flatten) (n2 : ¬ Z0 Dl) : H Dl = H0 Dl ∧ Dl ∉ Os.flatten ∧ ¬ Z Dl := by
  refine ⟨by rw [hl]; exact s.keep _ _ hl n1, fun h => ?_, fun z => ?_⟩
  · rcases s.on _ h with k | k
    · rw [hl] at k; cases k
    · exact n1 k
  · rcases s.zn _ z with k | k | k
    · exact n2 k
    · rw [hl] at k; cases k
    · exact n1 k
end
section
variable {G : List Fn} {C : Ctx} {X : Cx} {xk xv : Expr} {pos : Pos} {tk tv : TE}
def tD1 (X : Cx) (tk tv : TE) : TE := fun σ H Q => ∀ p, H p = none → tk σ (upd H p (.dK [])) fun x H1 => tv σ H1 fun y H2 => H2 p = some (.dK []) ∧ ∃ k, TK X H2 x k ∧ ∀ b es ep u, x = .ref b → RelV y u → PinN (wd X) p es [(nkD k, b, u)] → Q (.ref p) (upd H2 p (dO p es ep))
theorem emptyH {P : Program} {w : World} {h : Heap} {a : Addr} (dd : h.DictOf (mixKind P w) a []) : h.DictOfH (nestedKind P w) a [] := by
  obtain ⟨es, ep, ⟨o, h1, h2, h3⟩, h4, _⟩ := dd.raw
  have e0 : es.toList = [] := by
    apply List.length_eq_zero_iff.mp
    rw [Array.length_toList, h4]; rfl
  exact ⟨o, es, ep, h1, h2, h3, by rw [e0]; rfl, (fun x hx => by cases hx), List.nodup_nil⟩
theorem pe_d1 (hu : X.A.units + 100 < cLine) (hk : PE X xk tk) (hv : PE X xv tv) : PE X (.Dict [some xk] [xv] pos) (tD1 X tk tv) := by
  refine ⟨fun pins s σ H Q I q => ?_⟩
  have hn := I.hok.fresh (Nat.le_refl s.heap.objs.size)
  have I1 := I.laid (a := s.heap.objs.size) (o := .dK []) (h' := s.heap.push { cls := .type "dict", data := .dict #[] }) (t' := s.toks) (fun _ _ q => Heap.get?_push_of_some _ q) (Nat.le_refl _) (dk_empty s.heap I.big)
  have hroom : (nestedKind X.prog X.w).room X.A := by show X.A.units + 8 < cLine; omega
  rw [arm_eval_Dict, show (evalEachOpt [some xk] X.env).zip ((evalEach [xv] X.env).map fun v => do let x ← v; standAt pos; pure x) = (pairTrees [some xk] [xv] X.env pos).map fun p => (some p.1, p.2) from rfl, dictDisplay_pairs (pairTrees [some xk] [xv] X.env pos) (by simp [pairTrees, evalEachOpt]) (by simp [pairTrees, evalEachOpt])]
  refine wpAny_bind (wpAny_standAt (wpAny_bind (wpAny_subDictH (knd := nestedKind X.prog X.w) hroom (by simp [pairTrees, evalEachOpt]) ?_)))
  refine thn ((pps_cons (pos := pos) hk hv pps_nil).run pins _ σ _ (fun ps H2 => match ps with
    | [(x, y)] => H2 s.heap.objs.size = some (.dK []) ∧ ∃ k, TK X H2 x k ∧ ∀ b es ep u, x = .ref b → RelV y u → PinN (wd X) s.heap.objs.size es [(nkD k, b, u)] → Q (.ref s.heap.objs.size) (upd H2 s.heap.objs.size (dO s.heap.objs.size es ep))
    | _ => False) I1 (q _ hn)) ?_
  rintro ws s2 ⟨ps, H2, I2, rel, q2⟩
  cases rel with
  | nil => exact q2.elim
  | cons r1 rt =>
    cases rt with
    | cons _ _ => exact q2.elim
    | nil =>
      rename_i a b
      obtain ⟨x, y⟩ := a
      obtain ⟨u1, u2⟩ := b
      obtain ⟨e, k, ht, q2⟩ := q2
      obtain ⟨b, ex, eu, hb⟩ := ht.at I2 r1.1
      dsimp only at ex eu
      subst ex eu
      obtain ⟨z, hd, vs0, r0, dd⟩ := dk_of I2.hok e
      cases r0
      refine ⟨[(nkD k, b, u2)], ⟨rfl, rfl, hb, trivial⟩, emptyH dd, fun h' tk' dd' hs => ?_⟩
      obtain ⟨o, es, ep, h1, h2, h3, h4, _, h6⟩ := dd'
      have hr : h'.DictRaw s.heap.objs.size es ep := ⟨o, h1, h2, h3⟩
      exact wpAny_pure ⟨.ref s.heap.objs.size, _, d_write I2 (by rw [e]; trivial) hs ⟨o, h1⟩ (okO hr), rfl, q2 b es ep u2 rfl r1.2 ⟨hd, h4, h6, by rw [sizeLine_eq]; simp, by simp⟩⟩
/-- {k: v} -/
theorem k_dct1 (ok : XOk G C X) {k v : E} (hk : PE X xk (Tx (wd X) (muT k) (tRun G k))) (hv : PE X xv (Tx (wd X) (muT v) (tRun G v))) : PE X (.Dict [some xk] [xv] pos) (Rx (wd X) (muE (.dct [k, v])) (ev G (.dct [k, v]))) := by
  refine PE.of (pe_d1 ok.hu hk hv) fun σ H Q ⟨Z, env, Os, q, m, rs, env', h1, h2⟩ => fun p hp => ?_
  simp only [muE, muTs, List.append_nil] at h2
  simp only [ev] at h1
  obtain ⟨⟨kvs, e2⟩, h3, h4⟩ := R.bind_ok h1
  cases h4
  unfold evKs at h3
  obtain ⟨rk, h5, h3⟩ := R.bind_ok h3
  obtain ⟨⟨dk, e1⟩, h6, h3⟩ := R.bind_ok h3
  obtain ⟨rv, h7, h3⟩ := R.bind_ok h3
  obtain ⟨⟨dv, e2'⟩, h8, h3⟩ := R.bind_ok h3
  obtain ⟨hf, h3⟩ := R.of_if h3
  unfold evKs at h3
  cases h3
  simp only [Bool.and_eq_true] at hf
  have ht := hf.1
  have g0 : Grow H (L2.upd H p (.dK [])) := Grow.upd hp
  refine Tx.go (q.grow g0) (tRun_eq h5 h6) fun x H1 ⟨Z1, Os1, q1, s1, r1⟩ => Tx.go q1 (tRun_eq h7 h8) fun y H2 ⟨Z2, Os2, q2, s2, r2⟩ => ?_
  have s12 : Step (muT k ++ muT v) Z (L2.upd H p (.dK [])) env Os Z2 H2 e2 Os2 := s1.trans s2 ml mr
  have out := out_dk s12 upd_same (fun h => q.there h hp) (fun z => q.zh _ z hp)
  have hD : H2 p = some (.dK []) := out.1.trans upd_same
  have t2 : ∀ zs, H2 p ≠ some (.tup zs) := fun zs h => by rw [hD] at h; cases h
  have f2 : ∀ o u, H2 p ≠ some (.frz o u) := fun o u h => by rw [hD] at h; cases h
  have r1' := r1.stay (s2.stay q1) s2.zz
  refine ⟨hD, dk, ⟨ht, Z2, r1'⟩, fun b es ep u ex ru pn => ?_⟩
  subst ex
  have q3 := q2.side (o := dO p es ep) out.2.1 out.2.2 t2 f2
  have st := side_stay (Z := Z2) (o := dO p es ep) out.2.2 t2 f2
  have s0 : Step [] Z H env Os Z (L2.upd H p (.dK [])) env Os := (Step.refl (mu := [])).grow g0 q
  have s3 : Step (muT k ++ muT v) Z H env Os Z2 H2 e2 Os2 := s0.trans s12 (fun i hi => by cases hi) (fun i hi => hi)
  have s4 := s3.side (o := dO p es ep) hp q
  have rn : REN (wd X) Z2 H2 [(nkD dk, b, u)] [(dk, dv)] := .cons ht r1' ru r2 .nil
  exact h2 _ _ ⟨Z2, Os2, [p], q3, s4, .dN upd_same pn (rn.stay st fun _ z => z), fun _ => ⟨List.nodup_append.mpr ⟨by simp, q3.nd, fun a ha b hb e => by simp at ha; subst ha; exact out.2.1 (e ▸ hb)⟩, fun a ha => by simp at ha; subst ha; exact ⟨out.2.2, .inl hp⟩⟩, fun h => (h rfl).elim, by simp⟩
end
end TR
set_option Elab.async false
set_option linter.all false
set_option maxHeartbeats 4000000
/-! the text against the small language: expressions -/
namespace TR
open PySem PySem.Spec PyProof.Rows L2 StX
def isPr : Option Fn → Bool
  | some (.pr _) => true
  | _ => false
def isWr : Option Fn → Bool
  | some (.wr _) => true
  | _ => false
def sameD : D → D → Bool
  | .int i, .int j => decide (i = j)
  | .str i, .str j => decide (i = j)
  | .bool i, .bool j => i == j
  | .none, .none => true
  | _, _ => false
theorem sameD_eq {d e : D} (h : sameD d e = true) : d = e := by
  unfold sameD at h
  split at h <;> first | (rw [of_decide_eq_true h]) | (rw [eq_of_beq h]) | rfl | cases h
def isTupX : Expr → Bool
  | .Tuple .. => true
  | _ => false
/-- None -/
def isNone : E → Bool
  | .cst .none => true
  | _ => false
theorem isNone_at {z : E} (h : isNone z = true) : z = .cst .none := by
  unfold isNone at h
  split at h
  · rfl
  · cases h
def bi1N : Bi → Option Str
  | .len => some "len"
  | .abs => some "abs"
  | .max => some "max"
  | .min => some "min"
  | .sum => some "sum"
  | .any => some "any"
  | .all => some "all"
  | .sorted => some "sorted"
  | .list => some "list"
  | .tuple => some "tuple"
  | .int => some "int"
  | .bool => some "bool"
  | .str => some "str"
  | _ => none
def isiN : Bi → Option Str
  | .isint => some "int"
  | .isbool => some "bool"
  | .istup => some "tuple"
  | .islist => some "list"
  | .isstr => some "str"
  | _ => none
def nmOk (C : Ctx) (nm : Str) (x : Str) : Bool := decide (nm = x) && glB C.sc nm
def varOk (C : Ctx) (i : Nat) (x : Str) : Bool := decide (C.N[i]? = some x) && visB C.sc x && noDbg x
def fnOk (C : Ctx) (k : Nat) (nm : Str) (n : Nat) : Bool := decide (C.fn[k]? = some (nm, n)) && glB C.sc nm && noDbg nm
/-- a test that is no plain value -/
def chkB : E → Expr → Bool
  | .cmp .., _ => true
  | .chn .., _ => true
  | .isc .., _ => true
  | .not a, .UnaryOp _ x _ => plainT x || chkB a x
  | .and a b, .BoolOp _ (x :: y :: rest) pos => (plainT x || chkB a x) && (match rest with | [] => plainT y || chkB b y | _ => chkB b (.BoolOp .And (y :: rest) pos))
  | .or a b, .BoolOp _ (x :: y :: rest) pos => (plainT x || chkB a x) && (match rest with | [] => plainT y || chkB b y | _ => chkB b (.BoolOp .Or (y :: rest) pos))
  | _, _ => false
mutual
def chkE (G : List Fn) (C : Ctx) : E → Expr → Bool
  | .cst d, .Constant c _ _ => chkC d c
  | .var i, .Name x _ => varOk C i x
  | .glb k d, .Name x _ => (match C.con[k]? with | some (y, e) => decide (y = x) && sameD e d | none => false) && glB C.sc x && noDbg x
  | .bin o a b, .BinOp x op y _ => decide (op = opOf o) && chkE G C a x && chkE G C b y
  | .cmp o a b, .Compare x [op] [y] _ => decide (op = cmpOf o) && noSet y && chkE G C a x && chkE G C b y
  | .chn o1 o2 a b c, .Compare x [op1, op2] [y, z] _ => decide (op1 = cmpOf o1) && decide (op2 = cmpOf o2) && noSet z && chkE G C a x && chkE G C b y && chkE G C c z
  | .isc n a .none, .Compare x [op] [.Constant .none _ _] _ => decide (op = if n then .IsNot else .Is) && chkE G C a x
  | .isc n a (.bool b), .Compare x [op] [.Constant (.bool c) _ _] _ => (b == c) && decide (op = if n then .IsNot else .Is) && chkE G C a x
  | .neg a, .UnaryOp .USub x _ => chkE G C a x
  | .not a, .UnaryOp .Not x _ => chkE G C a x
  | .and a b, .BoolOp .And (x :: y :: rest) pos => chkE G C a x && (match rest with | [] => chkE G C b y | _ => chkE G C b (.BoolOp .And (y :: rest) pos))
  | .or a b, .BoolOp .Or (x :: y :: rest) pos => chkE G C a x && (match rest with | [] => chkE G C b y | _ => chkE G C b (.BoolOp .Or (y :: rest) pos))
  | .ite c a b, .IfExp x y z _ => (plainT x || chkB c x) && chkE G C c x && chkE G C a y && chkE G C b z
  | .tup as, .Tuple xs _ _ => chkTs G C as xs
  | .lst as, .List xs _ => chkTs G C as xs
  | .sub a b, .Subscript x y _ => plainIx y && chkE G C a x && chkE G C b y
  | .slc a lo hi, .Subscript x (.Slice l h none _) _ => chkE G C a x && chkO G C lo l && chkO G C hi h
  | .rev a, .Subscript x (.Slice none none (some (.UnaryOp .USub (.Constant (.int 1) _ _) _)) _) _ => chkE G C a x
  | .bi b [a], .Call (.Name nm _) [x] [] _ => ((match bi1N b with | some y => nmOk C nm y | none => false) && noStar x && chkE G C a x) || (match a with
    | .bi .set [.bi .tuple [a2], z] => (match x with
      | .Call (.Name nm2 _) [y] [] _ => decide (b = .len) && decide (isNone z) && nmOk C nm "len" && nmOk C nm2 "set" && noStar y && chkE G C a2 y
      | _ => false)
    | _ => false)
  | .bi b [a], .Call (.Name nm _) [x, .Name t _] [] _ => (match isiN b with | some y => nmOk C t y | none => false) && nmOk C nm "isinstance" && noStar x && chkE G C a x
  | .bi b [a], .Call (.Name nm _) [x, .Tuple [.Name t1 _, .Name t2 _] _ _] [] _ => decide (b = .istl) && nmOk C nm "isinstance" && nmOk C t1 "tuple" && nmOk C t2 "list" && noStar x && chkE G C a x
  | .bi b [a, z], .Call (.Name nm _) [x] [] _ => decide (b = .set) && decide (isNone z) && nmOk C nm "sorted" && (match x with | .Call (.Name nm2 _) [y] [] _ => nmOk C nm2 "set" && noStar y && chkE G C a y | _ => false)
  | .bi b [a1, a2], .Call (.Name nm _) [x, y] [] _ => ((decide (b = .max) && nmOk C nm "max") || (decide (b = .min) && nmOk C nm "min")) && noStar x && noStar y && chkE G C a1 x && chkE G C a2 y
  | .mt m o [a], .Call (.Attribute x nm ap) [y] [] cp => (match m with | .index => decide (nm = "index") | .count => decide (nm = "count") | .get => decide (nm = "get") | .tidx => decide (nm = "index") | _ => false) && noStar y && plainBase x && (ap.endLine == cp.line) && chkE G C o x && chkE G C a y
  | .mt m o [a, b], .Call (.Attribute x nm ap) [y, z] [] cp => (match m with | .get => decide (nm = "get") | _ => false) && noStar y && noStar z && plainBase x && (ap.endLine == cp.line) && chkE G C o x && chkE G C a y && chkE G C b z
  | .call k as, .Call (.Name nm _) xs [] _ => fnOk C k nm as.length && isPr G[k]? && as.all (fun e => !isStar e) && xs.all noStar && chkTs G C as xs
  | .callW k y as, .Call (.Name nm _) (.Name ynm _ :: xs) [] _ => fnOk C k nm (as.length + 1) && isWr G[k]? && varOk C y ynm && as.all (fun e => !isStar e) && xs.all noStar && chkTs G C as xs
  | .popI y a, .Call (.Attribute (.Name ynm _) nm ap) [x] [] cp => decide (nm = "pop") && varOk C y ynm && noStar x && (ap.endLine == cp.line) && chkE G C a x
  | .rgl t as, .Call (.Name nm _) [.Call (.Name r _) xs [] _] [] _ => nmOk C nm (if t then "tuple" else "list") && nmOk C r "range" && chkRg G C as xs
  | .lc own vs elt p it cs, .ListComp xelt [⟨tg, xi, ifs, 0⟩] scope _ => chkP (C.blk scope) p tg && (match it with
    | .rng as => (match xi with
      | .Call (.Name nm _) xs [] _ => nmOk C nm "range" && chkRg G C as xs
      | _ => false)
    | .enm a => (match xi with
      | .Call (.Name nm _) [x] [] _ => nmOk C nm "enumerate" && isTupX tg && noStar x && chkE G C a x
      | _ => false)
    | .rvd a => (match xi with
      | .Call (.Name nm _) [x] [] _ => nmOk C nm "reversed" && noStar x && chkE G C a x
      | _ => false)
    | .zip a b => (match xi with
      | .Call (.Name nm _) [x, y] [] _ => nmOk C nm "zip" && isTupX tg && noStar x && noStar y && chkE G C a x && chkE G C b y
      | _ => false)
    | .its a => (match xi with
      | .Call (.Attribute x nm ap) [] [] cp => decide (nm = "items") && isTupX tg && plainBase x && (ap.endLine == cp.line) && chkE G C a x
      | _ => false)
    | .vls a => (match xi with
      | .Call (.Attribute x nm ap) [] [] cp => decide (nm = "values") && plainBase x && (ap.endLine == cp.line) && chkE G C a x
      | _ => false)
    | it => chkE G C it xi) && noSet xi && blkC C.N C.sc scope (ownOf C vs) && chkE G (C.blk scope) elt xelt && chkCs G (C.blk scope) cs ifs && (!own || ifs.isEmpty)
  | .dct [], .Dict [] [] _ => true
  | .dct [k, v], .Dict [some x] [y] _ => chkE G C k x && chkE G C v y
  | _, _ => false
def chkTs (G : List Fn) (C : Ctx) : List E → List Expr → Bool
  | [], [] => true
  | .star a :: as, .Starred x _ :: xs => chkE G C a x && chkTs G C as xs
  | a :: as, x :: xs => !isStar a && noStar x && chkE G C a x && chkTs G C as xs
  | _, _ => false
def chkRg (G : List Fn) (C : Ctx) : List E → List Expr → Bool
  | [a], [x] => noStar x && chkE G C a x
  | [a, b], [x, y] => noStar x && noStar y && chkE G C a x && chkE G C b y
  | _, _ => false
def chkO (G : List Fn) (C : Ctx) : Option E → Option Expr → Bool
  | none, none => true
  | some a, some x => chkE G C a x
  | _, _ => false
def chkCs (G : List Fn) (C : Ctx) : List E → List Expr → Bool
  | [], [] => true
  | [a], [x] => (plainT x || chkB a x) && chkE G C a x
  | _, _ => false
end
def chkI (G : List Fn) (C : Ctx) (it : E) (xi tg : Expr) : Bool := (match it with
    | .rng as => (match xi with
      | .Call (.Name nm _) xs [] _ => nmOk C nm "range" && chkRg G C as xs
      | _ => false)
    | .enm a => (match xi with
      | .Call (.Name nm _) [x] [] _ => nmOk C nm "enumerate" && isTupX tg && noStar x && chkE G C a x
      | _ => false)
    | .rvd a => (match xi with
      | .Call (.Name nm _) [x] [] _ => nmOk C nm "reversed" && noStar x && chkE G C a x
      | _ => false)
    | .zip a b => (match xi with
      | .Call (.Name nm _) [x, y] [] _ => nmOk C nm "zip" && isTupX tg && noStar x && noStar y && chkE G C a x && chkE G C b y
      | _ => false)
    | .its a => (match xi with
      | .Call (.Attribute x nm ap) [] [] cp => decide (nm = "items") && isTupX tg && plainBase x && (ap.endLine == cp.line) && chkE G C a x
      | _ => false)
    | .vls a => (match xi with
      | .Call (.Attribute x nm ap) [] [] cp => decide (nm = "values") && plainBase x && (ap.endLine == cp.line) && chkE G C a x
      | _ => false)
    | it => chkE G C it xi)
/-- an expression that is stored or handed back -/
def chkX (G : List Fn) (C : Ctx) : E → Expr → Bool
  | .lc2 vs vs1 elt p it p1 it1 cs1, .ListComp xelt [⟨tg, xi, [], 0⟩, ⟨tg1, xi1, ifs1, 0⟩] scope _ => chkP (C.blk scope) p tg && chkI G C it xi tg && noSet xi && subs vs1 vs && noSet xi1 && blkC C.N C.sc scope (ownOf C vs) && chkP (C.blk scope) p1 tg1 && chkI G (C.blk scope) it1 xi1 tg1 && chkE G (C.blk scope) elt xelt && chkCs G (C.blk scope) cs1 ifs1
  | e, x => chkE G C e x
end TR
set_option Elab.async false
set_option linter.all false
set_option maxHeartbeats 8000000
set_option maxRecDepth 10000
/-! expressions: the text computes what the small language says -/
namespace TR
open PySem PySem.Spec PyProof.Rows L2 StX
def AllE (G : List Fn) (n : Nat) : Prop := ∀ (p : E) (C : Ctx) (X : Cx) (x : Expr), sizeOf p < n → XOk G C X → chkE G C p x = true → PE X x (Rx (wd X) (muE p) (ev G p))
def AllT (G : List Fn) (n : Nat) : Prop := ∀ (p : E) (C : Ctx) (X : Cx) (x : Expr), sizeOf p < n → XOk G C X → chkE G C p x = true → (plainT x || chkB p x) = true → PT X x (Bx (wd X) (muE p) (bRun G p))
section
variable {G : List Fn} {C : Ctx} {X : Cx} {n : Nat}
theorem chk_noStar {p : E} {x : Expr} (h : chkE G C p x = true) : noStar x = true := by
  cases x <;> first | rfl | (unfold chkE at h; split at h <;> first | (rename_i he; cases he; done) | cases h)
theorem nmOk_at {nm y : Str} (h : nmOk C nm y = true) : nm = y ∧ glB C.sc nm = true := by
  unfold nmOk at h
  simp only [Bool.and_eq_true, decide_eq_true_eq] at h
  exact h
theorem varOk_at {i : Nat} {y : Str} (h : varOk C i y = true) : C.N[i]? = some y ∧ visB C.sc y = true ∧ noDbg y = true := by
  unfold varOk at h
  simp only [Bool.and_eq_true, decide_eq_true_eq] at h
  exact ⟨h.1.1, h.1.2, h.2⟩
theorem fnOk_at {k n : Nat} {y : Str} (h : fnOk C k y n = true) : C.fn[k]? = some (y, n) ∧ glB C.sc y = true ∧ noDbg y = true := by
  unfold fnOk at h
  simp only [Bool.and_eq_true, decide_eq_true_eq] at h
  exact ⟨h.1.1, h.1.2, h.2⟩
theorem isPr_at {k : Nat} (h : isPr G[k]? = true) : ∃ f, G[k]? = some (.pr f) := by
  unfold isPr at h
  split at h
  · exact ⟨_, by assumption⟩
  · cases h
theorem isWr_at {k : Nat} (h : isWr G[k]? = true) : ∃ f, G[k]? = some (.wr f) := by
  unfold isWr at h
  split at h
  · exact ⟨_, by assumption⟩
  · cases h
theorem ts_of (ok : XOk G C X) (ih : AllE G n) : ∀ {as : List E} {xs : List Expr}, sizeOf as < n → chkTs G C as xs = true → PA X xs (Lx (wd X) (muTs as) (evTs G as))
  | [], xs, _, h => by
    cases xs with
    | nil => exact l_nil
    | cons x xs => simp [chkTs] at h
  | a :: as, xs, hn, h => by
    simp only [List.cons.sizeOf_spec] at hn
    cases xs with
    | nil => cases a <;> simp [chkTs] at h
    | cons x xs =>
      unfold chkTs at h
      split at h
      · rename_i he1 he2; cases he1
      · rename_i b bs y p ys he1 he2
        cases he1; cases he2
        simp only [Bool.and_eq_true] at h
        simp only [E.star.sizeOf_spec] at hn
        exact l_star (ih _ C X _ (by omega) ok h.1) (ts_of ok ih (by omega) h.2)
      · rename_i b bs y ys _ he1 he2
        cases he1; cases he2
        simp only [Bool.and_eq_true, Bool.not_eq_true'] at h
        exact l_cons h.1.1.1 (ih _ C X _ (by omega) ok h.1.2) (ts_of ok ih (by omega) h.2) h.1.1.2
      · cases h
theorem rg_of (ok : XOk G C X) (ih : AllE G n) {as : List E} {xs : List Expr} {r : Str} {p pos : Pos} (hn : sizeOf as < n) (hr : nmOk C r "range" = true) (h : chkRg G C as xs = true) : PRg X (.Call (.Name r p) xs [] pos) (Gx (wd X) (muEs as) (gRun G as)) := by
  obtain ⟨rfl, hg⟩ := nmOk_at hr
  unfold chkRg at h
  split at h
  · simp only [Bool.and_eq_true] at h
    simp at hn
    exact g_1 ok hg (ih _ C X _ (by omega) ok h.2) h.1
  · simp only [Bool.and_eq_true] at h
    simp at hn
    exact g_2 ok hg (ih _ C X _ (by omega) ok h.1.2) (ih _ C X _ (by omega) ok h.2) h.1.1.1 h.1.1.2
  · cases h
theorem o_of (ok : XOk G C X) (ih : AllE G n) {lo : Option E} {l : Option Expr} (hn : sizeOf lo < n) (h : chkO G C lo l = true) : PO X l (OPost (wd X) (muO lo) (evO G lo)) := by
  unfold chkO at h
  split at h
  · exact o_none
  · simp at hn
    exact o_some (ih _ C X _ (by omega) ok h)
  · cases h
theorem cs_of (ok : XOk G C X) (it : AllT G n) {cs : List E} {ifs : List Expr} (hn : sizeOf cs < n) (h : chkCs G C cs ifs = true) : PTs X ifs (Bx (wd X) (muEs cs) (evCs G cs)) := by
  unfold chkCs at h
  split at h
  · exact c_nil
  · simp only [Bool.and_eq_true] at h
    simp at hn
    exact c_one (it _ C X _ (by omega) ok h.2 h.1)
  · cases h
theorem i_of (ok : XOk G C X) (ih : AllE G n) {p : E} {x tg : Expr} (hn : sizeOf p < n) (h : chkI G C p x tg = true) : PI X tg x (Ix (wd X) (muE p) (iRun G p)) := by
  unfold chkI at h
  split at h
  · split at h
    · rename_i as _ nm pos1 xs pos2
      simp only [Bool.and_eq_true] at h
      obtain ⟨rfl, hg⟩ := nmOk_at h.1
      have h2 := h.2
      unfold chkRg at h2
      split at h2
      · simp only [Bool.and_eq_true] at h2
        simp at hn
        exact w_rng1 ok hg (ih _ C X _ (by omega) ok h2.2) h2.1
      · simp only [Bool.and_eq_true] at h2
        simp at hn
        exact w_rng2 ok hg (ih _ C X _ (by omega) ok h2.1.2) (ih _ C X _ (by omega) ok h2.2) h2.1.1.1 h2.1.1.2
      · cases h2
    · cases h
  · split at h
    · simp only [Bool.and_eq_true] at h
      obtain ⟨⟨⟨h1, h2⟩, h3⟩, h4⟩ := h
      obtain ⟨rfl, hg⟩ := nmOk_at h1
      cases tg <;> try (cases h2)
      simp at hn
      exact w_enm ok hg (ih _ C X _ (by omega) ok h4) h3
    · cases h
  · split at h
    · simp only [Bool.and_eq_true] at h
      obtain ⟨⟨h1, h3⟩, h4⟩ := h
      obtain ⟨rfl, hg⟩ := nmOk_at h1
      simp at hn
      exact w_rvd ok hg (ih _ C X _ (by omega) ok h4) h3
    · cases h
  · split at h
    · simp only [Bool.and_eq_true] at h
      obtain ⟨⟨⟨⟨⟨h1, h2⟩, h3⟩, h4⟩, h5⟩, h6⟩ := h
      obtain ⟨rfl, hg⟩ := nmOk_at h1
      cases tg <;> try (cases h2)
      simp at hn
      exact w_zip ok hg (ih _ C X _ (by omega) ok h5) (ih _ C X _ (by omega) ok h6) h3 h4
    · cases h
  · split at h
    · simp only [Bool.and_eq_true, decide_eq_true_eq] at h
      obtain ⟨⟨⟨⟨h1, h2⟩, h3⟩, h4⟩, h5⟩ := h
      subst h1
      cases tg <;> try (cases h2)
      simp at hn
      exact w_its (ih _ C X _ (by omega) ok h5) h3 h4
    · cases h
  · split at h
    · simp only [Bool.and_eq_true, decide_eq_true_eq] at h
      obtain ⟨⟨⟨h1, h3⟩, h4⟩, h5⟩ := h
      subst h1
      simp at hn
      exact w_vls (ih _ C X _ (by omega) ok h5) h3 h4
    · cases h
  · exact w_any (ih _ C X _ hn ok h)
theorem bn {x : Str} (h : decide (x ∈ bnames) = true) : x ∈ bnames := of_decide_eq_true h
theorem bi1_of (ok : XOk G C X) {b : Bi} {a : E} {xa : Expr} {nm y : Str} {p pos : Pos} (hb : bi1N b = some y) (hnm : nmOk C nm y = true) (hn : noStar xa = true) (ha : PE X xa (Rx (wd X) (muE a) (ev G a))) : PE X (.Call (.Name nm p) [xa] [] pos) (Rx (wd X) (muE (.bi b [a])) (ev G (.bi b [a]))) := by
  obtain ⟨rfl, hg⟩ := nmOk_at hnm
  cases b <;> simp only [bi1N] at hb <;> cases hb
  · exact k_b1B cr_len ok hg (bn (by decide)) boot_len (by decide) ha hn
  · exact k_b1B cr_absM ok hg (bn (by decide)) PyProof.Rows.boot_abs (by decide) ha hn
  · exact k_b1B (cr_bestMax ok.calm ok.hd ok.hu) ok hg (bn (by decide)) PyProof.Rows.boot_max (by decide) ha hn
  · exact k_b1B (cr_bestMin ok.calm ok.hd ok.hu) ok hg (bn (by decide)) PyProof.Rows.boot_min (by decide) ha hn
  · exact k_b1B (cr_sumM ok.calm) ok hg (bn (by decide)) PyProof.Rows.boot_sum (by decide) ha hn
  · exact k_b1B (cr_anyM ok.calm) ok hg (bn (by decide)) PyProof.Rows.boot_any (by decide) ha hn
  · exact k_b1B (cr_allM ok.calm) ok hg (bn (by decide)) PyProof.Rows.boot_all (by decide) ha hn
  · exact k_b1B (cr_sortM ok.hu) ok hg (bn (by decide)) PyProof.Rows.boot_sorted (by decide) ha hn
  · exact k_b1T (cr_listM ok.calm) ok hg (bn (by decide)) PyProof.Rows.boot_list (by decide) ha hn
  · exact k_b1T cr_tupM ok hg (bn (by decide)) PyProof.Rows.boot_tuple (by decide) ha hn
  · exact k_b1T cr_intM ok hg (bn (by decide)) PyProof.Rows.boot_int (by decide) ha hn
  · exact k_b1T cr_boolM ok hg (bn (by decide)) PyProof.Rows.boot_bool (by decide) ha hn
  · exact k_b1T cr_strM ok hg (bn (by decide)) PyProof.Rows.boot_str (by decide) ha hn
theorem isi_of (ok : XOk G C X) {b : Bi} {a : E} {xa : Expr} {nm t y : Str} {p p2 pos : Pos} (hb : isiN b = some y) (ht : nmOk C t y = true) (hnm : nmOk C nm "isinstance" = true) (hn : noStar xa = true) (ha : PE X xa (Rx (wd X) (muE a) (ev G a))) :
    PE X (.Call (.Name nm p) [xa, .Name t p2] [] pos) (Rx (wd X) (muE (.bi b [a])) (ev G (.bi b [a]))) := by
  obtain ⟨rfl, hg⟩ := nmOk_at hnm
  obtain ⟨rfl, hg2⟩ := nmOk_at ht
  cases b <;> simp only [isiN] at hb <;> cases hb
  · exact k_isi .isint (t := .int) (fun m => rfl) (by decide) (fun u => by cases u <;> decide) ok hg hg2 (bn (by decide)) PyProof.Rows.boot_int (by decide) ha hn
  · exact k_isi .isbool (t := .bool) (fun m => rfl) (by decide) (fun u => by cases u <;> decide) ok hg hg2 (bn (by decide)) PyProof.Rows.boot_bool (by decide) ha hn
  · exact k_isi .istup (t := .tuple) (fun m => rfl) (by decide) (fun u => by cases u <;> decide) ok hg hg2 (bn (by decide)) PyProof.Rows.boot_tuple (by decide) ha hn
  · exact k_isi .islist (t := .list) (fun m => rfl) (by decide) (fun u => by cases u <;> decide) ok hg hg2 (bn (by decide)) PyProof.Rows.boot_list (by decide) ha hn
  · exact k_isi .isstr (t := .str) (fun m => rfl) (by decide) (fun u => by cases u <;> decide) ok hg hg2 (bn (by decide)) PyProof.Rows.boot_str (by decide) ha hn
end
end TR
set_option Elab.async false
set_option linter.all false
set_option maxHeartbeats 8000000
set_option maxRecDepth 10000
namespace TR
open PySem PySem.Spec PyProof.Rows L2 StX
section
variable {G : List Fn} {C : Ctx} {X : Cx} {n : Nat}
theorem and_rest {G : List Fn} {C : Ctx} {X : Cx} {n : Nat} (ok : XOk G C X) (ih : AllE G n) {b : E} {y : Expr} {rest : List Expr} {pos : Pos} (hn : sizeOf b < n)
    (h : (match rest with | [] => chkE G C b y | _ => chkE G C b (.BoolOp .And (y :: rest) pos)) = true) : PE X (.BoolOp .And (y :: rest) pos) (Rx (wd X) (muE b) (ev G b)) := by
  cases rest with
  | nil => exact pe_one (ih b C X y hn ok h)
  | cons z zs => exact ih b C X _ hn ok h
theorem or_rest {G : List Fn} {C : Ctx} {X : Cx} {n : Nat} (ok : XOk G C X) (ih : AllE G n) {b : E} {y : Expr} {rest : List Expr} {pos : Pos} (hn : sizeOf b < n)
    (h : (match rest with | [] => chkE G C b y | _ => chkE G C b (.BoolOp .Or (y :: rest) pos)) = true) : PE X (.BoolOp .Or (y :: rest) pos) (Rx (wd X) (muE b) (ev G b)) := by
  cases rest with
  | nil => exact pe_one (ih b C X y hn ok h)
  | cons z zs => exact ih b C X _ hn ok h
/-- a comprehension: as a value; stored in a local -/
theorem lc_of (ok : XOk G C X) (ih : AllE G n) (it : AllT G n) {own : Bool} {vs : List Nat} {elt it' : E} {p : P} {cs : List E} {xelt tg xi : Expr} {ifs : List Expr} {scope : Scope} {pos : Pos} (hn : sizeOf elt < n ∧ sizeOf it' < n ∧ sizeOf cs < n)
    (h : (chkP (C.blk scope) p tg && chkI G C it' xi tg && noSet xi && blkC C.N C.sc scope (ownOf C vs) && chkE G (C.blk scope) elt xelt && chkCs G (C.blk scope) cs ifs && (!own || ifs.isEmpty)) = true) :
    PE X (.ListComp xelt [⟨tg, xi, ifs, 0⟩] scope pos) (Rx (wd X) (muE (.lc own vs elt p it' cs)) (ev G (.lc own vs elt p it' cs))) ∧
    ∀ (i : Nat) (y : Str) (py spos : Pos), C.N[i]? = some y → C.sc.names.lookup y = some .local → swapsWith (.ListComp xelt [⟨tg, xi, ifs, 0⟩] scope pos) (some (.Name y py)) spos.line X.env = pure true →
      PS X (.Assign [.Name y py] (.ListComp xelt [⟨tg, xi, ifs, 0⟩] scope pos) spos) (tAsg (Rx (wd X) (muE (.lc own vs elt p it' cs)) (ev G (.lc own vs elt p it' cs))) (gName i)) := by
  simp only [Bool.and_eq_true, Bool.or_eq_true, Bool.not_eq_true'] at h
  obtain ⟨⟨⟨⟨⟨⟨h1, h2⟩, h3⟩, h4⟩, h5⟩, h6⟩, h7⟩ := h
  have hI := i_of (tg := tg) ok ih hn.2.1 h2
  cases own with
  | false =>
    refine k_lc ok hI (fun i e => ?_) h4 h3 (fun Y hw okY => g_of okY p tg h1) (fun Y hw okY => cs_of okY it hn.2.2 h6) (fun Y hw okY => k_take (ih _ _ Y _ hn.1 okY h5))
    subst e
    exact w_nl (ih _ C X _ hn.2.1 ok (by unfold chkI at h2; exact h2))
  | true =>
    have e : ifs = [] := by simpa using h7
    subst e
    have e2 : cs = [] := by
      cases cs with
      | nil => rfl
      | cons c cs => unfold chkCs at h6; split at h6 <;> first | (rename_i z1 z2; cases z1; done) | (rename_i z1 z2; cases z2; done) | cases h6
    subst e2
    exact k_lcO ok hI h4 h3 (fun Y hw okY => g_of okY p tg h1) (fun Y hw okY => ih _ _ Y _ hn.1 okY h5)
/-- a comprehension of two clauses: as a value; stored in a local -/
theorem lc2_of (ok : XOk G C X) (ih : AllE G n) (it : AllT G n) {vs vs1 : List Nat} {elt it' it1 : E} {p p1 : P} {cs1 : List E} {xelt tg xi tg1 xi1 : Expr} {ifs1 : List Expr} {scope : Scope} {pos : Pos} (hn : sizeOf elt < n ∧ sizeOf it' < n ∧ sizeOf it1 < n ∧ sizeOf cs1 < n)
    (h : (chkP (C.blk scope) p tg && chkI G C it' xi tg && noSet xi && subs vs1 vs && noSet xi1 && blkC C.N C.sc scope (ownOf C vs) && chkP (C.blk scope) p1 tg1 && chkI G (C.blk scope) it1 xi1 tg1 && chkE G (C.blk scope) elt xelt && chkCs G (C.blk scope) cs1 ifs1) = true) :
    PE X (.ListComp xelt [⟨tg, xi, [], 0⟩, ⟨tg1, xi1, ifs1, 0⟩] scope pos) (Rx (wd X) (muE (.lc2 vs vs1 elt p it' p1 it1 cs1)) (ev G (.lc2 vs vs1 elt p it' p1 it1 cs1))) ∧
    ∀ (i : Nat) (y : Str) (py spos : Pos), C.N[i]? = some y → C.sc.names.lookup y = some .local → swapsWith (.ListComp xelt [⟨tg, xi, [], 0⟩, ⟨tg1, xi1, ifs1, 0⟩] scope pos) (some (.Name y py)) spos.line X.env = pure true →
      PS X (.Assign [.Name y py] (.ListComp xelt [⟨tg, xi, [], 0⟩, ⟨tg1, xi1, ifs1, 0⟩] scope pos) spos) (tAsg (Rx (wd X) (muE (.lc2 vs vs1 elt p it' p1 it1 cs1)) (ev G (.lc2 vs vs1 elt p it' p1 it1 cs1))) (gName i)) := by
  simp only [Bool.and_eq_true] at h
  obtain ⟨⟨⟨⟨⟨⟨⟨⟨⟨h1, h2⟩, h3⟩, h4⟩, h5⟩, h6⟩, h7⟩, h8⟩, h9⟩, h10⟩ := h
  exact k_lc2 ok (i_of ok ih hn.2.1 h2) h6 h4 h3 h5 (fun Y hw okY => g_of okY p tg h1) (fun Y hw okY => i_of okY ih hn.2.2.1 h8) (fun Y hw okY => g_of okY p1 tg1 h7) (fun Y hw okY => cs_of okY it hn.2.2.2 h10) (fun Y hw okY => k_take (ih _ _ Y _ hn.1 okY h9))
theorem stepE (ih : AllE G n) (it : AllT G n) : AllE G (n + 1) := by
  intro p C X x hn ok h
  unfold chkE at h
  split at h
  · exact k_cst h
  · obtain ⟨h1, h2, h3⟩ := varOk_at h
    exact k_var ok h1 h2 h3
  · rename_i k d y pos
    simp only [Bool.and_eq_true] at h
    obtain ⟨⟨h1, h2⟩, h3⟩ := h
    cases hc : C.con[k]? with
    | none => rw [hc] at h1; cases h1
    | some ye =>
      obtain ⟨z, e⟩ := ye
      rw [hc] at h1
      simp only [Bool.and_eq_true, decide_eq_true_eq] at h1
      obtain ⟨rfl, h4⟩ := h1
      have := sameD_eq h4; subst this
      exact k_glb ok hc h2 h3
  · simp only [Bool.and_eq_true, decide_eq_true_eq] at h
    simp at hn
    obtain ⟨⟨rfl, h1⟩, h2⟩ := h
    exact k_bin _ (ih _ C X _ (by omega) ok h1) (ih _ C X _ (by omega) ok h2)
  · simp only [Bool.and_eq_true, decide_eq_true_eq] at h
    simp at hn
    obtain ⟨⟨⟨rfl, h0⟩, h1⟩, h2⟩ := h
    exact k_cmp ok _ (ih _ C X _ (by omega) ok h1) (ih _ C X _ (by omega) ok h2) h0
  · simp only [Bool.and_eq_true, decide_eq_true_eq] at h
    simp at hn
    obtain ⟨⟨⟨⟨⟨rfl, rfl⟩, h0⟩, h1⟩, h2⟩, h3⟩ := h
    exact k_chn ok _ _ (ih _ C X _ (by omega) ok h1) (ih _ C X _ (by omega) ok h2) (ih _ C X _ (by omega) ok h3) h0
  · rename_i m a y op _ _ _
    simp only [Bool.and_eq_true, decide_eq_true_eq] at h
    simp at hn
    obtain ⟨h0, h1⟩ := h
    cases m
    · simp only [Bool.false_eq_true, if_false] at h0
      subst h0
      exact k_isN (ih _ C X _ (by omega) ok h1)
    · simp only [if_true] at h0
      subst h0
      exact k_notN (ih _ C X _ (by omega) ok h1)
  · rename_i m a b y op c _ _ _
    simp only [Bool.and_eq_true, decide_eq_true_eq] at h
    simp at hn
    obtain ⟨⟨h2, h0⟩, h1⟩ := h
    have := eq_of_beq h2; subst this
    cases m
    · simp only [Bool.false_eq_true, if_false] at h0
      subst h0
      exact k_isB (ih _ C X _ (by omega) ok h1)
    · simp only [if_true] at h0
      subst h0
      exact k_notB (ih _ C X _ (by omega) ok h1)
  · simp at hn
    exact k_neg (ih _ C X _ (by omega) ok h)
  · simp at hn
    exact k_not (ih _ C X _ (by omega) ok h)
  · simp only [Bool.and_eq_true] at h
    simp at hn
    exact k_and (ih _ C X _ (by omega) ok h.1) (and_rest ok ih (by omega) h.2)
  · simp only [Bool.and_eq_true] at h
    simp at hn
    exact k_or (ih _ C X _ (by omega) ok h.1) (or_rest ok ih (by omega) h.2)
  · simp only [Bool.and_eq_true] at h
    simp at hn
    exact k_ite (it _ C X _ (by omega) ok h.1.1.2 (by simpa using h.1.1.1)) (ih _ C X _ (by omega) ok h.1.2) (ih _ C X _ (by omega) ok h.2)
  · simp at hn
    exact k_tup (ts_of ok ih (by omega) h)
  · simp at hn
    exact k_lst (ts_of ok ih (by omega) h)
  · simp only [Bool.and_eq_true] at h
    simp at hn
    exact k_sub ok (ih _ C X _ (by omega) ok h.1.2) (ih _ C X _ (by omega) ok h.2) h.1.1
  · simp only [Bool.and_eq_true] at h
    simp at hn
    exact k_slc (ih _ C X _ (by omega) ok h.1.1) (o_of ok ih (by omega) h.1.2) (o_of ok ih (by omega) h.2)
  · simp at hn
    exact k_rev (ih _ C X _ (by omega) ok h)
  · rename_i b a nm pos1 y pos2
    rcases (Bool.or_eq_true _ _).mp h with h | h
    · simp only [Bool.and_eq_true] at h
      simp at hn
      obtain ⟨⟨h1, h2⟩, h3⟩ := h
      cases hb : bi1N b with
      | none => rw [hb] at h1; cases h1
      | some z =>
        rw [hb] at h1
        exact bi1_of ok hb h1 h2 (ih _ C X _ (by omega) ok h3)
    · split at h
      · split at h
        · simp only [Bool.and_eq_true, decide_eq_true_eq] at h
          obtain ⟨⟨⟨⟨⟨rfl, h1⟩, h2⟩, h3⟩, h4⟩, h5⟩ := h
          obtain ⟨rfl, h2⟩ := nmOk_at h2
          obtain ⟨rfl, h3⟩ := nmOk_at h3
          obtain rfl := isNone_at h1
          exact w_lenSet ok h2 h3 (ih _ C X _ (by simp at hn; omega) ok h5) h4
        · cases h
      · cases h
  · rename_i b a nm pos1 y t pos3 pos2
    simp only [Bool.and_eq_true] at h
    simp at hn
    obtain ⟨⟨⟨h1, h4⟩, h2⟩, h3⟩ := h
    cases hb : isiN b with
    | none => rw [hb] at h1; cases h1
    | some z =>
      rw [hb] at h1
      exact isi_of ok hb h1 h4 h2 (ih _ C X _ (by omega) ok h3)
  · simp only [Bool.and_eq_true, decide_eq_true_eq] at h
    simp at hn
    obtain ⟨⟨⟨⟨⟨rfl, h1⟩, h2⟩, h3⟩, h4⟩, h5⟩ := h
    obtain ⟨rfl, h1⟩ := nmOk_at h1
    obtain ⟨rfl, h2⟩ := nmOk_at h2
    obtain ⟨rfl, h3⟩ := nmOk_at h3
    exact k_istl ok h1 h2 h3 (ih _ C X _ (by omega) ok h5) h4
  · simp only [Bool.and_eq_true, decide_eq_true_eq] at h
    obtain ⟨⟨⟨rfl, h1⟩, h2⟩, h3⟩ := h
    split at h3
    · simp only [Bool.and_eq_true] at h3
      simp at hn
      obtain ⟨⟨h4, h5⟩, h6⟩ := h3
      obtain ⟨rfl, h2⟩ := nmOk_at h2
      obtain ⟨rfl, h4⟩ := nmOk_at h4
      obtain rfl := isNone_at h1
      exact w_sortSet ok h2 h4 (ih _ C X _ (by omega) ok h6) h5
    · cases h3
  · simp only [Bool.and_eq_true, Bool.or_eq_true, decide_eq_true_eq] at h
    simp at hn
    obtain ⟨⟨⟨⟨h1, h2⟩, h3⟩, h4⟩, h5⟩ := h
    rcases h1 with ⟨rfl, h1⟩ | ⟨rfl, h1⟩
    · obtain ⟨rfl, h1⟩ := nmOk_at h1
      exact k_b2B (cr_max2M ok.calm) ok h1 (bn (by decide)) PyProof.Rows.boot_max (by decide) (ih _ C X _ (by omega) ok h4) (ih _ C X _ (by omega) ok h5) h2 h3
    · obtain ⟨rfl, h1⟩ := nmOk_at h1
      exact k_b2B (cr_min2M ok.calm) ok h1 (bn (by decide)) PyProof.Rows.boot_min (by decide) (ih _ C X _ (by omega) ok h4) (ih _ C X _ (by omega) ok h5) h2 h3
  · rename_i m o a y nm ap z cp
    simp only [Bool.and_eq_true] at h
    simp at hn
    obtain ⟨⟨⟨⟨⟨h1, h2⟩, h3⟩, h4⟩, h5⟩, h6⟩ := h
    have e1 := ih _ C X _ (by omega) ok h5
    have e2 := ih _ C X _ (by omega) ok h6
    cases m <;> first | (cases h1; done) | skip
    · cases of_decide_eq_true h1
      exact k_index ok e1 e2 h2 h3 h4
    · cases of_decide_eq_true h1
      exact k_count ok e1 e2 h2 h3 h4
    · cases of_decide_eq_true h1
      exact k_get1 ok e1 e2 h2 h3 h4
    · cases of_decide_eq_true h1
      exact k_tidx ok e1 e2 h2 h3 h4
  · rename_i m o a b y nm ap z w cp
    simp only [Bool.and_eq_true] at h
    simp at hn
    obtain ⟨⟨⟨⟨⟨⟨⟨h1, h2⟩, h2'⟩, h3⟩, h4⟩, h5⟩, h6⟩, h7⟩ := h
    have e1 := ih _ C X _ (by omega) ok h5
    have e2 := ih _ C X _ (by omega) ok h6
    have e3 := ih _ C X _ (by omega) ok h7
    cases m <;> first | (cases h1; done) | skip
    cases of_decide_eq_true h1
    exact k_get2 ok e1 e2 e3 h2 h2' h3 h4
  · rename_i k as nm pos1 xs pos2
    simp only [Bool.and_eq_true] at h
    simp at hn
    obtain ⟨⟨⟨⟨h1, h2⟩, h3⟩, h4⟩, h5⟩ := h
    obtain ⟨f1, f2, f3⟩ := fnOk_at h1
    obtain ⟨f, hf⟩ := isPr_at h2
    cases as with
    | nil =>
      cases xs with
      | nil => exact k_call0 ok f1 hf f2 f3
      | cons x xs => simp [chkTs] at h5
    | cons a as =>
      cases xs with
      | nil => cases a <;> simp [chkTs] at h5
      | cons x xs => exact k_call ok f1 hf f2 f3 h3 rfl (ts_of ok ih (by omega) h5) h4
  · simp only [Bool.and_eq_true] at h
    simp at hn
    obtain ⟨⟨⟨⟨⟨h1, h2⟩, h3⟩, h4⟩, h5⟩, h6⟩ := h
    obtain ⟨f1, f2, f3⟩ := fnOk_at h1
    obtain ⟨f, hf⟩ := isWr_at h2
    obtain ⟨v1, v2, v3⟩ := varOk_at h3
    exact k_callW ok f1 hf f2 f3 h4 rfl v1 v2 v3 (ts_of ok ih (by omega) h6) h5
  · simp only [Bool.and_eq_true, decide_eq_true_eq] at h
    simp at hn
    obtain ⟨⟨⟨⟨rfl, h1⟩, h2⟩, h3⟩, h4⟩ := h
    obtain ⟨v1, v2, v3⟩ := varOk_at h1
    exact k_popI ok v1 v2 v3 (ih _ C X _ (by omega) ok h4) h2 h3
  · simp only [Bool.and_eq_true] at h
    simp at hn
    obtain ⟨⟨h1, h2⟩, h3⟩ := h
    obtain ⟨h4, h5⟩ := nmOk_at h1
    exact k_rgl ok h5 (by rw [h4]; split <;> rfl) (rg_of ok ih (by omega) h2 h3) rfl
  · rename_i own vs elt p it' cs xelt tg xi ifs scope pos
    simp at hn
    exact (lc_of ok ih it ⟨by omega, by omega, by omega⟩ (by unfold chkI; exact h)).1
  · exact k_dct0
  · simp only [Bool.and_eq_true] at h
    simp at hn
    exact k_dct1 ok (k_take (ih _ C X _ (by omega) ok h.1)) (k_take (ih _ C X _ (by omega) ok h.2))
  · cases h
theorem pw_rest_and (ok : XOk G C X) (it : AllT G n) (iw : ∀ (p : E) (C : Ctx) (X : Cx) (x : Expr), sizeOf p < n → XOk G C X → chkE G C p x = true → chkB p x = true → ∀ vs pos, x = .BoolOp .And vs pos → PW X x (Bx (wd X) (muE p) (bRun G p)))
    {b : E} {y : Expr} {rest : List Expr} {pos : Pos} (hn : sizeOf b < n) (h : (match rest with | [] => chkE G C b y | _ => chkE G C b (.BoolOp .And (y :: rest) pos)) = true) (hb : (match (generalizing := false) rest with | [] => plainT y || chkB b y | _ => chkB b (.BoolOp .And (y :: rest) pos)) = true) :
    PW X (.BoolOp .And (y :: rest) pos) (Bx (wd X) (muE b) (bRun G b)) := by
  cases rest with
  | nil => exact pw_and1 (it b C X y hn ok h hb)
  | cons z zs => exact iw b C X _ hn ok h hb _ _ rfl
theorem pw_rest_or (ok : XOk G C X) (it : AllT G n) (iw : ∀ (p : E) (C : Ctx) (X : Cx) (x : Expr), sizeOf p < n → XOk G C X → chkE G C p x = true → chkB p x = true → ∀ vs pos, x = .BoolOp .Or vs pos → PW X x (Bx (wd X) (muE p) (bRun G p)))
    {b : E} {y : Expr} {rest : List Expr} {pos : Pos} (hn : sizeOf b < n) (h : (match rest with | [] => chkE G C b y | _ => chkE G C b (.BoolOp .Or (y :: rest) pos)) = true) (hb : (match (generalizing := false) rest with | [] => plainT y || chkB b y | _ => chkB b (.BoolOp .Or (y :: rest) pos)) = true) :
    PW X (.BoolOp .Or (y :: rest) pos) (Bx (wd X) (muE b) (bRun G b)) := by
  cases rest with
  | nil => exact pw_or1 (it b C X y hn ok h hb)
  | cons z zs => exact iw b C X _ hn ok h hb _ _ rfl
/-- tests that are and, or -/
def AllW (G : List Fn) (n : Nat) : Prop := ∀ (p : E) (C : Ctx) (X : Cx) (x : Expr), sizeOf p < n → XOk G C X → chkE G C p x = true → chkB p x = true → ∀ op vs pos, x = .BoolOp op vs pos → PW X x (Bx (wd X) (muE p) (bRun G p))
theorem stepW (it : AllT G n) (iw : AllW G n) : AllW G (n + 1) := by
  intro p C X x hn ok h hb op vs pos ex
  subst ex
  unfold chkE at h
  split at h <;> first | (rename_i he; cases he; done) | skip
  all_goals first | (rename_i he1 he2; cases he2; done) | skip
  all_goals first | (cases h; done) | skip
  · rename_i a b y z rest pos' he2
    cases he2
    unfold chkB at hb
    simp only [Bool.and_eq_true] at h hb
    simp at hn
    exact t_and (it a C X y (by omega) ok h.1 hb.1) (pw_rest_and ok it (fun p C X x h1 h2 h3 h4 vs pos e => iw p C X x h1 h2 h3 h4 _ vs pos e) (by omega) h.2 hb.2)
  · rename_i a b y z rest pos' he2
    cases he2
    unfold chkB at hb
    simp only [Bool.and_eq_true] at h hb
    simp at hn
    exact t_or (it a C X y (by omega) ok h.1 hb.1) (pw_rest_or ok it (fun p C X x h1 h2 h3 h4 vs pos e => iw p C X x h1 h2 h3 h4 _ vs pos e) (by omega) h.2 hb.2)
theorem chk_test {p : E} {x : Expr} (h : chkE G C p x = true) (hb : (plainT x || chkB p x) = true) (hp : plainT x = false) : chkB p x = true := by
  rw [hp] at hb
  simpa using hb
theorem stepT (ih : AllE G (n + 1)) (it : AllT G n) (iw : AllW G (n + 1)) : AllT G (n + 1) := by
  intro p C X x hn ok h hb
  have hE := ih p C X x hn ok h
  cases hp : plainT x with
  | true => exact t_val hE hp
  | false =>
    have hB := chk_test h hb hp
    cases x <;> first | (cases hp; done) | skip
    · exact (iw p C X _ hn ok h hB _ _ _ rfl).pt
    · rename_i op x1 pos
      unfold chkE at h
      split at h <;> first | (rename_i he; cases he; done) | skip
      all_goals first | (cases h; done) | skip
      · unfold chkB at hB
        cases hB
      · rename_i a y pos' he
        cases he
        unfold chkB at hB
        simp at hn
        exact t_not (it _ C X _ (by omega) ok h hB)
    · unfold chkE at h
      split at h <;> first | (rename_i he; cases he; done) | skip
      all_goals first | (cases h; done) | skip
      · unfold chkB at hB
        cases hB
    · unfold chkE at h
      split at h <;> first | (rename_i he; cases he; done) | skip
      all_goals first | (cases h; done) | skip
      · rename_i o a b y op z pos' he
        cases he
        simp only [Bool.and_eq_true, decide_eq_true_eq] at h
        simp at hn
        obtain ⟨⟨⟨rfl, h0⟩, h1⟩, h2⟩ := h
        exact t_cmp ok _ (ih _ C X _ (by omega) ok h1) (ih _ C X _ (by omega) ok h2) h0
      · rename_i he
        cases he
        simp only [Bool.and_eq_true, decide_eq_true_eq] at h
        simp at hn
        obtain ⟨⟨⟨⟨⟨rfl, rfl⟩, h0⟩, h1⟩, h2⟩, h3⟩ := h
        exact t_chn ok _ _ (ih _ C X _ (by omega) ok h1) (ih _ C X _ (by omega) ok h2) (ih _ C X _ (by omega) ok h3) h0
      · rename_i m a y op _ _ _ he
        cases he
        simp only [Bool.and_eq_true, decide_eq_true_eq] at h
        simp at hn
        obtain ⟨h0, h1⟩ := h
        cases m
        · simp only [Bool.false_eq_true, if_false] at h0
          subst h0
          exact t_isN (ih _ C X _ (by omega) ok h1)
        · simp only [if_true] at h0
          subst h0
          exact t_notN (ih _ C X _ (by omega) ok h1)
      · rename_i m a b y op c _ _ _ he
        cases he
        simp only [Bool.and_eq_true, decide_eq_true_eq] at h
        simp at hn
        obtain ⟨⟨h2, h0⟩, h1⟩ := h
        have := eq_of_beq h2; subst this
        cases m
        · simp only [Bool.false_eq_true, if_false] at h0
          subst h0
          exact t_isB (ih _ C X _ (by omega) ok h1)
        · simp only [if_true] at h0
          subst h0
          exact t_notB (ih _ C X _ (by omega) ok h1)
theorem all (G : List Fn) : ∀ n, AllE G n ∧ AllT G n ∧ AllW G n
  | 0 => ⟨fun p C X x hn => absurd hn (Nat.not_lt_zero _), fun p C X x hn => absurd hn (Nat.not_lt_zero _), fun p C X x hn => absurd hn (Nat.not_lt_zero _)⟩
  | n + 1 => by
    obtain ⟨h1, h2, h3⟩ := all G n
    have e := stepE h1 h2
    have w := stepW h2 h3
    exact ⟨e, stepT e h2 w, w⟩
theorem sLc (ok : XOk G C X) {own : Bool} {vs : List Nat} {elt it' : E} {p : P} {cs : List E} {xelt tg xi : Expr} {ifs : List Expr} {scope : Scope} {pos : Pos} (h : chkE G C (.lc own vs elt p it' cs) (.ListComp xelt [⟨tg, xi, ifs, 0⟩] scope pos) = true) :
    ∀ (i : Nat) (y : Str) (py spos : Pos), C.N[i]? = some y → C.sc.names.lookup y = some .local → swapsWith (.ListComp xelt [⟨tg, xi, ifs, 0⟩] scope pos) (some (.Name y py)) spos.line X.env = pure true →
      PS X (.Assign [.Name y py] (.ListComp xelt [⟨tg, xi, ifs, 0⟩] scope pos) spos) (tAsg (Rx (wd X) (muE (.lc own vs elt p it' cs)) (ev G (.lc own vs elt p it' cs))) (gName i)) := by
  obtain ⟨h1, h2, _⟩ := all G (sizeOf elt + sizeOf it' + sizeOf cs + 1)
  unfold chkE at h
  exact (lc_of ok h1 h2 ⟨by omega, by omega, by omega⟩ (by unfold chkI; exact h)).2
theorem sLc2 (ok : XOk G C X) {vs vs1 : List Nat} {elt it' it1 : E} {p p1 : P} {cs1 : List E} {xelt tg xi tg1 xi1 : Expr} {ifs1 : List Expr} {scope : Scope} {pos : Pos} (h : chkX G C (.lc2 vs vs1 elt p it' p1 it1 cs1) (.ListComp xelt [⟨tg, xi, [], 0⟩, ⟨tg1, xi1, ifs1, 0⟩] scope pos) = true) :
    PE X (.ListComp xelt [⟨tg, xi, [], 0⟩, ⟨tg1, xi1, ifs1, 0⟩] scope pos) (Rx (wd X) (muE (.lc2 vs vs1 elt p it' p1 it1 cs1)) (ev G (.lc2 vs vs1 elt p it' p1 it1 cs1))) ∧
    ∀ (i : Nat) (y : Str) (py spos : Pos), C.N[i]? = some y → C.sc.names.lookup y = some .local → swapsWith (.ListComp xelt [⟨tg, xi, [], 0⟩, ⟨tg1, xi1, ifs1, 0⟩] scope pos) (some (.Name y py)) spos.line X.env = pure true →
      PS X (.Assign [.Name y py] (.ListComp xelt [⟨tg, xi, [], 0⟩, ⟨tg1, xi1, ifs1, 0⟩] scope pos) spos) (tAsg (Rx (wd X) (muE (.lc2 vs vs1 elt p it' p1 it1 cs1)) (ev G (.lc2 vs vs1 elt p it' p1 it1 cs1))) (gName i)) := by
  obtain ⟨h1, h2, _⟩ := all G (sizeOf elt + sizeOf it' + sizeOf it1 + sizeOf cs1 + 1)
  exact lc2_of ok h1 h2 ⟨by omega, by omega, by omega, by omega⟩ h
/-- EXPRESSIONS -/
theorem sE (ok : XOk G C X) {p : E} {x : Expr} (h : chkE G C p x = true) : PE X x (Rx (wd X) (muE p) (ev G p)) := (all G (sizeOf p + 1)).1 p C X x (Nat.lt_succ_self _) ok h
theorem sT (ok : XOk G C X) {p : E} {x : Expr} (h : chkE G C p x = true) (hb : (plainT x || chkB p x) = true) : PT X x (Bx (wd X) (muE p) (bRun G p)) := (all G (sizeOf p + 1)).2.1 p C X x (Nat.lt_succ_self _) ok h hb
theorem sI (ok : XOk G C X) {p : E} {x tg : Expr} (h : chkI G C p x tg = true) : PI X tg x (Ix (wd X) (muE p) (iRun G p)) := i_of ok (all G (sizeOf p + 1)).1 (Nat.lt_succ_self _) h
theorem sTs (ok : XOk G C X) {as : List E} {xs : List Expr} (h : chkTs G C as xs = true) : PA X xs (Lx (wd X) (muTs as) (evTs G as)) := ts_of ok (all G (sizeOf as + 1)).1 (Nat.lt_succ_self _) h
end
end TR
set_option Elab.async false
set_option linter.all false
set_option maxHeartbeats 4000000
set_option maxRecDepth 10000
/-! statements -/
namespace TR
open PySem PySem.Spec PyProof.Rows L2 StX
def SPost (B : Wd) (asl mu : List Nat) (σ : L2.St) (Z : Zn) (H : Hp) (env : Env) (Os : List (List Addr)) (env' : Env) (σ' : L2.St) (H' : Hp) : Prop :=
  ∃ Z' Os', Sat B Z' σ' H' env' Os' ∧ Step mu Z H env Os Z' H' env' Os' ∧ ∀ i, i ∉ asl → σ'[i]? = σ[i]?
def RPost (B : Wd) (asl mu : List Nat) (σ : L2.St) (Z : Zn) (H : Hp) (env : Env) (Os : List (List Addr)) (m : M) (env' : Env) (v : V) (H' : Hp) : Prop :=
  ∃ Z' Os' O σ', Sat B Z' σ' H' env' Os' ∧ Step mu Z H env Os Z' H' env' Os' ∧ (∀ i, i ∉ asl → σ'[i]? = σ[i]?) ∧ RM B Z' H' v m O ∧ (O ++ Os'.flatten).Nodup ∧ ∀ a ∈ O, ¬ Z' a ∧ (H a = none ∨ a ∈ Os.flatten)
def SEnd (B : Wd) (asl mu : List Nat) (σ : L2.St) (Z : Zn) (H : Hp) (env : Env) (Os : List (List Addr)) (D : Ends) : Out → Prop
  | .nx e => ∀ σ' H', SPost B asl mu σ Z H env Os e σ' H' → D.nx σ' H'
  | .br e => ∀ σ' H', SPost B asl mu σ Z H env Os e σ' H' → D.bk σ' H'
  | .ret m e => ∀ v H', RPost B asl mu σ Z H env Os m e v H' → D.rt v H'
def Sx (B : Wd) (asl mu : List Nat) (run : Env → R Out) : TS := fun D σ H => ∃ Z env Os, Sat B Z σ H env Os ∧ ∃ o, run env = .ok o ∧ SEnd B asl mu σ Z H env Os D o
section
variable {G : List Fn} {C : Ctx} {X : Cx} {B : Wd} {Z Z' Z0 Z1 Z2 : Zn} {H H' H0 H1 H2 : Hp} {σ σ' σ1 : L2.St} {env env' env0 env1 en : Env} {Os Os' Os0 Os1 : List (List Addr)} {mu mu1 mu2 asl asl1 asl2 vs : List Nat} {v : V} {m : M} {d : D} {e : E} {x : Expr} {pos p1 p2 p3 : Pos}
theorem SPost.trans (a : SPost B asl1 mu1 σ Z H env Os env1 σ1 H1) (h1 : ∀ i ∈ asl1, i ∈ asl) (h2 : ∀ i ∈ mu1, i ∈ mu) : ∃ Z1 Os1, Sat B Z1 σ1 H1 env1 Os1 ∧ (∀ e σ' H', SPost B asl2 mu2 σ1 Z1 H1 env1 Os1 e σ' H' → (∀ i ∈ asl2, i ∈ asl) → (∀ i ∈ mu2, i ∈ mu) → SPost B asl mu σ Z H env Os e σ' H') ∧
    ∀ m e v H', RPost B asl2 mu2 σ1 Z1 H1 env1 Os1 m e v H' → (∀ i ∈ asl2, i ∈ asl) → (∀ i ∈ mu2, i ∈ mu) → RPost B asl mu σ Z H env Os m e v H' := by
  obtain ⟨Z1, Os1, q1, s1, f1⟩ := a
  refine ⟨Z1, Os1, q1, fun e σ' H' ⟨Z2, Os2, q2, s2, f2⟩ k1 k2 => ⟨Z2, Os2, q2, s1.trans s2 h2 k2, fun i hi => ?_⟩, fun m e v H' ⟨Z2, Os2, O, σ', q2, s2, f2, r, nd, ho⟩ k1 k2 => ⟨Z2, Os2, O, σ', q2, s1.trans s2 h2 k2, fun i hi => ?_, r, nd, fun a ha => ⟨(ho a ha).1, ?_⟩⟩⟩
  · rw [f2 i fun h => hi (k1 i h), f1 i fun h => hi (h1 i h)]
  · rw [f2 i fun h => hi (k1 i h), f1 i fun h => hi (h1 i h)]
  · rcases (ho a ha).2 with k | k
    · exact .inl (s1.dom a k)
    · exact s1.on a k
theorem SEnd.trans {D : Ends} {o : Out} (a : SPost B asl1 mu1 σ Z H env Os env1 σ1 H1) (h1 : ∀ i ∈ asl1, i ∈ asl) (h2 : ∀ i ∈ mu1, i ∈ mu) (k1 : ∀ i ∈ asl2, i ∈ asl) (k2 : ∀ i ∈ mu2, i ∈ mu) (h : SEnd B asl mu σ Z H env Os D o) :
    ∃ Z1 Os1, Sat B Z1 σ1 H1 env1 Os1 ∧ SEnd B asl2 mu2 σ1 Z1 H1 env1 Os1 D o := by
  obtain ⟨Z1, Os1, q1, f1, f2⟩ := a.trans (asl2 := asl2) (mu2 := mu2) h1 h2
  refine ⟨Z1, Os1, q1, ?_⟩
  cases o with
  | nx e => exact fun σ' H' p => h σ' H' (f1 e σ' H' p k1 k2)
  | br e => exact fun σ' H' p => h σ' H' (f1 e σ' H' p k1 k2)
  | ret m e => exact fun v H' p => h v H' (f2 m e v H' p k1 k2)
theorem SPost.of (q : Sat B Z' σ H' env' Os') (s : Step mu Z H env Os Z' H' env' Os') : SPost B asl mu σ Z H env Os env' σ H' := ⟨Z', Os', q, s, fun _ _ => rfl⟩
theorem PS.or {st : Stmt} {t t' : TS} (h : PS X st t) (h' : PS X st t') : PS X st (fun D σ H => t D σ H ∨ t' D σ H) := ⟨fun pins s σ H D I q => q.elim (h.run pins s σ H D I) (h'.run pins s σ H D I)⟩
/-! ### blocks -/
theorem s_nil : PSs X [] (Sx (wd X) (asSs []) (muSs []) (exs G [])) := by
  refine PSs.of pss_nil fun D σ H ⟨Z, env, Os, q, o, h1, h2⟩ => ?_
  simp only [exs] at h1
  cases h1
  exact h2 σ H (.of q Step.refl)
theorem s_cons {s : S} {ss : List S} {st : Stmt} {sts : List Stmt} (h1 : PS X st (Sx (wd X) (asS s) (muS s) (ex G s))) (h2 : PSs X sts (Sx (wd X) (asSs ss) (muSs ss) (exs G ss))) : PSs X (st :: sts) (Sx (wd X) (asSs (s :: ss)) (muSs (s :: ss)) (exs G (s :: ss))) := by
  refine PSs.of (pss_cons h1 h2) fun D σ H ⟨Z, env, Os, q, o, k1, k2⟩ => ?_
  simp only [exs] at k1
  simp only [asSs, muSs] at k2
  obtain ⟨o1, k3, k4⟩ := R.bind_ok k1
  refine ⟨Z, env, Os, q, o1, k3, ?_⟩
  cases o1 with
  | nx e1 =>
    intro σ1 H1 p
    obtain ⟨Z1, Os1, q1, f⟩ := SEnd.trans (asl2 := asSs ss) (mu2 := muSs ss) p ml ml mr mr k2
    exact ⟨Z1, e1, Os1, q1, o, k4, f⟩
  | br e1 =>
    cases k4
    intro σ1 H1 p
    obtain ⟨Z1, Os1, q1, s1, f1⟩ := p
    exact k2 σ1 H1 ⟨Z1, Os1, q1, s1.mono ml, fun i hi => f1 i fun h => hi (ml i h)⟩
  | ret m e1 =>
    cases k4
    intro v H1 p
    obtain ⟨Z1, Os1, O, σ', q1, s1, f1, r⟩ := p
    exact k2 v H1 ⟨Z1, Os1, O, σ', q1, s1.mono ml, fun i hi => f1 i fun h => hi (ml i h), r⟩
/-! ### simple statements -/
def noComp : Expr → Bool
  | .ListComp .. => false
  | .SetComp .. => false
  | .DictComp .. => false
  | _ => true
theorem sw_no {t : Option Expr} {l : Nat} {env : PySem.Env} (h : noComp x = true) : swapsWith x t l env = pure false := by
  cases x <;> first | rfl | cases h
theorem s_pass : PS X (.Pass pos) (Sx (wd X) (asS .pass) (muS .pass) (ex G .pass)) := by
  refine PS.of ps_pass fun D σ H ⟨Z, env, Os, q, o, h1, h2⟩ => ?_
  simp only [ex] at h1
  cases h1
  exact h2 σ H (.of q Step.refl)
theorem s_brk : PS X (.Break pos) (Sx (wd X) (asS .brk) (muS .brk) (ex G .brk)) := by
  refine PS.of ps_break fun D σ H ⟨Z, env, Os, q, o, h1, h2⟩ => ?_
  simp only [ex] at h1
  cases h1
  exact h2 σ H (.of q Step.refl)
theorem s_never {a : E} {st : Stmt} : PS X st (Sx (wd X) (asS (.do_ (.star a))) (muS (.do_ (.star a))) (ex G (.do_ (.star a)))) := by
  refine PS.of ps_never fun D σ H ⟨Z, env, Os, q, o, h1, h2⟩ => ?_
  simp only [ex, ev] at h1
  cases h1
theorem s_do (he : PE X x (Rx (wd X) (muE e) (ev G e))) (hn : noComp x = true) : PS X (.Expr x pos) (Sx (wd X) (asS (.do_ e)) (muS (.do_ e)) (ex G (.do_ e))) := by
  refine PS.of (ps_expr he (sw_no hn)) fun D σ H ⟨Z, env, Os, q, o, h1, h2⟩ => ?_
  simp only [ex] at h1
  simp only [muS] at h2
  obtain ⟨⟨mm, rs, e1⟩, h3, h4⟩ := R.bind_ok h1
  cases h4
  exact Rx.go q h3 fun v H1 ⟨Z1, Os1, O1, q1, s1, r1, ro1⟩ => h2 σ H1 (.of q1 s1)
/-! returning -/
theorem ret_post {rs : List Nat} {e1 e2 : Env} {m' : M} (he : ev G e env = .ok (m, rs, e1)) (ht : retR e (m, rs, e1) = .ok (m', e2)) (hp : Post B (muE e) σ Z H env Os m rs e1 v H') : RPost B asl (muT e) σ Z H env Os m' e2 v H' := by
  obtain ⟨Z1, Os1, O, q, s, r, ro⟩ := hp
  have hm := (muT_of e).1
  unfold retR at ht
  split at ht
  · rename_i heq
    cases heq; cases ht
    cases r with | pu r => exact ⟨Z1, Os1, [], σ, q, s.mono hm, fun _ _ => rfl, .pu r, by simpa using q.nd, fun a h => nomatch h⟩
  · rename_i n1 heq
    cases heq
    cases ht
    exact ⟨Z1, Os1, O, σ, q, s.mono hm, fun _ _ => rfl, r, (ro.1 rfl).1, (ro.1 rfl).2⟩
  · rename_i n1 heq
    cases heq
    split at ht
    · rename_i i
      cases ht
      obtain ⟨e1, e2, e3⟩ := ev_var he
      cases e1
      rcases e3 with ⟨d, e4, e5⟩ | ⟨e4, e5⟩
      · cases e5
      · injection e5 with e6 e7
        subst e7
        have e8 := e6.symm
        subst e8
        obtain ⟨w, Oi, h3, ho, hr⟩ := q.val i m e2
        have hO : ∀ a ∈ O, a ∈ Oi := fun a ha => by
          obtain ⟨j, hj, Oj, h1, h2⟩ := ro.2.1 (by simp) a ha
          simp at hj; subst hj
          rw [ho] at h1; cases h1
          exact h2
        have hfl : ∀ a ∈ Oi, a ∈ Os1.flatten := fun a ha => mem_flat.mpr ⟨_, Oi, ho, ha⟩
        refine ⟨Z1, Os1.set i [], O, σ, ⟨by rw [List.length_set, List.length_set]; exact q.len1, by rw [List.length_set]; exact q.len2, fun j w' h => ?_, fun j h => ?_, nodup_set_nil q.nd, fun a ha => q.nz a (flat_set_nil ha).1, q.zh⟩,
          ⟨by rw [List.length_set], s.zz, s.zn, fun a ha => s.on a (flat_set_nil ha).1, s.keep, s.dom, fun j hj => ?_⟩, fun _ _ => rfl, r, List.nodup_append.mpr ⟨ro.2.2, nodup_set_nil q.nd, fun a ha b hb e => ?_⟩, fun a ha => ⟨q.nz a (hfl a (hO a ha)), s.on a (hfl a (hO a ha))⟩⟩
        · rcases getElem?_set_or h with ⟨_, h1, _⟩ | ⟨hj, h1⟩
          · cases h1
          · obtain ⟨v, O, h3, h4, r⟩ := q.val j w' h1
            exact ⟨v, O, h3, by rw [List.getElem?_set_ne (Ne.symm hj)]; exact h4, r⟩
        · rcases getElem?_set_or h with ⟨rfl, _, h1⟩ | ⟨hj, h1⟩
          · rw [List.getElem?_set_self (by rw [q.len1]; exact h1)]
          · rw [List.getElem?_set_ne (Ne.symm hj)]; exact q.emp j h1
        · have hn : i ≠ j := fun z => hj (z ▸ (muT_of (.var i)).2 i rfl)
          obtain ⟨z1, z2, z3⟩ := s.slot j (fun h => hj (hm j h))
          exact ⟨by rw [List.getElem?_set_ne hn], by rw [List.getElem?_set_ne hn]; exact z2, z3⟩
        · subst e
          exact (flat_set_nil hb).2 Oi ho q.nd (hO a ha)
    · cases ht
theorem s_ret (he : PE X x (Rx (wd X) (muE e) (ev G e))) : PS X (.Return (some x) pos) (Sx (wd X) (asS (.ret e)) (muS (.ret e)) (ex G (.ret e))) := by
  refine PS.of (ps_ret he) fun D σ H ⟨Z, env, Os, q, o, h1, h2⟩ => ?_
  simp only [ex] at h1
  simp only [muS] at h2
  obtain ⟨⟨mm, rs, e1⟩, h3, h4⟩ := R.bind_ok h1
  obtain ⟨⟨m', e2⟩, h5, h6⟩ := R.bind_ok h4
  cases h6
  exact Rx.go q h3 fun v H1 p => h2 v H1 (ret_post h3 h5 p)
theorem s_retN : PS X (.Return none pos) (Sx (wd X) (asS .retN) (muS .retN) (ex G .retN)) := by
  refine PS.of ps_retN fun D σ H ⟨Z, env, Os, q, o, h1, h2⟩ => ?_
  simp only [ex] at h1
  cases h1
  exact h2 .non H ⟨Z, Os, [], σ, q, Step.refl, fun _ _ => rfl, .pu .non, by simpa using q.nd, fun a h => nomatch h⟩
/-! if -/
theorem s_ifs {a b : List S} {sa sb : List Stmt} (hc : PT X x (Bx (wd X) (muE e) (bRun G e))) (ha : PSs X sa (Sx (wd X) (asSs a) (muSs a) (exs G a))) (hb : PSs X sb (Sx (wd X) (asSs b) (muSs b) (exs G b))) :
    PS X (.If x sa sb pos) (Sx (wd X) (asS (.ifs e a b)) (muS (.ifs e a b)) (ex G (.ifs e a b))) := by
  refine PS.of (ps_if hc ha hb) fun D σ H ⟨Z, env, Os, q, o, h1, h2⟩ => ?_
  simp only [ex] at h1
  simp only [muS, asS] at h2
  obtain ⟨r, h3, h4⟩ := R.bind_ok h1
  obtain ⟨⟨k, e1⟩, h5, h6⟩ := R.bind_ok h4
  refine ⟨Z, env, Os, q, k, e1, by unfold bRun; rw [h3]; exact h5, fun H1 ⟨Z1, Os1, q1, s1⟩ => ?_⟩
  have sp : SPost (wd X) [] (muE e) σ Z H env Os e1 σ H1 := .of q1 s1
  cases k with
  | true =>
    rw [if_pos rfl] at h6
    refine if_t ?_
    obtain ⟨Z2, Os2, q2, f⟩ := SEnd.trans (asl2 := asSs a) (mu2 := muSs a) sp (fun i h => nomatch h) (fun i hi => ml _ (ml _ hi)) (fun i hi => ml _ hi) (fun i hi => ml _ (mr _ hi)) h2
    exact ⟨Z2, e1, Os2, q2, o, h6, f⟩
  | false =>
    rw [if_neg (by simp)] at h6
    refine if_f ?_
    obtain ⟨Z2, Os2, q2, f⟩ := SEnd.trans (asl2 := asSs b) (mu2 := muSs b) sp (fun i h => nomatch h) (fun i hi => ml _ (ml _ hi)) (fun i hi => mr _ hi) (fun i hi => mr _ hi) h2
    exact ⟨Z2, e1, Os2, q2, o, h6, f⟩
end
end TR
set_option Elab.async false
set_option linter.all false
set_option maxHeartbeats 4000000
set_option maxRecDepth 10000
namespace TR
open PySem PySem.Spec PyProof.Rows L2 StX
structure SOk (G : List Fn) (C : Ctx) (X : Cx) : Prop extends XOk G C X where
  xe : X.xe = fun _ _ => False
  kind : C.sc.kind = .function
section
variable {G : List Fn} {C : Ctx} {X : Cx} {B : Wd} {Z Z' Z0 Z1 Z2 : Zn} {H H' H0 H1 H2 : Hp} {σ σ' σ1 : L2.St} {env env' env0 env1 en : Env} {Os Os' Os0 Os1 : List (List Addr)} {mu mu1 mu2 asl asl1 asl2 vs : List Nat} {v : V} {m : M} {d : D} {e : E} {x : Expr} {pos p1 p2 p3 : Pos} {nm : Str}
theorem SOk.pass (ok : SOk G C X) : PassesOwn (model X.prog X.w) X.A X.env X.xe := by rw [ok.xe]; exact PassesOwn.never
/-- a value that a slot is to hold -/
theorem keep_post {rs : List Nat} {e1 e2 : Env} {m' : M} (he : ev G e env = .ok (m, rs, e1)) (ht : keepR e (m, rs, e1) = .ok (m', e2)) (hp : Post B (muE e) σ Z H env Os m rs e1 v H') :
    ∃ Z' Os' O, Sat B Z' σ H' e2 Os' ∧ Step (muT e) Z H env Os Z' H' e2 Os' ∧ RM B Z' H' v m' O ∧ (O ++ Os'.flatten).Nodup ∧ ∀ a ∈ O, ¬ Z' a ∧ (H a = none ∨ a ∈ Os.flatten) := by
  have hp0 := hp
  obtain ⟨Z1, Os1, O, q, s, r, ro⟩ := hp
  have hm := (muT_of e).1
  unfold keepR at ht
  split at ht
  · rename_i heq
    cases heq; cases ht
    cases r with | pu r => exact ⟨Z1, Os1, [], q, s.mono hm, .pu r, by simpa using q.nd, fun a h => nomatch h⟩
  · rename_i n1 heq
    cases heq
    cases ht
    exact ⟨Z1, Os1, O, q, s.mono hm, r, (ro.1 rfl).1, (ro.1 rfl).2⟩
  · rename_i n1 heq
    cases heq
    split at ht
    · rename_i i
      cases ht
      have ht' : ∀ (h : Nat) (t : List Nat), takeR (.var i) (m, h :: t, e1) = .ok (m.toD, e1.set i (some (.pu m.toD))) := fun h t => by
        unfold takeR
        split
        · rename_i heq; cases heq; exact absurd rfl (n1 _)
        · rename_i heq; cases heq
        · rename_i heq; cases heq; rfl
      obtain ⟨Z2, Os2, q2, s2, r2⟩ := take_post he (ht' _ _) hp0
      exact ⟨Z2, Os2, [], q2, s2, .pu r2, by simpa using q2.nd, fun a h => nomatch h⟩
    · cases ht
/-- x = e, by whatever rule the text takes -/
theorem s_asgV {i : Nat} (hp : PS X (.Assign [.Name nm p1] x pos) (tAsg (Rx (wd X) (muE e) (ev G e)) (gName i))) : PS X (.Assign [.Name nm p1] x pos) (Sx (wd X) (asS (.asg (.v i) e)) (muS (.asg (.v i) e)) (ex G (.asg (.v i) e))) := by
  refine PS.of hp fun D σ H ⟨Z, env, Os, q, o, h1, h2⟩ => ?_
  simp only [ex] at h1
  simp only [muS, asS, P.slots] at h2
  obtain ⟨⟨mm, rs, e1⟩, h3, h4⟩ := R.bind_ok h1
  obtain ⟨⟨m', e2⟩, h5, h6⟩ := R.bind_ok h4
  dsimp only at h6
  obtain ⟨hi, h6⟩ := R.of_if h6
  cases h6
  refine Rx.go q h3 fun v H1 p => ?_
  obtain ⟨Z1, Os1, O, q1, s1, r1, nd, ho⟩ := keep_post h3 h5 p
  refine h2 (σ.set i (some v)) H1 ⟨Z1, Os1.set i O, q1.put hi r1 nd fun a ha => (ho a ha).1, (s1.mono fun j hj => List.mem_append_right _ hj).put q1 (by simp) hi fun a ha => (ho a ha).2, fun j hj => ?_⟩
  simp at hj
  rw [List.getElem?_set_ne (Ne.symm hj)]
theorem asg_name (ok : SOk G C X) {i : Nat} (hN : C.N[i]? = some nm) (hl : nm ∈ C.loc) (he : PE X x (Rx (wd X) (muE e) (ev G e))) (hs : swapsWith x (some (.Name nm p1)) pos.line X.env = pure false) :
    PS X (.Assign [.Name nm p1] x pos) (tAsg (Rx (wd X) (muE e) (ev G e)) (gName i)) := by
  obtain ⟨h1, h2⟩ := ok.loc nm hl
  exact ps_set (by rw [ok.N]; exact ok.nd) (by rw [ok.N]; exact hN) h1 he hs h2
/-- does the new list go straight to the name -/
def swB (C : Ctx) (nm : Str) (p1 : Pos) (scope : Scope) (pos : Pos) : Bool :=
  (decide (C.sc.names.lookup nm = some .local) && (p1.line == pos.line)) && !(scope.names.any fun (n, k) => n == nm && (k == .local || k == .cell))
theorem sw_eq (ok : SOk G C X) {elt : Expr} {gs : List Comprehension} {scope : Scope} {l : Nat} : swapsWith (.ListComp elt gs scope pos) (some (.Name nm p1)) l X.env = pure (swB C nm p1 scope pos) := by
  have hb : X.env.blockKind = .function := by unfold PySem.Env.blockKind; rw [ok.sc, ok.kind]; rfl
  have hk : (X.env.kindOf nm == some .local) = decide (C.sc.names.lookup nm = some .local) := by
    unfold PySem.Env.kindOf
    rw [ok.sc]
    cases hx : C.sc.names.lookup nm with
    | none => rfl
    | some k => cases k <;> rfl
  unfold swapsWith swB
  simp only [hb, hk, Expr.pos]
  rfl
/-- a, b = data -/
theorem s_asgT (ok : SOk G C X) {ps : List P} {ts : List Expr} {kk : Nat} {tpos : Pos} (hg : chkP C (.t ps) (.Tuple ts kk tpos) = true) (he : PE X x (Rx (wd X) (muE e) (ev G e))) (hs : swapsWithSole [.Tuple ts kk tpos] x pos.line X.env = pure false) (hw : swappedStores [.Tuple ts kk tpos] x X.env = pure none) :
    PS X (.Assign [.Tuple ts kk tpos] x pos) (Sx (wd X) (asS (.asg (.t ps) e)) (muS (.asg (.t ps) e)) (ex G (.asg (.t ps) e))) := by
  refine PS.of (ps_asg (k_take he) (g_of ok.toXOk (.t ps) _ hg) hs hw) fun D σ H ⟨Z, env, Os, q, o, h1, h2⟩ => ?_
  simp only [ex] at h1
  simp only [muS, asS] at h2
  obtain ⟨r, h3, h4⟩ := R.bind_ok h1
  obtain ⟨⟨d, e1⟩, h5, h6⟩ := R.bind_ok h4
  obtain ⟨e2, h7, h8⟩ := R.bind_ok h6
  cases h8
  refine Tx.go q (tRun_eq h3 h5) fun v H1 ⟨Z1, Os1, q1, s1, r1⟩ => ?_
  exact ⟨Z1, e1, Os1, d, e2, q1, r1, h7, fun σ2 H2 ⟨eh, Os2, q2, s2, f2, l2⟩ => by
    subst eh
    exact h2 σ2 _ ⟨Z1, Os2, q2, s1.trans s2 mr ml, f2⟩⟩
/-! ### writing into a slot's own object -/
theorem upd_dom {a : Addr} {o u : HO} (h : H a = some u) : ∀ b, L2.upd H a o b = none → H b = none := fun b e => by
  by_cases hb : b = a
  · subst hb; rw [upd_same] at e; cases e
  · rw [upd_ne hb] at e; exact e
/-- the slot's own object at a is written: its new content m1 -/
theorem slot_write {y : Nat} {a : Addr} {o : HO} {Oy : List Addr} {w : V} {m1 : M} (q : Sat B Z1 σ H1 env1 Os1) (s : Step mu Z H env Os Z1 H1 env1 Os1) (hy : y ∈ mu) (hw : σ[y]? = some (some w)) (hO : Os1[y]? = some Oy) (ha : a ∈ Oy)
    (r : ∀ (st : Stay Z1 H1 (L2.upd H1 a o)), RM B Z1 (L2.upd H1 a o) w m1 Oy) : Sat B Z1 σ (L2.upd H1 a o) (env1.set y (some m1)) (Os1.set y Oy) ∧ Step mu Z H env Os Z1 (L2.upd H1 a o) (env1.set y (some m1)) (Os1.set y Oy) ∧ Stay Z1 H1 (L2.upd H1 a o) := by
  have hf : ∀ b ∈ Oy, b ∈ Os1.flatten := fun b hb => mem_flat.mpr ⟨y, Oy, hO, hb⟩
  obtain ⟨u, hu⟩ := Mut.some (q.own a (hf a ha))
  have kp : ∀ b o', H1 b = some o' → b ∉ Oy → L2.upd H1 a o b = some o' := fun b o' e hn => by rw [upd_ne (fun h => hn (by rw [h]; exact ha))]; exact e
  have dom := upd_dom (o := o) hu
  have st : Stay Z1 H1 (L2.upd H1 a o) := ⟨fun b o' z e => kp b o' e fun h => q.nz b (hf b h) z, fun b ys e => kp b _ e fun h => q.not_tup e (hf b h), fun b o' u' e => kp b _ e fun h => q.not_frz e (hf b h)⟩
  refine ⟨q.upd hO kp (fun _ z => z) (fun b z => ⟨.inl z, fun e => q.zh b z (dom b e)⟩) rfl hw (fun _ _ => rfl) (r st) (flat_mem q.nd (List.mem_of_getElem? hO)) fun b hb => ⟨fun z => q.nz b (hf b hb) z, fun j O hj hOj => own_apart q (Ne.symm hj) hO hOj hb⟩,
    s.upd q hy hO kp dom (fun _ z => z) (fun b z => .inl z) fun b hb => s.on b (hf b hb), st⟩
def tAppend (B : Wd) (y : Nat) (t : TE) : TE := fun σ H Q => tBM B.K "list" rAppend (tVar y) (tCons t tNil) σ H Q
/-- y.append(e) -/
theorem s_app (ok : SOk G C X) {y : Nat} {ap cp : Pos} (hN : C.N[y]? = some nm) (hv : visB C.sc nm = true) (hd : noDbg nm = true) (he : PE X x (Rx (wd X) (muE e) (ev G e))) (hn : noStar x = true) (hl : (ap.endLine == cp.line) = true) :
    PS X (.Expr (.Call (.Attribute (.Name nm p2) "append" ap) [x] [] cp) pos) (Sx (wd X) (asS (.app y e)) (muS (.app y e)) (ex G (.app y e))) := by
  have hp : PE X (.Name nm p2) (tVar y) := pe_var (by rw [ok.N]; exact hN) (vis_of ok.toXOk hv) (noDbg_of hd).1 (noDbg_of hd).2.1
  refine PS.of (ps_expr (pe_bm PySem.F.plainAttrs_list PySem.F.slot_list_append PySem.F.type_list_append mt_append hp (pa_cons (k_take he) pa_nil (starEach_no hn)) rfl (few1 hn) hl (starEach_no hn) rfl) rfl) fun D σ H ⟨Z, env, Os, q, o, h1, h2⟩ => ?_
  simp only [ex] at h1
  simp only [muS, asS] at h2
  obtain ⟨m00, h0, h1⟩ := R.bind_ok h1
  obtain ⟨hli, h1⟩ := R.of_if h1
  obtain ⟨r, h3, h4⟩ := R.bind_ok h1
  obtain ⟨⟨d, e1⟩, h5, h6⟩ := R.bind_ok h4
  obtain ⟨m0, h7, h8⟩ := R.bind_ok h6
  obtain ⟨m2, h9, h10⟩ := R.bind_ok h8
  cases h10
  obtain ⟨w, Ow, hw, _, rw0⟩ := q.val y m00 (Env.get_ok h0)
  have hty : tyV (wd X).K "list" w H := by
    cases m00 with
    | li zs => cases rw0 with | li h r => exact lst_ty rfl (.inl (.of h))
    | _ => cases hli
  refine ⟨w, hw, hty, Tx.go q (tRun_eq h3 h5) fun v H1 ⟨Z1, Os1, q1, s1, r1⟩ => ?_⟩
  obtain ⟨w', Oy, hw', hO, rw1⟩ := q1.val y m0 (Env.get_ok h7)
  rw [hw] at hw'; cases hw'
  unfold appM at h9
  split at h9
  · rename_i ds
    obtain ⟨hz, h9⟩ := R.of_if h9
    cases h9
    cases rw1 with | li hH rl =>
    rename_i l ws
    have hlen := rl.length
    obtain ⟨k1, k2, k3⟩ := slot_write (o := .lst (ws ++ [v])) (m1 := .li (ds ++ [d])) (a := l) q1 (s1.mono fun i hi => List.mem_cons_of_mem _ hi) (mu := y :: muT e) List.mem_cons_self hw hO (by simp) (fun st => .li upd_same ((rl.append (.cons r1 .nil)).stay st fun _ z => z))
    exact ⟨l, ws, v, rfl, rfl, hH, by rw [← big_eq, hlen]; exact hz, h2 σ _ (.of k1 k2)⟩
  · cases h9
end
end TR
set_option Elab.async false
set_option linter.all false
set_option maxHeartbeats 4000000
set_option maxRecDepth 10000
namespace TR
open PySem PySem.Spec PyProof.Rows L2 StX
section
variable {G : List Fn} {C : Ctx} {X : Cx} {B : Wd} {Z Z' Z0 Z1 Z2 : Zn} {H H' H0 H1 H2 : Hp} {σ σ' σ1 : L2.St} {env env' env0 env1 en : Env} {Os Os' Os0 Os1 : List (List Addr)} {mu mu1 mu2 asl asl1 asl2 vs : List Nat} {v : V} {m : M} {d : D} {e : E} {x : Expr} {pos p1 p2 p3 : Pos} {nm : Str}
/-! ### for -/
def forF (G : List Fn) (p : P) (body : List S) : D → Env → R Out := fun x en => do
  let e2 ← bindP p x en
  exs G body e2
theorem s_for (ok : SOk G C X) {p : P} {body : List S} {tg xi : Expr} {sb : List Stmt} (hg : chkP C p tg = true) (hi : PI X tg xi (Ix (wd X) (muE e) (iRun G e))) (hb : PSs X sb (Sx (wd X) (asSs body) (muSs body) (exs G body))) (hs : noSet xi = true) :
    PS X (.For tg xi sb [] pos) (Sx (wd X) (asS (.for_ p e body)) (muS (.for_ p e body)) (ex G (.for_ p e body))) := by
  refine PS.of (ps_for ok.pass ok.calm hi (g_of ok.toXOk p tg hg) hb (fold_no hs)) fun D σ H ⟨Z, env, Os, q, o, h1, h2⟩ => ?_
  simp only [ex] at h1
  simp only [muS, asS] at h2
  obtain ⟨⟨mm, rs, e1⟩, h3, h4⟩ := R.bind_ok h1
  obtain ⟨xs, h5, h6⟩ := R.bind_ok h4
  obtain ⟨ap, h7⟩ := R.of_if h6
  refine ⟨Z, env, Os, q, rs, xs, e1, by unfold iRun; rw [h3]; show (itR mm >>= _) = _; rw [h5]; rfl, fun J H1 ⟨Z1, Os1, q1, s1, Gd, Y, w, hG, hY⟩ => ?_⟩
  have later : ∀ {Z H en Os}, Step (p.slots ++ muSs body) Z1 H1 e1 Os1 Z H en Os → Later rs Os1 Z1 H1 Z H := fun {Z H en Os} s => by
    refine ⟨s.zz, s.stay q1, fun i hi O hO a ha => ?_⟩
    have := List.all_eq_true.mp ap i hi
    simp only [List.contains_eq_mem, List.mem_append, Bool.not_eq_true', decide_eq_false_iff_not, not_or] at this
    exact (s.slot i (by simp only [List.mem_append, not_or]; exact ⟨this.2, this.1⟩)).2.2 O hO a ha
  have tot : ∀ {Z' H' en Os' σ'}, Sat (wd X) Z' σ' H' en Os' → Step (p.slots ++ muSs body) Z1 H1 e1 Os1 Z' H' en Os' → (∀ j, j ∉ p.slots ++ asSs body → σ'[j]? = σ[j]?) → SPost (wd X) (p.slots ++ asSs body) (p.slots ++ muE e ++ muSs body) σ Z H env Os en σ' H' :=
    fun {Z' H' en Os' σ'} q' s' f' => ⟨Z', Os', q', s1.trans s' (fun i hi => ml _ (mr _ hi)) (fun i hi => by
      rcases List.mem_append.mp hi with k | k
      · exact ml _ (ml _ k)
      · exact mr _ k), f'⟩
  refine for_it w (fun i σ' H' => ∃ Z en Os, Sat (wd X) Z σ' H' en Os ∧ Step (p.slots ++ muSs body) Z1 H1 e1 Os1 Z H' en Os ∧ (∀ j, j ∉ p.slots ++ asSs body → σ'[j]? = σ[j]?) ∧ foLoop (forF G p body) (xs.drop i) en = .ok o) ?_ ?_ ?_ ?_
  · exact ⟨Z1, e1, Os1, q1, Step.refl, fun _ _ => rfl, by rw [List.drop_zero]; exact h7⟩
  · rintro i σ' H' hi ⟨Z, en, Os, q, s, _⟩
    exact hG Z H' (later s)
  · rintro i y σ' H' H'' hi ⟨Z2, en, Os2, q2, s2, f2, hr⟩ hy
    have hx : xs[i]? = some xs[i] := List.getElem?_eq_getElem hi
    obtain ⟨g1, rx⟩ := hY Z2 H' i y H'' xs[i] (later s2) hx hy
    rw [List.drop_eq_getElem_cons hi] at hr
    obtain ⟨o1, h8, h9⟩ := R.bind_ok hr
    obtain ⟨e3, h10, h11⟩ := R.bind_ok h8
    refine ⟨Z2, en, Os2, _, e3, q2.grow g1, rx, h10, fun σ3 H3 ⟨eh, Os3, q3, s3, f3, l3⟩ => ?_⟩
    subst eh
    have s23 : Step (p.slots ++ muSs body) Z1 H1 e1 Os1 Z2 _ e3 Os3 := (s2.grow g1 q2).trans s3 (fun i hi => hi) (fun i hi => ml _ hi)
    have f23 : ∀ j, j ∉ p.slots ++ asSs body → σ3[j]? = σ[j]? := fun j hj => by rw [f3 j fun h => hj (ml _ h), f2 j hj]
    refine ⟨Z2, e3, Os3, q3, o1, h11, ?_⟩
    cases o1 with
    | nx e4 =>
      intro σ4 H4 ⟨Z4, Os4, q4, s4, f4⟩
      exact ⟨Z4, e4, Os4, q4, s23.trans s4 (fun i hi => hi) (fun i hi => mr _ hi), fun j hj => by rw [f4 j fun h => hj (mr _ h), f23 j hj], h9⟩
    | br e4 =>
      cases h9
      intro σ4 H4 ⟨Z4, Os4, q4, s4, f4⟩
      exact h2 σ4 H4 (tot q4 (s23.trans s4 (fun i hi => hi) (fun i hi => mr _ hi)) fun j hj => by rw [f4 j fun h => hj (mr _ h), f23 j hj])
    | ret m e4 =>
      cases h9
      intro v H4 ⟨Z4, Os4, O, σ4, q4, s4, f4, r, nd, ho⟩
      have s24 := s23.trans s4 (mu := p.slots ++ muSs body) (fun i hi => hi) (fun i hi => mr _ hi)
      obtain ⟨_, _, k1, k2, k3⟩ := tot q4 s24 fun j hj => by rw [f4 j fun h => hj (mr _ h), f23 j hj]
      refine h2 v H4 ⟨Z4, Os4, O, σ4, q4, s1.trans s24 (fun i hi => ml _ (mr _ hi)) (fun i hi => ?_), fun j hj => by rw [f4 j fun h => hj (mr _ h), f23 j hj], r, nd, fun a ha => ⟨(ho a ha).1, ?_⟩⟩
      · rcases List.mem_append.mp hi with k | k
        · exact ml _ (ml _ k)
        · exact mr _ k
      · rcases (ho a ha).2 with k | k
        · exact .inl (s1.dom a (s23.dom a k))
        · rcases s23.on a k with k | k
          · exact .inl (s1.dom a k)
          · exact s1.on a k
  · rintro σ' H' ⟨Z2, en, Os2, q2, s2, f2, hr⟩
    rw [List.drop_of_length_le (Nat.le_refl _)] at hr
    cases hr
    exact h2 σ' H' (tot q2 s2 f2)
/-! ### y[i] = e -/
theorem PSet.or {t t' : TSet} (h : PSet X t) (h' : PSet X t') : PSet X (fun o i v H Q => t o i v H Q ∨ t' o i v H Q) := fun pins s σ H o i v ov iv u Q I ro ri rv q =>
  q.elim (h pins s σ H o i v ov iv u Q I ro ri rv) (h' pins s σ H o i v ov iv u Q I ro ri rv)
theorem eqv_keyD (a b : Key) : PyData.eqv (keyD a) (keyD b) = decide (a = b) := eqv_key a b
theorem RKV.any {ks : List (Key × V)} {kvs : List (D × D)} (r : RKV B Z H ks kvs) (k : Key) : (kvs.any fun kv => PyData.eqv kv.1 (keyD k)) = ks.any fun kv => decide (kv.1 = k) := by
  induction kvs generalizing ks with
  | nil => cases r; rfl
  | cons kv kvs ih =>
    cases r with | cons h r =>
    rw [List.any_cons, List.any_cons, ih r, eqv_key]
theorem RKV.repl {ks : List (Key × V)} {kvs : List (D × D)} (r : RKV B Z H ks kvs) (k : Key) (hv : Rp B Z H v d) :
    RKV B Z H (ks.map fun kv => if kv.1 = k then (kv.1, v) else kv) (kvs.map fun kv => if PyData.eqv kv.1 (keyD k) = true then (kv.1, d) else kv) := by
  induction kvs generalizing ks with
  | nil => cases r; exact .nil
  | cons kv kvs ih =>
    cases r with | cons h r =>
    rename_i j w ks dd
    rw [List.map_cons, List.map_cons, eqv_key]
    by_cases e : j = k
    · rw [if_pos e, if_pos (by simpa using e)]
      exact .cons hv (ih r)
    · rw [if_neg e, if_neg (by simpa using e)]
      exact .cons h (ih r)
theorem RKV.snoc {ks : List (Key × V)} {kvs : List (D × D)} (r : RKV B Z H ks kvs) (k : Key) (hv : Rp B Z H v d) : RKV B Z H (ks ++ [(k, v)]) (kvs ++ [(keyD k, d)]) := by
  induction kvs generalizing ks with
  | nil => cases r; exact .cons hv .nil
  | cons kv kvs ih => cases r with | cons h r => exact .cons h (ih r)
theorem RKV.put {ks : List (Key × V)} {kvs : List (D × D)} (r : RKV B Z H ks kvs) (k : Key) (hv : Rp B Z H v d) : RKV B Z H (putK ks k v) (dPut kvs (keyD k) d) := by
  unfold putK dPut
  rw [r.any]
  by_cases h : (ks.any fun kv => decide (kv.1 = k)) = true
  · rw [if_pos h, if_pos h]
    have := r.repl k hv
    simpa using this
  · rw [if_neg h, if_neg h]
    exact r.snoc k hv
theorem RM.li_inv {ds : List TR.D} {O : List Addr} (r : RM B Z H v (.li ds) O) : ∃ a ws, v = .ref a ∧ O = [a] ∧ H a = some (.lst ws) ∧ RpL B Z H ws ds := by
  cases r with | li h r => exact ⟨_, _, rfl, rfl, h, r⟩
/-- y[i] = v, y a dict -/
def rSetA (X : Cx) : TSet := fun o i v H Q => ∃ a ks c, o = .ref a ∧ DAE X H a ks ∧ i = kV c ∧ ks.length < sizeLine ∧ ∀ es ep, PinA (wd X) a es ep (putK ks c v) → Q (L2.upd H a (dO a es ep))
def rSetN (X : Cx) : TSet := fun o i v H Q => ∃ a xs k, o = .ref a ∧ DNE X H a xs ∧ TK X H i k ∧ xs.length < sizeLine ∧ ∀ b es ep u, i = .ref b → RelV v u → PinN (wd X) a es (storedH xs (nkD k) b u) → Q (L2.upd H a (dO a es ep))
theorem set_da : PSet X (rSetA X) := by
  rintro pins s σ H o i v ov iv u Q I ro ri rv ⟨a, ks, c, rfl, hd, rfl, hl, q⟩
  cases (show ov = Value.ref a from ro)
  exact da_set I hd ri rv hl fun es ep s' p I' => ⟨_, I', q es ep p⟩
theorem set_dn (hu : X.A.units + 100 < cLine) : PSet X (rSetN X) := by
  rintro pins s σ H o i v ov iv u Q I ro ri rv ⟨a, xs, k, rfl, hd, tk, hl, q⟩
  cases (show ov = Value.ref a from ro)
  exact dn_set hu I hd tk ri hl fun b es ep s' e p I' => ⟨_, I', q b es ep u e rv p⟩
theorem RM.di_ref {kvs : List (TR.D × TR.D)} {O : List Addr} (r : RM B Z H v (.di kvs) O) : ∃ a, v = .ref a ∧ O = [a] := by
  cases r with
  | dA _ _ _ => exact ⟨_, rfl, rfl⟩
  | dN _ _ _ => exact ⟨_, rfl, rfl⟩
theorem RM.nl_inv {dss : List (List TR.D)} {O : List Addr} (r : RM B Z H v (.nl dss) O) : ∃ a ws O', v = .ref a ∧ O = a :: O' ∧ H a = some (.lst ws) ∧ RN B Z H ws dss O' := by
  cases r with | nl h r => exact ⟨_, _, _, rfl, rfl, h, r⟩
theorem putI_ok {m0 mi m2 : M} {d : TR.D} (h : putI m0 mi d = .ok m2) : (∃ ds k j, m0 = .li ds ∧ mi = .pu (.int k) ∧ ixOf ds.length k = some j ∧ m2 = .li (ds.set j d)) ∨
    ∃ kvs k, m0 = .di kvs ∧ mi = .pu k ∧ keyFit kvs k = true ∧ kvs.length < big ∧ m2 = .di (dPut kvs k d) := by
  unfold putI at h
  split at h
  · split at h
    · cases h; exact .inl ⟨_, _, _, rfl, rfl, by assumption, rfl⟩
    · cases h
  · obtain ⟨hc, h⟩ := R.of_if h
    cases h
    simp only [Bool.and_eq_true, decide_eq_true_eq] at hc
    exact .inr ⟨_, _, rfl, rfl, hc.1, hc.2, rfl⟩
  · cases h
theorem appII_ok {m0 mi m2 : M} {d : TR.D} (h : appII m0 mi d = .ok m2) : ∃ xss k j zs, m0 = .nl xss ∧ mi = .pu (.int k) ∧ ixOf xss.length k = some j ∧ xss[j]? = some zs ∧ zs.length < big ∧ m2 = .nl (xss.set j (zs ++ [d])) := by
  unfold appII at h
  split at h
  · split at h
    · split at h
      · obtain ⟨hc, h⟩ := R.of_if h
        cases h
        exact ⟨_, _, _, _, rfl, rfl, by assumption, by assumption, hc, rfl⟩
      · cases h
    · cases h
  · cases h
theorem sws_no {t : Expr} {l : Nat} {env : PySem.Env} {o i : Expr} {p : Pos} (h : t = .Subscript o i p) : swapsWithSole [t] x l env = pure false := by
  subst h
  show swapsWith x (some (.Subscript o i p)) l env = pure false
  unfold swapsWith
  cases x <;> rfl
theorem sst_no {t : Expr} {env : PySem.Env} {o i : Expr} {p : Pos} (h : t = .Subscript o i p) : swappedStores [t] x env = pure none := by
  subst h
  unfold swappedStores
  cases x <;> rfl
theorem s_setI (ok : SOk G C X) {y : Nat} {ei : E} {xi : Expr} (hN : C.N[y]? = some nm) (hv : visB C.sc nm = true) (hd : noDbg nm = true) (he : PE X x (Rx (wd X) (muE e) (ev G e))) (hi : PE X xi (Rx (wd X) (muE ei) (ev G ei))) (hpi : plainIx xi = true) :
    PS X (.Assign [.Subscript (.Name nm p2) xi p1] x pos) (Sx (wd X) (asS (.setI y ei e)) (muS (.setI y ei e)) (ex G (.setI y ei e))) := by
  have hp : PE X (.Name nm p2) (tVar y) := pe_var (by rw [ok.N]; exact hN) (vis_of ok.toXOk hv) (noDbg_of hd).1 (noDbg_of hd).2.1
  refine PS.of (ps_asg (k_take he) (pg_sub hp hi (PSet.or set_list (PSet.or set_da (set_dn ok.hu))) (fun v => by cases xi <;> first | rfl | cases hpi)) (sws_no rfl) (sst_no rfl)) fun D σ H ⟨Z, env, Os, q, o, h1, h2⟩ => ?_
  simp only [ex] at h1
  simp only [muS, asS] at h2
  obtain ⟨m00, h0, h1⟩ := R.bind_ok h1
  obtain ⟨r, h3, h4⟩ := R.bind_ok h1
  obtain ⟨⟨d, e1⟩, h5, h6⟩ := R.bind_ok h4
  obtain ⟨⟨mi, ri, e2⟩, h7, h8⟩ := R.bind_ok h6
  obtain ⟨m0, h9, h10⟩ := R.bind_ok h8
  obtain ⟨m2, h11, h12⟩ := R.bind_ok h10
  cases h12
  obtain ⟨w, Ow, hw, _, rw0⟩ := q.val y m00 (Env.get_ok h0)
  refine Tx.go q (tRun_eq h3 h5) fun v H1 ⟨Z1, Os1, q1, s1, r1⟩ => ⟨w, hw, Rx.go q1 h7 fun vi H2 ⟨Z2, Os2, O2, q2, s2, r2, ro2⟩ => ?_⟩
  obtain ⟨w', Oy, hw', hO, rw1⟩ := q2.val y m0 (Env.get_ok h9)
  rw [hw] at hw'; cases hw'
  have s12 : Step (y :: (muT e ++ muE ei)) Z H env Os Z2 H2 e2 Os2 := s1.trans s2 (fun i hi => List.mem_cons_of_mem _ (ml _ hi)) (fun i hi => List.mem_cons_of_mem _ (mr _ hi))
  have r1' := r1.stay (s2.stay q1) s2.zz
  rcases putI_ok h11 with ⟨ds, k, j, rfl, rfl, hj, rfl⟩ | ⟨kvs, k, rfl, rfl, hk, hz, rfl⟩
  · have := r2.int; subst this
    obtain ⟨l, ws, rfl, rfl, hH, rl⟩ := rw1.li_inv
    obtain ⟨k1, k2, k3⟩ := slot_write (o := .lst (ws.set j v)) (m1 := .li (ds.set j d)) (a := l) q2 s12 List.mem_cons_self hw hO (by simp) (fun st => .li upd_same ((rl.set r1' j).stay st fun _ z => z))
    exact .inl ⟨l, ws, k, j, rfl, rfl, hH, by rw [rl.length]; exact hj, h2 σ _ (.of k1 k2)⟩
  · obtain ⟨l, ew, hO1⟩ := rw1.di_ref
    subst hO1
    obtain ⟨l', ew', h⟩ := rw1.fit rfl r2 hk
    have el : l' = l := by rw [ew] at ew'; exact (V.ref.inj ew').symm
    subst el
    rcases h with ⟨ks, k', hda, rk, rfl, rfl⟩ | ⟨xs, hn, rn, tk⟩
    · refine .inr (.inl ⟨l', ks, k', ew, hda, rfl, by rw [← big_eq, rk.length]; exact hz, fun es ep pn => ?_⟩)
      obtain ⟨k1, k2, k3⟩ := slot_write (o := dO l' es ep) (m1 := .di (dPut kvs (keyD k') d)) (a := l') q2 s12 List.mem_cons_self (by rw [hw, ew]) hO (by simp) (fun st => .dA upd_same pn ((rk.put k' r1').stay st fun _ z => z))
      exact h2 σ _ (.of k1 k2)
    · refine .inr (.inr ⟨l', xs, k, ew, hn, tk, by rw [← big_eq, rn.length]; exact hz, fun b es ep u eb ru pn => ?_⟩)
      have rk2 : Rp (wd X) Z2 H2 (.ref b) k := by rw [← eb]; cases r2 with | pu r2 => exact r2
      obtain ⟨k1, k2, k3⟩ := slot_write (o := dO l' es ep) (m1 := .di (dPut kvs k d)) (a := l') q2 s12 List.mem_cons_self (by rw [hw, ew]) hO (by simp) (fun st => .dN upd_same pn ((rn.put tk.1 rk2 ru r1').stay st fun _ z => z))
      exact h2 σ _ (.of k1 k2)
/-! ### y[i].append(e) -/
theorem RN.upd : ∀ {vs : List V} {dss : List (List D)} {O : List Addr} {j : Nat} {a : Addr} {o : HO} {ws : List V} {ds : List D}, RN B Z H vs dss O → O.Nodup → O[j]? = some a → Stay Z H (L2.upd H a (.lst ws)) → RpL B Z (L2.upd H a (.lst ws)) ws ds →
    RN B Z (L2.upd H a (.lst ws)) vs (dss.set j ds) O
  | _, _, _, j, a, o, ws, ds, .nil, _, h, _, _ => by simp at h
  | _, _, _, 0, a, o, ws, ds, .cons h0 r0 t, nd, h, st, r => by
    simp at h; subst h
    exact .cons upd_same r (t.stay st (fun _ z => z) fun b u hb e => by
      rw [upd_ne (fun z => (List.nodup_cons.mp nd).1 (by rw [← z]; exact hb))]; exact e)
  | _, _, _, j + 1, a, o, ws, ds, .cons h0 r0 t, nd, h, st, r => by
    simp at h
    have hm := List.mem_of_getElem? h
    refine .cons ?_ (r0.stay st fun _ z => z) (RN.upd (o := o) t (List.nodup_cons.mp nd).2 h st r)
    rw [upd_ne (fun z => (List.nodup_cons.mp nd).1 (by rw [z]; exact hm))]; exact h0
theorem s_appI (ok : SOk G C X) {y : Nat} {ei : E} {xi : Expr} {ap cp : Pos} (hN : C.N[y]? = some nm) (hv : visB C.sc nm = true) (hd : noDbg nm = true) (he : PE X x (Rx (wd X) (muE e) (ev G e))) (hi : PE X xi (Rx (wd X) (muE ei) (ev G ei))) (hpi : plainIx xi = true) (hn : noStar x = true) (hl : (ap.endLine == cp.line) = true) :
    PS X (.Expr (.Call (.Attribute (.Subscript (.Name nm p2) xi p1) "append" ap) [x] [] cp) pos) (Sx (wd X) (asS (.appI y ei e)) (muS (.appI y ei e)) (ex G (.appI y ei e))) := by
  have hp : PE X (.Name nm p2) (tVar y) := pe_var (by rw [ok.N]; exact hN) (vis_of ok.toXOk hv) (noDbg_of hd).1 (noDbg_of hd).2.1
  refine PS.of (ps_expr (pe_bm PySem.F.plainAttrs_list PySem.F.slot_list_append PySem.F.type_list_append mt_append (pe_ix ix_list hp hi (plainIx_ok hpi)) (pa_cons (k_take he) pa_nil (starEach_no hn)) rfl (few1 hn) hl (starEach_no hn) rfl) rfl) fun D σ H ⟨Z, env, Os, q, o, h1, h2⟩ => ?_
  simp only [ex] at h1
  simp only [muS, asS] at h2
  obtain ⟨m00, h0, h1⟩ := R.bind_ok h1
  obtain ⟨⟨mi, ri, e1⟩, h3, h4⟩ := R.bind_ok h1
  obtain ⟨m0, h9, h10⟩ := R.bind_ok h4
  obtain ⟨r, h5, h6⟩ := R.bind_ok h10
  obtain ⟨⟨d, e2⟩, h7, h8⟩ := R.bind_ok h6
  obtain ⟨m2, h11, h12⟩ := R.bind_ok h8
  dsimp only at h9 h11
  split at h12
  · cases h12
  rename_i hny
  cases h12
  have hny' : y ∉ muT e := by simpa using hny
  obtain ⟨w, Ow, hw, _, rw0⟩ := q.val y m00 (Env.get_ok h0)
  have hget := Env.get_ok h9
  obtain ⟨xss, k, j, zs, rfl, rfl, hj, hz, hlen, rfl⟩ := appII_ok h11
  refine ⟨w, hw, Rx.go q h3 fun vi H1 ⟨Z1, Os1, O1, q1, s1, r1, ro1⟩ => ?_⟩
  obtain ⟨w', Oy, hw', hO, rw1⟩ := q1.val y _ hget
  rw [hw] at hw'; cases hw'
  have := r1.int; subst this
  obtain ⟨l0, ws0, O', rfl, rfl, hH0, rn⟩ := rw1.nl_inv
  obtain ⟨b, ws, h13, h14, h15, h16⟩ := rn.at hz
  refine ⟨l0, ws0, k, .ref b, rfl, rfl, .inl (.of hH0), ?_, lst_ty rfl (.inl (.of h15)), Tx.go q1 (tRun_eq h5 h7) fun v H2 ⟨Z2, Os2, q2, s2, r2⟩ => ?_⟩
  · unfold L2.atI
    rw [rn.length, ← ixOf_eq, hj]
    exact h13
  obtain ⟨t1, t2, t3⟩ := s2.slot y hny'
  have hO2 : Os2[y]? = some (l0 :: O') := t2.trans hO
  have hbO : b ∈ O' := List.mem_of_getElem? h14
  have hA2 : H2 b = some (.lst ws) := (t3 _ hO b (List.mem_cons_of_mem _ hbO)).trans h15
  obtain ⟨w2, Oy2, hw2, hO3, rw2⟩ := q2.val y (.nl xss) (t1.trans hget)
  rw [hw] at hw2; cases hw2
  rw [hO2] at hO3; cases hO3
  obtain ⟨l1, ws1, O1', e1, e3, hH1, rn2⟩ := rw2.nl_inv
  cases e1; cases e3
  have nd : (l0 :: O').Nodup := flat_mem q2.nd (List.mem_of_getElem? hO2)
  have rA2 : RpL (wd X) Z2 H2 ws zs := h16.stay (s2.stay q1) s2.zz
  have s12 : Step (y :: (muE ei ++ muT e)) Z H env Os Z2 H2 e2 Os2 := s1.trans s2 (fun i hi => List.mem_cons_of_mem _ (ml _ hi)) (fun i hi => List.mem_cons_of_mem _ (mr _ hi))
  have hlw := rA2.length
  have hne : l0 ≠ b := fun z => (List.nodup_cons.mp nd).1 (by rw [z]; exact hbO)
  obtain ⟨k1, k2, k3⟩ := slot_write (o := .lst (ws ++ [v])) (m1 := .nl (xss.set j (zs ++ [d]))) (a := b) q2 s12 List.mem_cons_self hw hO2 (List.mem_cons_of_mem _ hbO) (fun st => .nl (by rw [upd_ne hne]; exact hH1) (RN.upd (o := .lst (ws ++ [v])) rn2 (List.nodup_cons.mp nd).2 h14 st ((rA2.append (.cons r2 .nil)).stay st fun _ z => z)))
  exact ⟨b, ws, v, rfl, rfl, hA2, by rw [← big_eq, hlw]; exact hlen, h2 σ _ (.of k1 k2)⟩
end
end TR
set_option Elab.async false
set_option linter.all false
set_option maxHeartbeats 4000000
set_option maxRecDepth 10000
namespace TR
open PySem PySem.Spec PyProof.Rows L2 StX
section
variable {G : List Fn} {C : Ctx} {X : Cx} {B : Wd} {Z Z' Z0 Z1 Z2 : Zn} {H H' H0 H1 H2 : Hp} {σ σ' σ1 : L2.St} {env env' env0 env1 en : Env} {Os Os' Os0 Os1 : List (List Addr)} {mu mu1 mu2 asl asl1 asl2 vs : List Nat} {v : V} {m : M} {d : D} {e : E} {x : Expr} {pos p1 p2 p3 : Pos} {nm : Str}
/-- values that are stored in order though the text stores them at once -/
def parB (C : Ctx) (x y : Str) (px py : Pos) (a b : Expr) : Bool :=
  decide (C.sc.names.lookup x = some .local) && decide (C.sc.names.lookup y = some .local) && (py.line == px.line) && !decide (x = y) && noStar a && noStar b && !([a, b].all (foldedForSure 8)) && !([a, b].all (constantsAlone 8))
theorem par_eq (ok : SOk G C X) {x y : Str} {px py pt pt2 : Pos} {a b : Expr} {kt k2 : Nat} (h : parB C x y px py a b = true) :
    swappedStores [.Tuple [.Name x px, .Name y py] kt pt] (.Tuple [a, b] k2 pt2) X.env = pure (some [x, y]) := by
  unfold parB at h
  simp only [Bool.and_eq_true, decide_eq_true_eq, Bool.not_eq_true', decide_eq_false_iff_not] at h
  obtain ⟨⟨⟨⟨⟨⟨⟨h1, h2⟩, h3⟩, h4⟩, h5⟩, h6⟩, h7⟩, h8⟩ := h
  have hb : X.env.blockKind = .function := by unfold PySem.Env.blockKind; rw [ok.sc, ok.kind]; rfl
  have kx : X.env.kindOf x = some .local := by unfold PySem.Env.kindOf; rw [ok.sc]; exact h1
  have ky : X.env.kindOf y = some .local := by unfold PySem.Env.kindOf; rw [ok.sc]; exact h2
  have ha : (match (generalizing := false) a with | .Starred .. => true | _ => false) = false := by cases a <;> first | rfl | cases h5
  have hb2 : (match (generalizing := false) b with | .Starred .. => true | _ => false) = false := by cases b <;> first | rfl | cases h6
  have hd : ([x, y] : List Str).eraseDups = [x, y] := by
    have hxy : (y == x) = false := by
      rw [beq_eq_false_iff_ne]; exact fun z => h4 z.symm
    simp [List.eraseDups, List.eraseDupsBy, List.eraseDupsBy.loop, hxy]
  have h3' : py.line = px.line := eq_of_beq h3
  simp only [List.all_cons, List.all_nil, Bool.and_true] at h7 h8
  unfold swappedStores
  simp [hb, h7, h8, List.filterMap_cons, kx, ky, h3', hd, Expr.pos]
  intro h
  rcases h with h | h
  · cases a <;> first | (cases h5; done) | (cases h; done)
  · cases b <;> first | (cases h6; done) | (cases h; done)
/-- a value kept while another is made -/
theorem kept_later {O : List Addr} (q : Sat B Z1 σ H1 env1 Os1) (r : RM B Z1 H1 v m O) (nd : (O ++ Os1.flatten).Nodup) (nz : ∀ a ∈ O, ¬ Z1 a) (s : Step mu Z1 H1 env1 Os1 Z2 H2 env' Os') : RM B Z2 H2 v m O ∧ (∀ a ∈ O, a ∉ Os'.flatten) ∧ ∀ a ∈ O, ¬ Z2 a := by
  have off : ∀ a ∈ O, a ∉ Os1.flatten := fun a ha h => (List.nodup_append.mp nd).2.2 a ha a h rfl
  refine ⟨r.stay (s.stay q) s.zz fun a o ha e => s.keep a o e (off a ha), fun a ha h => ?_, fun a ha z => ?_⟩
  · rcases s.on a h with k | k
    · exact r.ne a ha k
    · exact off a ha k
  · rcases s.zn a z with k | k | k
    · exact nz a ha k
    · exact r.ne a ha k
    · exact off a ha k
/-- x, y = (a, b) stored in order -/
theorem s_par2 (ok : SOk G C X) {i j : Nat} {x y : Str} {px py pt pt2 : Pos} {xa xb : Expr} {a b : E} {kt k2 : Nat} (hi : C.N[i]? = some x) (hj : C.N[j]? = some y) (h : parB C x y px py xa xb = true)
    (ha : PE X xa (Rx (wd X) (muE a) (ev G a))) (hb : PE X xb (Rx (wd X) (muE b) (ev G b))) :
    PS X (.Assign [.Tuple [.Name x px, .Name y py] kt pt] (.Tuple [xa, xb] k2 pt2) pos) (Sx (wd X) (asS (.par [i, j] [a, b])) (muS (.par [i, j] [a, b])) (ex G (.par [i, j] [a, b]))) := by
  have hw := par_eq (kt := kt) (k2 := k2) (pt := pt) (pt2 := pt2) ok h
  unfold parB at h
  simp only [Bool.and_eq_true, decide_eq_true_eq, Bool.not_eq_true', decide_eq_false_iff_not] at h
  obtain ⟨⟨⟨⟨⟨⟨⟨g1, g2⟩, _⟩, g4⟩, g5⟩, g6⟩, _⟩, _⟩ := h
  have hij : i ≠ j := fun e => by subst e; rw [hi] at hj; cases hj; exact g4 rfl
  refine PS.of (ps_par ok.calm (by rw [ok.N]; exact ok.nd) (by rw [ok.N]; exact hi) (by rw [ok.N]; exact hj) hij (by rw [ok.sc]; exact g1) (by rw [ok.sc]; exact g2) (pa_cons ha (pa_cons hb pa_nil (starEach_no g6)) (starEach_no g5)) hw) fun D σ H ⟨Z, env, Os, q, o, h1, h2⟩ => ?_
  simp only [ex, keepAll] at h1
  simp only [muS, asS, muTs, List.append_nil] at h2
  obtain ⟨⟨ms, e9⟩, h3, h4⟩ := R.bind_ok h1
  obtain ⟨r1, h5, h3⟩ := R.bind_ok h3
  obtain ⟨⟨m1, e1⟩, h6, h3⟩ := R.bind_ok h3
  obtain ⟨⟨ms2, e8⟩, h7, h3⟩ := R.bind_ok h3
  obtain ⟨r2, h8, h7⟩ := R.bind_ok h7
  obtain ⟨⟨m2, e2⟩, h9, h7⟩ := R.bind_ok h7
  cases h7
  cases h3
  obtain ⟨e10, h10, h11⟩ := R.bind_ok h4
  cases h11
  simp only [setAll] at h10
  obtain ⟨il, h10⟩ := R.of_if h10
  obtain ⟨jl, h10⟩ := R.of_if h10
  cases h10
  obtain ⟨ma, ra, ea⟩ := r1
  obtain ⟨mb, rb, eb⟩ := r2
  refine Rx.go q h5 fun va H1 p1 => ?_
  obtain ⟨Z1, Os1, O1, q1, s1, k1, nd1, ho1⟩ := keep_post h5 h6 p1
  refine Rx.go q1 h8 fun vb H2 p2 => ?_
  obtain ⟨Z2, Os2, O2, q2, s2, k2', nd2, ho2⟩ := keep_post h8 h9 p2
  obtain ⟨r1', off, nz⟩ := kept_later q1 k1 nd1 (fun a ha => (ho1 a ha).1) s2
  have s12 := s1.trans s2 (mu := [i, j] ++ (muT a ++ muT b)) (fun i hi => mr _ (ml _ hi)) (fun i hi => mr _ (mr _ hi))
  have on1 : ∀ x ∈ O1, H x = none ∨ x ∈ Os.flatten := fun x hx => (ho1 x hx).2
  have on2 : ∀ x ∈ O2, H x = none ∨ x ∈ Os.flatten := fun x hx => by
    rcases (ho2 x hx).2 with k | k
    · exact .inl (s1.dom x k)
    · exact s1.on x k
  have ndA : (O1 ++ Os2.flatten).Nodup := List.nodup_append.mpr ⟨(List.nodup_append.mp nd1).1, q2.nd, fun x hx y hy e => off x hx (e ▸ hy)⟩
  have q3 := q2.put il r1' ndA nz
  have s3 := s12.put (w := some m1) q2 (show i ∈ [i, j] ++ (muT a ++ muT b) by simp) il on1
  have il' : i < Os2.length := by rw [q2.len1]; exact il
  have d12 : ∀ x ∈ O2, x ∉ O1 := fun x hx hx1 => by
    rcases (ho2 x hx).2 with k | k
    · exact k1.ne x hx1 k
    · exact (List.nodup_append.mp nd1).2.2 x hx1 x k rfl
  have ndB : (O2 ++ (Os2.set i O1).flatten).Nodup := List.nodup_append.mpr ⟨(List.nodup_append.mp nd2).1, q3.nd, fun x hx y hy e => by
    subst e
    rcases flat_set hy with ⟨k, _⟩ | ⟨l, O, k1, k2, k3⟩
    · exact d12 x hx k
    · exact (List.nodup_append.mp nd2).2.2 x hx x (mem_flat.mpr ⟨l, O, k2, k3⟩) rfl⟩
  have q4 := q3.put (i := j) jl k2' ndB fun x hx => (ho2 x hx).1
  have s4 := s3.put (w := some m2) q3 (show j ∈ [i, j] ++ (muT a ++ muT b) by simp) jl on2
  refine ⟨va, vb, rfl, h2 _ _ ⟨Z2, _, q4, s4, fun l hl => ?_⟩⟩
  simp at hl
  rw [List.getElem?_set_ne (Ne.symm hl.2), List.getElem?_set_ne (Ne.symm hl.1)]
end
end TR
set_option Elab.async false
set_option linter.all false
set_option maxHeartbeats 4000000
/-! y[i] += number -/
namespace TR
open PySem PySem.Spec PyProof.Rows L2 StX
section
variable {X : Cx}
theorem PGet.or {t t' : V → V → Hp → VK → Prop} (h : PGet X t) (h' : PGet X t') : PGet X (fun o i H Q => t o i H Q ∨ t' o i H Q) := fun pins s σ H o i ov iv Q I ro ri q =>
  q.elim (h pins s σ H o i ov iv Q I ro ri) (h' pins s σ H o i ov iv Q I ro ri)
theorem pg_L : PGet X (rIxL X.K) := by
  intro pins s σ H x y v u Q I rx ry h
  obtain ⟨p, xs, i, z, rfl, rfl, hq, he, q⟩ := h
  cases rx
  obtain ⟨t, rfl⟩ := ry
  obtain ⟨its, r, pl, hz⟩ := I.list hq
  obtain ⟨j, h1, h2, h3, h4, h5⟩ := atI_get he
  obtain ⟨w, ew, rw'⟩ := r.get h2
  have hl := r.length
  have hn := line63
  have fin : EP X pins σ Q w s := ⟨z, H, I, rw', q⟩
  by_cases h0 : 0 ≤ i
  · have hj : i.toNat = j := by
      rw [seqIndex_of h0 h5] at h1
      exact Option.some.inj h1
    exact wpAny_getItem_list pl.isList h0 (by omega) (by rw [hj]; simpa using ew) fin
  · have hj : (i + (its.toArray.size : Int)).toNat = j := by
      rw [seqIndex_neg (by omega) h4] at h1
      rw [List.size_toArray, ← hl]
      exact Option.some.inj h1
    exact wpAny_getItem_list_neg pl.isList (by omega) (by rw [List.size_toArray] <;> omega) (by omega) (by rw [hj]; simpa using ew) fin
theorem pg_A : PGet X (fun x y H Q => ∃ a ks c v, x = .ref a ∧ DAE X H a ks ∧ y = kV c ∧ valV ks c = some v ∧ Q v H) := by
  rintro pins s σ H x y v u Q I rx ry ⟨a, ks, c, z, rfl, hd, rfl, hv, q⟩
  cases (show v = Value.ref a from rx)
  exact da_get I hd ry hv fun r s3 I3 rr => ⟨z, H, I3, rr, q⟩
end
section
variable {G : List Fn} {C : Ctx} {X : Cx} {B : Wd} {Z Z' Z0 Z1 Z2 : Zn} {H H' H0 H1 H2 : Hp} {σ σ' σ1 : L2.St} {env env' env0 env1 en : Env} {Os Os' Os0 Os1 : List (List Addr)} {mu mu1 mu2 asl asl1 asl2 vs : List Nat} {v : V} {m : M} {d : D} {e : E} {x : Expr} {pos p1 p2 p3 : Pos} {nm : Str}
theorem bin_add_int {a b : Int} {z : M} (h : binD .add (.pu (.int a)) (.pu (.int b)) = .ok z) : z = .pu (.int (a + b)) := by
  simp [binD] at h; exact h.symm
theorem var_env {j : Nat} {ri : List Nat} (h : ev G (.var j) env = .ok (m, ri, env1)) : env1 = env := by
  rw [ev] at h
  obtain ⟨m', h1, h2⟩ := R.bind_ok h
  cases m' <;> (cases h2; rfl)
theorem s_augI (ok : SOk G C X) {y j : Nat} {c : Int} {xi : Expr} (hN : C.N[y]? = some nm) (hv : visB C.sc nm = true) (hd : noDbg nm = true) (he : PE X x (Rx (wd X) (muE (.cst (.int c))) (ev G (.cst (.int c))))) (hi : PE X xi (Rx (wd X) (muE (.var j)) (ev G (.var j)))) (hpi : plainIx xi = true) :
    PS X (.AugAssign (.Subscript (.Name nm p2) xi p1) .Add x pos) (Sx (wd X) (asS (.augI y (.var j) .add (.cst (.int c)))) (muS (.augI y (.var j) .add (.cst (.int c)))) (ex G (.augI y (.var j) .add (.cst (.int c))))) := by
  have hp : PE X (.Name nm p2) (tVar y) := pe_var (by rw [ok.N]; exact hN) (vis_of ok.toXOk hv) (noDbg_of hd).1 (noDbg_of hd).2.1
  refine PS.of (ps_augS hp hi (PGet.or pg_L pg_A) he ip_add (PSet.or set_list set_da) (fun ov iv nw => by cases xi <;> first | rfl | cases hpi)) fun D σ H ⟨Z, env, Os, q, o, h1, h2⟩ => ?_
  simp only [ex] at h1
  simp only [muS, asS] at h2
  obtain ⟨⟨mi, ri, e1⟩, h3, g1⟩ := R.bind_ok h1
  obtain ⟨m0, h4, g2⟩ := R.bind_ok g1
  obtain ⟨mx, h5, g3⟩ := R.bind_ok g2
  obtain ⟨⟨mv, rv, e2⟩, h6, g4⟩ := R.bind_ok g3
  have h6' : R.ok (M.pu (PyData.int c), ([] : List Nat), e1) = R.ok (mv, rv, e2) := by rw [← h6, ev]
  cases h6'
  obtain ⟨m1, h7, g5⟩ := R.bind_ok g4
  dsimp only at h4 h7 h5 g5
  rw [h4] at h7
  cases h7
  have hee := var_env h3
  obtain ⟨a, rfl⟩ : ∃ a, mx = .pu (.int a) := by
    cases mx with
    | pu dx =>
      cases dx with
      | int a => exact ⟨a, rfl⟩
      | _ => cases g5
    | _ => cases g5
  have g5' : (do let z ← binD .add (.pu (.int a)) (.pu (.int c)); let d ← pureR z; let m2 ← putI m0 mi d; if isTupM mi then R.bad else R.ok (Out.nx (List.set e1 y (some m2)))) = R.ok o := g5
  · obtain ⟨z, h8, g6⟩ := R.bind_ok g5'
    obtain ⟨dz, h9, g7⟩ := R.bind_ok g6
    obtain ⟨m2, h10, g8⟩ := R.bind_ok g7
    cases hnt : isTupM mi with
    | true => rw [hnt] at g8; cases g8
    | false =>
    rw [hnt] at g8
    cases g8
    have hz := bin_add_int h8
    subst hz
    cases h9
    subst hee
    obtain ⟨w, Ow, hw, _, rw0⟩ := q.val y m0 (Env.get_ok h4)
    refine ⟨w, hw, Rx.go q h3 fun vi H1 ⟨Z1, Os1, O1, q1, s1, r1, ro1⟩ => ?_⟩
    obtain ⟨w', Oy, hw', hO, rw1⟩ := q1.val y m0 (Env.get_ok h4)
    rw [hw] at hw'; cases hw'
    rcases putI_ok h10 with ⟨ds, k, jj, rfl, rfl, hj, rfl⟩ | ⟨kvs, k, rfl, rfl, hk, hzz, rfl⟩
    · have := r1.int; subst this
      obtain ⟨l, ws, rfl, rfl, hH, rl⟩ := rw1.li_inv
      have h5' : (do let xs ← (M.li ds).seq; let d ← atD xs k; R.ok (M.pu d)) = R.ok (M.pu (PyData.int a)) := by
        have := h5; unfold subD at this; exact this
      obtain ⟨ds', h11, h12⟩ := R.bind_ok h5'
      cases h11
      obtain ⟨d0, h13, h14⟩ := R.bind_ok h12
      cases h14
      obtain ⟨v0, h15, r0⟩ := rl.atI h13
      cases r0
      refine .inl ⟨l, ws, k, _, rfl, rfl, .inl (.of hH), h15, ?_⟩
      refine Rx.go q1 h6 fun vc H2 ⟨Z2, Os2, O2, q2, s2, r2, ro2⟩ => ?_
      have := r2.int; subst this
      obtain ⟨w', Oy2, hw', hO2, rw2⟩ := q2.val y _ (Env.get_ok h4)
      rw [hw] at hw'; cases hw'
      obtain ⟨l2, ws2, e2, rfl, hH2, rl2⟩ := rw2.li_inv
      cases e2
      have s12 : Step (y :: (muE (.var j) ++ muE (.cst (.int c)))) Z H _ Os Z2 H2 _ Os2 := s1.trans s2 (fun i hi => List.mem_cons_of_mem _ (ml _ hi)) (fun i hi => List.mem_cons_of_mem _ (mr _ hi))
      obtain ⟨k1, k2, k3⟩ := slot_write (o := .lst (ws2.set jj (.int (a + c)))) (m1 := .li (ds.set jj (.int (a + c)))) (a := l) q2 s12 List.mem_cons_self hw hO2 (by simp) (fun st => .li upd_same ((rl2.set (.int (a + c)) jj).stay st fun _ z => z))
      exact ⟨a, c, rfl, rfl, .inl ⟨l, ws2, k, jj, rfl, rfl, hH2, by rw [rl2.length]; exact hj, h2 σ _ (.of k1 k2)⟩⟩
    · obtain ⟨l, rfl, hO1⟩ := rw1.di_ref
      obtain ⟨l', ew', h⟩ := rw1.fit rfl r1 hk
      cases ew'
      rcases h with ⟨ks, k', hda, rk, rfl, rfl⟩ | ⟨xs, hn, rn, tk⟩
      · have h5' : (if keyFit kvs (keyD k') then (do let v ← R.ofOpt (dLook kvs (keyD k')); R.ok (M.pu v)) else .bad) = R.ok (M.pu (PyData.int a)) := h5
        obtain ⟨hk1, h5''⟩ := R.of_if h5'
        obtain ⟨d0, h13, h14⟩ := R.bind_ok h5''
        cases h14
        rcases rk.look k' with ⟨w1, d1, h15, h16, r0⟩ | ⟨h15, h16⟩
        · rw [h16] at h13
          cases h13
          cases r0
          refine .inr ⟨l, ks, k', .int a, rfl, hda, rfl, h15, ?_⟩
          refine Rx.go q1 h6 fun vc H2 ⟨Z2, Os2, O2, q2, s2, r2, ro2⟩ => ?_
          have := r2.int; subst this
          obtain ⟨w', Oy2, hw', hO2, rw2⟩ := q2.val y _ (Env.get_ok h4)
          rw [hw] at hw'; cases hw'
          obtain ⟨l2, e2, rfl⟩ := rw2.di_ref
          cases e2
          have r1' : RM (wd X) Z2 H2 (kV k') (.pu (keyD k')) [] := .pu (by cases k' <;> constructor)
          obtain ⟨l3, e3, h⟩ := rw2.fit rfl r1' hk
          cases e3
          rcases h with ⟨ks2, k2, hda2, rk2, ek2, ev2⟩ | ⟨xs2, hn2, rn2, tk2⟩
          · have ek : k' = k2 := kV_inj ev2
            subst ek
            have s12 : Step (y :: (muE (.var j) ++ muE (.cst (.int c)))) Z H _ Os Z2 H2 _ Os2 := s1.trans s2 (fun i hi => List.mem_cons_of_mem _ (ml _ hi)) (fun i hi => List.mem_cons_of_mem _ (mr _ hi))
            refine ⟨a, c, rfl, rfl, .inr ⟨l, ks2, k', rfl, hda2, rfl, by rw [← big_eq, rk2.length]; exact hzz, fun es ep pn => ?_⟩⟩
            obtain ⟨k1, k2, k3⟩ := slot_write (o := dO l es ep) (m1 := .di (dPut kvs (keyD k') (.int (a + c)))) (a := l) q2 s12 List.mem_cons_self hw hO2 (by simp) (fun st => .dA upd_same pn ((rk2.put k' (.int (a + c))).stay st fun _ z => z))
            exact h2 σ _ (.of k1 k2)
          · exact (atom_tup (by cases k' <;> rfl) tk2.1).elim
        · rw [h16] at h13; cases h13
      · obtain ⟨us, rfl⟩ := tupKey_tup tk.1
        cases hnt
end
end TR
set_option Elab.async false
set_option linter.all false
set_option maxHeartbeats 4000000
/-! x, y, z = a, b, c by way of a tuple, own lists kept -/
namespace TR
open PySem PySem.Spec PyProof.Rows L2 StX
section
variable {G : List Fn} {C : Ctx} {X : Cx} {B : Wd} {Z Z' Z0 Z1 Z2 : Zn} {H H' H0 H1 H2 : Hp} {σ σ' σ1 : L2.St} {env env' env0 env1 en : Env} {Os Os' Os0 Os1 : List (List Addr)} {mu mu1 mu2 asl asl1 asl2 vs : List Nat} {v : V} {m : M} {d : D} {e : E} {x : Expr} {pos p1 p2 p3 : Pos} {nm : Str}
theorem put_nd {i : Nat} {O1 O2 : List Addr} (nd2 : (O2 ++ Os.flatten).Nodup) (d : ∀ a ∈ O2, a ∉ O1) (nd : (Os.set i O1).flatten.Nodup) : (O2 ++ (Os.set i O1).flatten).Nodup :=
  List.nodup_append.mpr ⟨(List.nodup_append.mp nd2).1, nd, fun x hx y hy e => by
    subst e
    rcases flat_set hy with ⟨k, _⟩ | ⟨l, O, k1, k2, k3⟩
    · exact d x hx k
    · exact (List.nodup_append.mp nd2).2.2 x hx x (mem_flat.mpr ⟨l, O, k2, k3⟩) rfl⟩
theorem s_par3t (ok : SOk G C X) {i j k : Nat} {x y z : Str} {px py pz pt pt2 : Pos} {xa xb xc : Expr} {a b c : E} {kt k2 : Nat} (hi : C.N[i]? = some x) (hj : C.N[j]? = some y) (hk : C.N[k]? = some z) (li : x ∈ C.loc) (lj : y ∈ C.loc) (lk : z ∈ C.loc)
    (n1 : noStar xa = true) (n2 : noStar xb = true) (n3 : noStar xc = true) (hw : swappedStores [.Tuple [.Name x px, .Name y py, .Name z pz] kt pt] (.Tuple [xa, xb, xc] k2 pt2) X.env = pure none)
    (ha : PE X xa (Rx (wd X) (muE a) (ev G a))) (hb : PE X xb (Rx (wd X) (muE b) (ev G b))) (hc : PE X xc (Rx (wd X) (muE c) (ev G c))) :
    PS X (.Assign [.Tuple [.Name x px, .Name y py, .Name z pz] kt pt] (.Tuple [xa, xb, xc] k2 pt2) pos) (Sx (wd X) (asS (.par [i, j, k] [a, b, c])) (muS (.par [i, j, k] [a, b, c])) (ex G (.par [i, j, k] [a, b, c]))) := by
  have pn : ∀ {i : Nat} {x : Str} {p : Pos}, C.N[i]? = some x → x ∈ C.loc → PG X (.Name x p) (gName i) := fun {i x p} h l => by
    obtain ⟨h1, h2⟩ := ok.loc x l
    exact pg_name (by rw [ok.N]; exact ok.nd) (by rw [ok.N]; exact h) h1 h2
  have hpg : PG X (.Tuple [.Name x px, .Name y py, .Name z pz] kt pt) (gTup X.K 3 (gCons (gName i) (gCons (gName j) (gCons (gName k) gNil)))) := pg_tup ok.calm (pgs_cons (pn hi li) (pgs_cons (pn hj lj) (pgs_cons (pn hk lk) pgs_nil)))
  refine PS.of (ps_asg (pe_tup (pa_cons ha (pa_cons hb (pa_cons hc pa_nil (starEach_no n3)) (starEach_no n2)) (starEach_no n1))) hpg (by rfl) hw) fun D σ H ⟨Z, env, Os, q, o, h1, h2⟩ => ?_
  simp only [ex, keepAll] at h1
  simp only [muS, asS, muTs, List.append_nil] at h2
  obtain ⟨⟨ms, e9⟩, h3, h4⟩ := R.bind_ok h1
  obtain ⟨r1, h5, g1⟩ := R.bind_ok h3
  obtain ⟨⟨m1, e1⟩, h6, g2⟩ := R.bind_ok g1
  obtain ⟨⟨ms2, e8⟩, h7, g3⟩ := R.bind_ok g2
  obtain ⟨r2, h8, g4⟩ := R.bind_ok h7
  obtain ⟨⟨m2, e2⟩, h9, g5⟩ := R.bind_ok g4
  obtain ⟨⟨ms3, e7⟩, h10, g6⟩ := R.bind_ok g5
  obtain ⟨r3, h11, g7⟩ := R.bind_ok h10
  obtain ⟨⟨m3, e3⟩, h12, g8⟩ := R.bind_ok g7
  cases g8
  cases g6
  cases g3
  obtain ⟨e10, h13, h14⟩ := R.bind_ok h4
  cases h14
  simp only [setAll] at h13
  obtain ⟨il, h15⟩ := R.of_if h13
  obtain ⟨jl, h16⟩ := R.of_if h15
  obtain ⟨kl, h17⟩ := R.of_if h16
  cases h17
  obtain ⟨ma, ra, ea⟩ := r1
  obtain ⟨mb, rb, eb⟩ := r2
  obtain ⟨mc, rc, ec⟩ := r3
  refine Rx.go q h5 fun va H1 p1 => ?_
  obtain ⟨Z1, Os1, O1, q1, s1, k1, nd1, ho1⟩ := keep_post h5 h6 p1
  refine Rx.go q1 h8 fun vb H2 p2 => ?_
  obtain ⟨Z2, Os2, O2, q2, s2, k2', nd2, ho2⟩ := keep_post h8 h9 p2
  refine Rx.go q2 h11 fun vc H3 p3 => ?_
  obtain ⟨Z3, Os3, O3, q3, s3, k3', nd3, ho3⟩ := keep_post h11 h12 p3
  obtain ⟨r1', off1, nz1⟩ := kept_later q1 k1 nd1 (fun a ha => (ho1 a ha).1) s2
  have ndA : (O1 ++ Os2.flatten).Nodup := List.nodup_append.mpr ⟨(List.nodup_append.mp nd1).1, q2.nd, fun x hx y hy e => off1 x hx (e ▸ hy)⟩
  obtain ⟨r1'', off1', nz1'⟩ := kept_later q2 r1' ndA nz1 s3
  obtain ⟨r2', off2, nz2⟩ := kept_later q2 k2' nd2 (fun a ha => (ho2 a ha).1) s3
  have nA : (O1 ++ Os3.flatten).Nodup := List.nodup_append.mpr ⟨(List.nodup_append.mp nd1).1, q3.nd, fun x hx y hy e => off1' x hx (e ▸ hy)⟩
  have nB : (O2 ++ Os3.flatten).Nodup := List.nodup_append.mpr ⟨(List.nodup_append.mp nd2).1, q3.nd, fun x hx y hy e => off2 x hx (e ▸ hy)⟩
  have on1 : ∀ x ∈ O1, H x = none ∨ x ∈ Os.flatten := fun x hx => (ho1 x hx).2
  have on2 : ∀ x ∈ O2, H x = none ∨ x ∈ Os.flatten := fun x hx => by
    rcases (ho2 x hx).2 with k | k
    · exact .inl (s1.dom x k)
    · exact s1.on x k
  have s12 := s1.trans s2 (mu := muT a ++ muT b) ml mr
  have on3 : ∀ x ∈ O3, H x = none ∨ x ∈ Os.flatten := fun x hx => by
    rcases (ho3 x hx).2 with k | k
    · exact .inl (s12.dom x k)
    · exact s12.on x k
  have d21 : ∀ x ∈ O2, x ∉ O1 := fun x hx hx1 => by
    rcases (ho2 x hx).2 with k | k
    · exact k1.ne x hx1 k
    · exact (List.nodup_append.mp nd1).2.2 x hx1 x k rfl
  have d32 : ∀ x ∈ O3, x ∉ O2 := fun x hx hx1 => by
    rcases (ho3 x hx).2 with k | k
    · exact k2'.ne x hx1 k
    · exact (List.nodup_append.mp nd2).2.2 x hx1 x k rfl
  have d31 : ∀ x ∈ O3, x ∉ O1 := fun x hx hx1 => by
    rcases (ho3 x hx).2 with k | k
    · exact r1'.ne x hx1 k
    · exact off1 x hx1 k
  have s123 : Step ([i, j, k] ++ (muT a ++ (muT b ++ muT c))) Z H env Os Z3 H3 _ Os3 :=
    s12.trans s3 (fun l hl => List.mem_append_right _ (by simp at hl ⊢; rcases hl with h | h; exact .inl h; exact .inr (.inl h))) (fun l hl => List.mem_append_right _ (by simp; exact .inr (.inr hl)))
  have hm : ∀ l ∈ [i, j, k], l ∈ [i, j, k] ++ (muT a ++ (muT b ++ muT c)) := fun l hl => List.mem_append_left _ hl
  have q4 := q3.put il r1'' nA nz1'
  have s4 := s123.put (w := some m1) q3 (hm i (by simp)) il on1
  have nB2 := put_nd (i := i) nB d21 q4.nd
  have q5 := q4.put (i := j) jl r2' nB2 nz2
  have s5 := s4.put (w := some m2) q4 (hm j (by simp)) jl on2
  have nC2 := put_nd (i := i) nd3 d31 q4.nd
  have nC3 := put_nd (i := j) nC2 d32 q5.nd
  have q6 := q5.put (i := k) kl k3' nC3 fun x hx => (ho3 x hx).1
  have s6 := s5.put (w := some m3) q5 (hm k (by simp)) kl on3
  refine ⟨by show 3 ≤ sizeLine; decide, fun p hp => ⟨p, [va, vb, vc], rfl, .inl (.inl upd_same), rfl, va, [vb, vc], rfl, vb, [vc], rfl, vc, [], rfl, rfl, ?_⟩⟩
  have g : Grow H3 (L2.upd H3 p (.tup [va, vb, vc])) := Grow.upd hp
  refine h2 _ _ ⟨Z3, _, q6.grow g, s6.grow g q6, fun l hl => ?_⟩
  simp at hl
  rw [List.getElem?_set_ne (Ne.symm hl.2.2), List.getElem?_set_ne (Ne.symm hl.2.1), List.getElem?_set_ne (Ne.symm hl.1)]
def par3B (C : Ctx) (x y z : Str) (px py pz : Pos) (a b c : Expr) : Bool :=
  decide (C.sc.names.lookup x = some .local) && decide (C.sc.names.lookup y = some .local) && decide (C.sc.names.lookup z = some .local) && (py.line == px.line) && (pz.line == px.line) && !decide (x = y) && !decide (x = z) && !decide (y = z) && noStar a && noStar b && noStar c && !([a, b, c].all (foldedForSure 8)) && !([a, b, c].all (constantsAlone 8))
theorem par3_eq (ok : SOk G C X) {x y z : Str} {px py pz pt pt2 : Pos} {a b c : Expr} {kt k2 : Nat} (h : par3B C x y z px py pz a b c = true) :
    swappedStores [.Tuple [.Name x px, .Name y py, .Name z pz] kt pt] (.Tuple [a, b, c] k2 pt2) X.env = pure (some [x, y, z]) := by
  unfold par3B at h
  simp only [Bool.and_eq_true, decide_eq_true_eq, Bool.not_eq_true', decide_eq_false_iff_not] at h
  obtain ⟨⟨⟨⟨⟨⟨⟨⟨⟨⟨⟨⟨h1, h2⟩, h2b⟩, h3⟩, h3b⟩, h4⟩, h4b⟩, h4c⟩, h5⟩, h6⟩, h6b⟩, h7⟩, h8⟩ := h
  have hb : X.env.blockKind = .function := by unfold PySem.Env.blockKind; rw [ok.sc, ok.kind]; rfl
  have kx : X.env.kindOf x = some .local := by unfold PySem.Env.kindOf; rw [ok.sc]; exact h1
  have ky : X.env.kindOf y = some .local := by unfold PySem.Env.kindOf; rw [ok.sc]; exact h2
  have kz : X.env.kindOf z = some .local := by unfold PySem.Env.kindOf; rw [ok.sc]; exact h2b
  have hd : ([x, y, z] : List Str).eraseDups = [x, y, z] := by
    have hxy : (y == x) = false := by
      rw [beq_eq_false_iff_ne]; exact fun z => h4 z.symm
    have hxz : (z == x) = false := by
      rw [beq_eq_false_iff_ne]; exact fun z => h4b z.symm
    have hyz : (z == y) = false := by
      rw [beq_eq_false_iff_ne]; exact fun z => h4c z.symm
    simp [List.eraseDups, List.eraseDupsBy, List.eraseDupsBy.loop, hxy, hxz, hyz]
  have h3' : py.line = px.line := eq_of_beq h3
  have h3b' : pz.line = px.line := eq_of_beq h3b
  simp only [List.all_cons, List.all_nil, Bool.and_true] at h7 h8
  unfold swappedStores
  simp [hb, h7, h8, List.filterMap_cons, kx, ky, kz, h3', h3b', hd, Expr.pos]
  intro h
  rcases h with h | h | h
  · cases a <;> first | (cases h5; done) | (cases h; done)
  · cases b <;> first | (cases h6; done) | (cases h; done)
  · cases c <;> first | (cases h6b; done) | (cases h; done)
theorem s_par3l (ok : SOk G C X) {i j k : Nat} {x y z : Str} {px py pz pt pt2 : Pos} {xa xb xc : Expr} {a b c : E} {kt k2 : Nat} (hi : C.N[i]? = some x) (hj : C.N[j]? = some y) (hk : C.N[k]? = some z) (h : par3B C x y z px py pz xa xb xc = true)
    (ha : PE X xa (Rx (wd X) (muE a) (ev G a))) (hb : PE X xb (Rx (wd X) (muE b) (ev G b))) (hc : PE X xc (Rx (wd X) (muE c) (ev G c))) :
    PS X (.Assign [.Tuple [.Name x px, .Name y py, .Name z pz] kt pt] (.Tuple [xa, xb, xc] k2 pt2) pos) (Sx (wd X) (asS (.par [i, j, k] [a, b, c])) (muS (.par [i, j, k] [a, b, c])) (ex G (.par [i, j, k] [a, b, c]))) := by
  have hw := par3_eq (kt := kt) (k2 := k2) (pt := pt) (pt2 := pt2) ok h
  unfold par3B at h
  simp only [Bool.and_eq_true, decide_eq_true_eq, Bool.not_eq_true', decide_eq_false_iff_not] at h
  obtain ⟨⟨⟨⟨⟨⟨⟨⟨⟨⟨⟨⟨g1x, g2x⟩, g2b⟩, _⟩, _⟩, g4⟩, g4b⟩, g4c⟩, n1⟩, n2⟩, n3⟩, _⟩, _⟩ := h
  have hij : i ≠ j := fun e => by subst e; rw [hi] at hj; cases hj; exact g4 rfl
  have hik : i ≠ k := fun e => by subst e; rw [hi] at hk; cases hk; exact g4b rfl
  have hjk : j ≠ k := fun e => by subst e; rw [hj] at hk; cases hk; exact g4c rfl
  refine PS.of (ps_par3 ok.calm (by rw [ok.N]; exact ok.nd) (by rw [ok.N]; exact hi) (by rw [ok.N]; exact hj) (by rw [ok.N]; exact hk) hij hik hjk (by rw [ok.sc]; exact g1x) (by rw [ok.sc]; exact g2x) (by rw [ok.sc]; exact g2b) (pa_cons ha (pa_cons hb (pa_cons hc pa_nil (starEach_no n3)) (starEach_no n2)) (starEach_no n1)) hw) fun D σ H ⟨Z, env, Os, q, o, h1, h2⟩ => ?_
  simp only [ex, keepAll] at h1
  simp only [muS, asS, muTs, List.append_nil] at h2
  obtain ⟨⟨ms, e9⟩, h3, h4⟩ := R.bind_ok h1
  obtain ⟨r1, h5, g1⟩ := R.bind_ok h3
  obtain ⟨⟨m1, e1⟩, h6, g2⟩ := R.bind_ok g1
  obtain ⟨⟨ms2, e8⟩, h7, g3⟩ := R.bind_ok g2
  obtain ⟨r2, h8, g4⟩ := R.bind_ok h7
  obtain ⟨⟨m2, e2⟩, h9, g5⟩ := R.bind_ok g4
  obtain ⟨⟨ms3, e7⟩, h10, g6⟩ := R.bind_ok g5
  obtain ⟨r3, h11, g7⟩ := R.bind_ok h10
  obtain ⟨⟨m3, e3⟩, h12, g8⟩ := R.bind_ok g7
  cases g8
  cases g6
  cases g3
  obtain ⟨e10, h13, h14⟩ := R.bind_ok h4
  cases h14
  simp only [setAll] at h13
  obtain ⟨il, h15⟩ := R.of_if h13
  obtain ⟨jl, h16⟩ := R.of_if h15
  obtain ⟨kl, h17⟩ := R.of_if h16
  cases h17
  obtain ⟨ma, ra, ea⟩ := r1
  obtain ⟨mb, rb, eb⟩ := r2
  obtain ⟨mc, rc, ec⟩ := r3
  refine Rx.go q h5 fun va H1 p1 => ?_
  obtain ⟨Z1, Os1, O1, q1, s1, k1, nd1, ho1⟩ := keep_post h5 h6 p1
  refine Rx.go q1 h8 fun vb H2 p2 => ?_
  obtain ⟨Z2, Os2, O2, q2, s2, k2', nd2, ho2⟩ := keep_post h8 h9 p2
  refine Rx.go q2 h11 fun vc H3 p3 => ?_
  obtain ⟨Z3, Os3, O3, q3, s3, k3', nd3, ho3⟩ := keep_post h11 h12 p3
  obtain ⟨r1', off1, nz1⟩ := kept_later q1 k1 nd1 (fun a ha => (ho1 a ha).1) s2
  have ndA : (O1 ++ Os2.flatten).Nodup := List.nodup_append.mpr ⟨(List.nodup_append.mp nd1).1, q2.nd, fun x hx y hy e => off1 x hx (e ▸ hy)⟩
  obtain ⟨r1'', off1', nz1'⟩ := kept_later q2 r1' ndA nz1 s3
  obtain ⟨r2', off2, nz2⟩ := kept_later q2 k2' nd2 (fun a ha => (ho2 a ha).1) s3
  have nA : (O1 ++ Os3.flatten).Nodup := List.nodup_append.mpr ⟨(List.nodup_append.mp nd1).1, q3.nd, fun x hx y hy e => off1' x hx (e ▸ hy)⟩
  have nB : (O2 ++ Os3.flatten).Nodup := List.nodup_append.mpr ⟨(List.nodup_append.mp nd2).1, q3.nd, fun x hx y hy e => off2 x hx (e ▸ hy)⟩
  have on1 : ∀ x ∈ O1, H x = none ∨ x ∈ Os.flatten := fun x hx => (ho1 x hx).2
  have on2 : ∀ x ∈ O2, H x = none ∨ x ∈ Os.flatten := fun x hx => by
    rcases (ho2 x hx).2 with k | k
    · exact .inl (s1.dom x k)
    · exact s1.on x k
  have s12 := s1.trans s2 (mu := muT a ++ muT b) ml mr
  have on3 : ∀ x ∈ O3, H x = none ∨ x ∈ Os.flatten := fun x hx => by
    rcases (ho3 x hx).2 with k | k
    · exact .inl (s12.dom x k)
    · exact s12.on x k
  have d21 : ∀ x ∈ O2, x ∉ O1 := fun x hx hx1 => by
    rcases (ho2 x hx).2 with k | k
    · exact k1.ne x hx1 k
    · exact (List.nodup_append.mp nd1).2.2 x hx1 x k rfl
  have d32 : ∀ x ∈ O3, x ∉ O2 := fun x hx hx1 => by
    rcases (ho3 x hx).2 with k | k
    · exact k2'.ne x hx1 k
    · exact (List.nodup_append.mp nd2).2.2 x hx1 x k rfl
  have d31 : ∀ x ∈ O3, x ∉ O1 := fun x hx hx1 => by
    rcases (ho3 x hx).2 with k | k
    · exact r1'.ne x hx1 k
    · exact off1 x hx1 k
  have s123 : Step ([i, j, k] ++ (muT a ++ (muT b ++ muT c))) Z H env Os Z3 H3 _ Os3 :=
    s12.trans s3 (fun l hl => List.mem_append_right _ (by simp at hl ⊢; rcases hl with h | h; exact .inl h; exact .inr (.inl h))) (fun l hl => List.mem_append_right _ (by simp; exact .inr (.inr hl)))
  have hm : ∀ l ∈ [i, j, k], l ∈ [i, j, k] ++ (muT a ++ (muT b ++ muT c)) := fun l hl => List.mem_append_left _ hl
  have q4 := q3.put il r1'' nA nz1'
  have s4 := s123.put (w := some m1) q3 (hm i (by simp)) il on1
  have nB2 := put_nd (i := i) nB d21 q4.nd
  have q5 := q4.put (i := j) jl r2' nB2 nz2
  have s5 := s4.put (w := some m2) q4 (hm j (by simp)) jl on2
  have nC2 := put_nd (i := i) nd3 d31 q4.nd
  have nC3 := put_nd (i := j) nC2 d32 q5.nd
  have q6 := q5.put (i := k) kl k3' nC3 fun x hx => (ho3 x hx).1
  have s6 := s5.put (w := some m3) q5 (hm k (by simp)) kl on3
  refine ⟨va, vb, vc, rfl, h2 _ _ ⟨Z3, _, q6, s6, fun l hl => ?_⟩⟩
  simp at hl
  rw [List.getElem?_set_ne (Ne.symm hl.2.2), List.getElem?_set_ne (Ne.symm hl.2.1), List.getElem?_set_ne (Ne.symm hl.1)]
end
end TR
set_option Elab.async false
set_option linter.all false
set_option maxHeartbeats 4000000
/-! x, y = a, b by way of a tuple (one of them read by an inner scope), own lists kept -/
namespace TR
open PySem PySem.Spec PyProof.Rows L2 StX
section
variable {G : List Fn} {C : Ctx} {X : Cx}
theorem s_par2t (ok : SOk G C X) {i j : Nat} {x y : Str} {px py pt pt2 pos : Pos} {xa xb : Expr} {a b : E} {kt k2 : Nat} (hi : C.N[i]? = some x) (hj : C.N[j]? = some y) (li : x ∈ C.loc) (lj : y ∈ C.loc)
    (n1 : noStar xa = true) (n2 : noStar xb = true) (hw : swappedStores [.Tuple [.Name x px, .Name y py] kt pt] (.Tuple [xa, xb] k2 pt2) X.env = pure none)
    (ha : PE X xa (Rx (wd X) (muE a) (ev G a))) (hb : PE X xb (Rx (wd X) (muE b) (ev G b))) :
    PS X (.Assign [.Tuple [.Name x px, .Name y py] kt pt] (.Tuple [xa, xb] k2 pt2) pos) (Sx (wd X) (asS (.par [i, j] [a, b])) (muS (.par [i, j] [a, b])) (ex G (.par [i, j] [a, b]))) := by
  have pn : ∀ {i : Nat} {x : Str} {p : Pos}, C.N[i]? = some x → x ∈ C.loc → PG X (.Name x p) (gName i) := fun {i x p} h l => by
    obtain ⟨h1, h2⟩ := ok.loc x l
    exact pg_name (by rw [ok.N]; exact ok.nd) (by rw [ok.N]; exact h) h1 h2
  have hpg : PG X (.Tuple [.Name x px, .Name y py] kt pt) (gTup X.K 2 (gCons (gName i) (gCons (gName j) gNil))) := pg_tup ok.calm (pgs_cons (pn hi li) (pgs_cons (pn hj lj) pgs_nil))
  refine PS.of (ps_asg (pe_tup (pa_cons ha (pa_cons hb pa_nil (starEach_no n2)) (starEach_no n1))) hpg (by rfl) hw) fun D σ H ⟨Z, env, Os, q, o, h1, h2⟩ => ?_
  simp only [ex, keepAll] at h1
  simp only [muS, asS, muTs, List.append_nil] at h2
  obtain ⟨⟨ms, e9⟩, h3, h4⟩ := R.bind_ok h1
  obtain ⟨r1, h5, g1⟩ := R.bind_ok h3
  obtain ⟨⟨m1, e1⟩, h6, g2⟩ := R.bind_ok g1
  obtain ⟨⟨ms2, e8⟩, h7, g3⟩ := R.bind_ok g2
  obtain ⟨r2, h8, g4⟩ := R.bind_ok h7
  obtain ⟨⟨m2, e2⟩, h9, g5⟩ := R.bind_ok g4
  cases g5
  cases g3
  obtain ⟨e10, h13, h14⟩ := R.bind_ok h4
  cases h14
  simp only [setAll] at h13
  obtain ⟨il, h15⟩ := R.of_if h13
  obtain ⟨jl, h16⟩ := R.of_if h15
  cases h16
  obtain ⟨ma, ra, ea⟩ := r1
  obtain ⟨mb, rb, eb⟩ := r2
  refine Rx.go q h5 fun va H1 p1 => ?_
  obtain ⟨Z1, Os1, O1, q1, s1, k1, nd1, ho1⟩ := keep_post h5 h6 p1
  refine Rx.go q1 h8 fun vb H2 p2 => ?_
  obtain ⟨Z2, Os2, O2, q2, s2, k2', nd2, ho2⟩ := keep_post h8 h9 p2
  obtain ⟨r1', off1, nz1⟩ := kept_later q1 k1 nd1 (fun a ha => (ho1 a ha).1) s2
  have nA : (O1 ++ Os2.flatten).Nodup := List.nodup_append.mpr ⟨(List.nodup_append.mp nd1).1, q2.nd, fun x hx y hy e => off1 x hx (e ▸ hy)⟩
  have on1 : ∀ x ∈ O1, H x = none ∨ x ∈ Os.flatten := fun x hx => (ho1 x hx).2
  have on2 : ∀ x ∈ O2, H x = none ∨ x ∈ Os.flatten := fun x hx => by
    rcases (ho2 x hx).2 with k | k
    · exact .inl (s1.dom x k)
    · exact s1.on x k
  have d21 : ∀ x ∈ O2, x ∉ O1 := fun x hx hx1 => by
    rcases (ho2 x hx).2 with k | k
    · exact k1.ne x hx1 k
    · exact (List.nodup_append.mp nd1).2.2 x hx1 x k rfl
  have s12 : Step ([i, j] ++ (muT a ++ muT b)) Z H env Os Z2 H2 _ Os2 :=
    s1.trans s2 (fun l hl => List.mem_append_right _ (List.mem_append_left _ hl)) (fun l hl => List.mem_append_right _ (List.mem_append_right _ hl))
  have hm : ∀ l ∈ [i, j], l ∈ [i, j] ++ (muT a ++ muT b) := fun l hl => List.mem_append_left _ hl
  have q4 := q2.put il r1' nA nz1
  have s4 := s12.put (w := some m1) q2 (hm i (by simp)) il on1
  have nB2 := put_nd (i := i) nd2 d21 q4.nd
  have q5 := q4.put (i := j) jl k2' nB2 fun x hx => (ho2 x hx).1
  have s5 := s4.put (w := some m2) q4 (hm j (by simp)) jl on2
  refine ⟨by show 2 ≤ sizeLine; decide, fun p hp => ⟨p, [va, vb], rfl, .inl (.inl upd_same), rfl, va, [vb], rfl, vb, [], rfl, rfl, ?_⟩⟩
  have g : Grow H2 (L2.upd H2 p (.tup [va, vb])) := Grow.upd hp
  refine h2 _ _ ⟨Z2, _, q5.grow g, s5.grow g q5, fun l hl => ?_⟩
  simp at hl
  rw [List.getElem?_set_ne (Ne.symm hl.2), List.getElem?_set_ne (Ne.symm hl.1)]
end
end TR
set_option Elab.async false
set_option linter.all false
set_option maxHeartbeats 4000000
/-! y[i], x = a, b -/
namespace TR
open PySem PySem.Spec PyProof.Rows L2 StX
section
variable {G : List Fn} {C : Ctx} {X : Cx} {B : Wd} {Z Z' Z0 Z1 Z2 : Zn} {H H' H0 H1 H2 : Hp} {σ σ' σ1 : L2.St} {env env' env0 env1 en : Env} {Os Os' Os0 Os1 : List (List Addr)} {mu mu1 mu2 asl asl1 asl2 vs : List Nat} {v : V} {m : M} {d : D} {e : E} {x : Expr} {pos p1 p2 p3 : Pos} {nm : Str}
theorem s_setN (ok : SOk G C X) {y j : Nat} {a b ei : E} {xi xa xb : Expr} {xn : Str} {px pt pt2 : Pos} {kt k2 : Nat} (hN : C.N[y]? = some nm) (hv : visB C.sc nm = true) (hd : noDbg nm = true) (hj : C.N[j]? = some xn) (lj : xn ∈ C.loc)
    (n1 : noStar xa = true) (n2 : noStar xb = true) (hw : swappedStores [.Tuple [.Subscript (.Name nm p2) xi p1, .Name xn px] kt pt] (.Tuple [xa, xb] k2 pt2) X.env = pure none)
    (ha : PE X xa (Rx (wd X) (muE a) (ev G a))) (hb : PE X xb (Rx (wd X) (muE b) (ev G b))) (hi : PE X xi (Rx (wd X) (muE ei) (ev G ei))) (hpi : plainIx xi = true) :
    PS X (.Assign [.Tuple [.Subscript (.Name nm p2) xi p1, .Name xn px] kt pt] (.Tuple [xa, xb] k2 pt2) pos) (Sx (wd X) (asS (.setN y ei j a b)) (muS (.setN y ei j a b)) (ex G (.setN y ei j a b))) := by
  have hp : PE X (.Name nm p2) (tVar y) := pe_var (by rw [ok.N]; exact hN) (vis_of ok.toXOk hv) (noDbg_of hd).1 (noDbg_of hd).2.1
  have pn : ∀ {i : Nat} {x : Str} {p : Pos}, C.N[i]? = some x → x ∈ C.loc → PG X (.Name x p) (gName i) := fun {i x p} h l => by
    obtain ⟨h1, h2⟩ := ok.loc x l
    exact pg_name (by rw [ok.N]; exact ok.nd) (by rw [ok.N]; exact h) h1 h2
  have hps := pg_sub (pos := p1) hp hi (PSet.or set_list set_da) (fun v => by cases xi <;> first | rfl | cases hpi)
  have hpg := pg_tup (pos := pt) (k := kt) ok.calm (pgs_cons hps (pgs_cons (@pn _ _ px hj lj) pgs_nil))
  refine PS.of (ps_asg (pe_tup (pa_cons (k_take ha) (pa_cons (k_take hb) pa_nil (starEach_no n2)) (starEach_no n1))) hpg (by rfl) hw) fun D σ H ⟨Z, env, Os, q, o, h1, h2⟩ => ?_
  simp only [ex] at h1
  simp only [muS, asS] at h2
  obtain ⟨ra, h3, g1⟩ := R.bind_ok h1
  obtain ⟨⟨da, e1⟩, h4, g2⟩ := R.bind_ok g1
  obtain ⟨rb, h5, g3⟩ := R.bind_ok g2
  obtain ⟨⟨db, e2⟩, h6, g4⟩ := R.bind_ok g3
  obtain ⟨m00, h0, g4'⟩ := R.bind_ok g4
  obtain ⟨⟨mi, ri, e3⟩, h7, g5⟩ := R.bind_ok g4'
  obtain ⟨m0, h8, g6⟩ := R.bind_ok g5
  obtain ⟨m1, h9, g7⟩ := R.bind_ok g6
  obtain ⟨jl, h10⟩ := R.of_if g7
  cases h10
  simp only [Bool.and_eq_true, Bool.not_eq_true', decide_eq_true_eq] at jl
  obtain ⟨hnt, jl⟩ := jl
  dsimp only at h0 h5 h7 h8 h9 jl h2
  refine Tx.go q (tRun_eq h3 h4) fun va H1 ⟨Z1, Os1, q1, s1, r1⟩ => ?_
  refine Tx.go q1 (tRun_eq h5 h6) fun vb H2 ⟨Z2, Os2, q2, s2, r2⟩ => ?_
  refine ⟨by show 2 ≤ sizeLine; decide, fun p hp => ⟨p, [va, vb], rfl, .inl (.inl upd_same), rfl, va, [vb], rfl, ?_⟩⟩
  have g : Grow H2 (L2.upd H2 p (.tup [va, vb])) := Grow.upd hp
  have q2' := q2.grow g
  have s12 : Step (muT a ++ muT b) Z H env Os Z2 H2 e2 Os2 := s1.trans s2 ml mr
  have s12' := s12.grow g q2
  have ra2 := (r1.stay (s2.stay q1) s2.zz).stay (g.stay (Z := Z2)) fun _ z => z
  have rb2 := r2.stay (g.stay (Z := Z2)) fun _ z => z
  obtain ⟨w, Ow, hw2, _, rw0⟩ := q2'.val y m00 (Env.get_ok h0)
  refine ⟨w, hw2, Rx.go q2' h7 fun vi H3 ⟨Z3, Os3, O3, q3, s3, r3, ro3⟩ => ?_⟩
  obtain ⟨w', Oy, hw', hO, rw1⟩ := q3.val y m0 (Env.get_ok h8)
  rw [hw2] at hw'; cases hw'
  have s : Step (y :: j :: (muT a ++ muT b ++ muE ei)) Z H env Os Z3 H3 e3 Os3 := s12'.trans s3 (fun i hi => List.mem_cons_of_mem _ (List.mem_cons_of_mem _ (ml _ hi))) (fun i hi => List.mem_cons_of_mem _ (List.mem_cons_of_mem _ (mr _ hi)))
  have ra3 := ra2.stay (s3.stay q2') s3.zz
  have rb3 := rb2.stay (s3.stay q2') s3.zz
  have fin : ∀ (H4 : Hp) (Os4 : List (List Addr)), Sat (wd X) Z3 σ H4 (e3.set y (some m1)) Os4 → Step (y :: j :: (muT a ++ muT b ++ muE ei)) Z H env Os Z3 H4 (e3.set y (some m1)) Os4 → Stay Z3 H3 H4 → D.nx (σ.set j (some vb)) H4 := fun H4 Os4 k1 k2 k3 => by
    have jl' : j < (e3.set y (some m1)).length := by rw [List.length_set]; exact jl
    have q5 := k1.put (i := j) (O1 := []) jl' (.pu (rb3.stay k3 fun _ z => z)) (by simpa using k1.nd) (fun a ha => nomatch ha)
    have s5 := k2.put (w := some (.pu db)) (O1 := []) k1 (List.mem_cons_of_mem _ List.mem_cons_self) jl' (fun a ha => nomatch ha)
    exact h2 _ _ ⟨Z3, _, q5, s5, fun l hl => by
      simp at hl
      rw [List.getElem?_set_ne (Ne.symm hl)]⟩
  rcases putI_ok h9 with ⟨ds, k, jj, rfl, rfl, hj, rfl⟩ | ⟨kvs, k, rfl, rfl, hk, hz, rfl⟩
  · have := r3.int; subst this
    obtain ⟨l, ws, rfl, rfl, hH, rl⟩ := rw1.li_inv
    obtain ⟨k1, k2, k3⟩ := slot_write (o := .lst (ws.set jj va)) (m1 := .li (ds.set jj da)) (a := l) q3 s List.mem_cons_self hw2 hO (by simp) (fun st => .li upd_same ((rl.set ra3 jj).stay st fun _ z => z))
    exact .inl ⟨l, ws, k, jj, rfl, rfl, hH, by rw [rl.length]; exact hj, vb, [], rfl, rfl, fin _ _ k1 k2 k3⟩
  · obtain ⟨l, rfl, rfl⟩ := rw1.di_ref
    obtain ⟨l', ew', h⟩ := rw1.fit rfl r3 hk
    cases ew'
    rcases h with ⟨ks, k', hda, rk, rfl, rfl⟩ | ⟨xs, hn, rn, tk⟩
    · refine .inr ⟨l, ks, k', rfl, hda, rfl, by rw [← big_eq, rk.length]; exact hz, fun es ep pn => ?_⟩
      obtain ⟨k1, k2, k3⟩ := slot_write (o := dO l es ep) (m1 := .di (dPut kvs (keyD k') da)) (a := l) q3 s List.mem_cons_self hw2 hO (by simp) (fun st => .dA upd_same pn ((rk.put k' ra3).stay st fun _ z => z))
      exact ⟨vb, [], rfl, rfl, fin _ _ k1 k2 k3⟩
    · obtain ⟨us, rfl⟩ := tupKey_tup tk.1
      cases hnt
end
end TR
set_option Elab.async false
set_option linter.all false
set_option maxHeartbeats 4000000
/-! while; x += number -/
namespace TR
open PySem PySem.Spec PyProof.Rows L2 StX
section
variable {G : List Fn} {C : Ctx} {X : Cx} {B : Wd} {Z Z' Z0 Z1 Z2 : Zn} {H H' H0 H1 H2 : Hp} {σ σ' σ1 : L2.St} {env env' env0 env1 en : Env} {Os Os' Os0 Os1 : List (List Addr)} {mu mu1 mu2 asl asl1 asl2 vs : List Nat} {v : V} {m : M} {d : D} {e : E} {x : Expr} {pos p1 p2 p3 : Pos} {nm : Str}
theorem s_whl (ok : SOk G C X) {n : Nat} {c : E} {body : List S} {xc : Expr} {sb : List Stmt} (hc : PT X xc (Bx (wd X) (muE c) (bRun G c))) (hb : PSs X sb (Sx (wd X) (asSs body) (muSs body) (exs G body))) :
    PS X (.While xc sb [] pos) (Sx (wd X) (asS (.whl n c body)) (muS (.whl n c body)) (ex G (.whl n c body))) := by
  refine PS.of (ps_while ok.pass hc hb) fun D σ H ⟨Z, env, Os, q, o, h1, h2⟩ => ?_
  simp only [ex] at h1
  simp only [muS, asS] at h2
  have h1' : whLoop (bRun G c) (fun en => exs G body en) n env = .ok o := h1
  refine ⟨fun k σ' H' => ∃ Z' en Os', Sat (wd X) Z' σ' H' en Os' ∧ Step (muE c ++ muSs body) Z H env Os Z' H' en Os' ∧ (∀ j, j ∉ asSs body → σ'[j]? = σ[j]?) ∧ whLoop (bRun G c) (fun en => exs G body en) k en = .ok o, ⟨n, Z, env, Os, q, Step.refl, fun _ _ => rfl, h1'⟩, ?_⟩
  rintro k σ1 H1 ⟨Z1, en, Os1, q1, s1, f1, hr⟩
  cases k with
  | zero => cases hr
  | succ k =>
    obtain ⟨⟨b, e1⟩, h3, h4⟩ := R.bind_ok hr
    refine ⟨Z1, en, Os1, q1, b, e1, h3, fun H2 ⟨Z2, Os2, q2, s2⟩ => ?_⟩
    have s12 : Step (muE c ++ muSs body) Z H env Os Z2 H2 e1 Os2 := s1.trans s2 (fun i hi => hi) (fun i hi => ml _ hi)
    cases b with
    | false =>
      dsimp only
      rw [if_neg (by simp)]
      dsimp only at h4
      rw [if_neg (by simp)] at h4
      cases h4
      exact h2 σ1 H2 ⟨Z2, Os2, q2, s12, f1⟩
    | true =>
      dsimp only
      rw [if_pos rfl]
      dsimp only at h4
      rw [if_pos rfl] at h4
      obtain ⟨o1, h5, h6⟩ := R.bind_ok h4
      refine ⟨fun σ' H' => ∃ Z' en Os', Sat (wd X) Z' σ' H' en Os' ∧ Step (muE c ++ muSs body) Z H env Os Z' H' en Os' ∧ (∀ j, j ∉ asSs body → σ'[j]? = σ[j]?) ∧ whLoop (bRun G c) (fun en => exs G body en) k en = .ok o, fun σ' H' w => ⟨k, Nat.lt_succ_self _, w⟩, Z2, e1, Os2, q2, o1, h5, ?_⟩
      cases o1 with
      | nx e4 =>
        intro σ4 H4 ⟨Z4, Os4, q4, s4, f4⟩
        exact ⟨Z4, e4, Os4, q4, s12.trans s4 (fun i hi => hi) (fun i hi => mr _ hi), fun j hj => by rw [f4 j hj, f1 j hj], h6⟩
      | br e4 =>
        cases h6
        intro σ4 H4 ⟨Z4, Os4, q4, s4, f4⟩
        exact h2 σ4 H4 ⟨Z4, Os4, q4, s12.trans s4 (fun i hi => hi) (fun i hi => mr _ hi), fun j hj => by rw [f4 j hj, f1 j hj]⟩
      | ret m e4 =>
        cases h6
        intro v H4 ⟨Z4, Os4, O, σ4, q4, s4, f4, r, nd, ho⟩
        refine h2 v H4 ⟨Z4, Os4, O, σ4, q4, s12.trans s4 (fun i hi => hi) (fun i hi => mr _ hi), fun j hj => by rw [f4 j hj, f1 j hj], r, nd, fun a ha => ⟨(ho a ha).1, ?_⟩⟩
        rcases (ho a ha).2 with k | k
        · exact .inl (s12.dom a k)
        · exact s12.on a k
theorem s_augN (ok : SOk G C X) {y : Nat} (hN : C.N[y]? = some nm) (hl : nm ∈ C.loc) (he : PE X x (Rx (wd X) (muE e) (ev G e))) :
    PS X (.AugAssign (.Name nm p1) .Add x pos) (Sx (wd X) (asS (.augN y .add e)) (muS (.augN y .add e)) (ex G (.augN y .add e))) := by
  obtain ⟨g1, g2⟩ := ok.loc nm hl
  refine PS.of (ps_aug (by rw [ok.N]; exact ok.nd) (by rw [ok.N]; exact hN) g1 he ip_add g2) fun D σ H ⟨Z, env, Os, q, o, h1, h2⟩ => ?_
  simp only [ex] at h1
  simp only [muS, asS] at h2
  obtain ⟨m0, h3, k1⟩ := R.bind_ok h1
  obtain ⟨⟨mv, rv, e1⟩, h4, k2⟩ := R.bind_ok k1
  obtain ⟨a, rfl⟩ : ∃ a, m0 = .pu (.int a) := by
    cases m0 with
    | pu dx =>
      cases dx with
      | int a => exact ⟨a, rfl⟩
      | _ => cases k2
    | _ => cases k2
  obtain ⟨b, rfl⟩ : ∃ b, mv = .pu (.int b) := by
    cases mv with
    | pu dx =>
      cases dx with
      | int a => exact ⟨a, rfl⟩
      | _ => cases k2
    | _ => cases k2
  have k3 : (do let z ← binD .add (.pu (.int a)) (.pu (.int b)); R.ok (Out.nx (List.set e1 y (some z)))) = R.ok o := k2
  obtain ⟨z, h5, k4⟩ := R.bind_ok k3
  cases k4
  have hz := bin_add_int h5
  subst hz
  obtain ⟨w, Ow, hw, hO0, rw0⟩ := q.val y _ (Env.get_ok h3)
  have := rw0.int; subst this
  refine ⟨.int a, hw, Rx.go q h4 fun vb H1 ⟨Z1, Os1, O1, q1, s1, r1, ro1⟩ => ?_⟩
  have := r1.int; subst this
  have hyl : y < e1.length := by
    rw [s1.elen]
    have := Env.get_ok h3
    exact (List.getElem?_eq_some_iff.mp this).1
  refine ⟨a, b, rfl, rfl, h2 _ _ ⟨Z1, _, q1.put (i := y) (v1 := .int (a + b)) (O1 := []) hyl (.pu (.int _)) (by simpa using q1.nd) (fun a h => nomatch h), (s1.mono fun i hi => List.mem_cons_of_mem _ hi).put (w := some (.pu (.int (a + b)))) q1 List.mem_cons_self hyl (fun a h => nomatch h), fun l hl => ?_⟩⟩
  simp at hl
  rw [List.getElem?_set_ne (Ne.symm hl)]
theorem bin_sub_int {a b : Int} {z : M} (h : binD .sub (.pu (.int a)) (.pu (.int b)) = .ok z) : z = .pu (.int (a - b)) := by
  simp [binD] at h; exact h.symm
theorem s_augNs (ok : SOk G C X) {y : Nat} (hN : C.N[y]? = some nm) (hl : nm ∈ C.loc) (he : PE X x (Rx (wd X) (muE e) (ev G e))) :
    PS X (.AugAssign (.Name nm p1) .Sub x pos) (Sx (wd X) (asS (.augN y .sub e)) (muS (.augN y .sub e)) (ex G (.augN y .sub e))) := by
  obtain ⟨g1, g2⟩ := ok.loc nm hl
  refine PS.of (ps_aug (by rw [ok.N]; exact ok.nd) (by rw [ok.N]; exact hN) g1 he ip_sub g2) fun D σ H ⟨Z, env, Os, q, o, h1, h2⟩ => ?_
  simp only [ex] at h1
  simp only [muS, asS] at h2
  obtain ⟨m0, h3, k1⟩ := R.bind_ok h1
  obtain ⟨⟨mv, rv, e1⟩, h4, k2⟩ := R.bind_ok k1
  obtain ⟨a, rfl⟩ : ∃ a, m0 = .pu (.int a) := by
    cases m0 with
    | pu dx =>
      cases dx with
      | int a => exact ⟨a, rfl⟩
      | _ => cases k2
    | _ => cases k2
  obtain ⟨b, rfl⟩ : ∃ b, mv = .pu (.int b) := by
    cases mv with
    | pu dx =>
      cases dx with
      | int a => exact ⟨a, rfl⟩
      | _ => cases k2
    | _ => cases k2
  have k3 : (do let z ← binD .sub (.pu (.int a)) (.pu (.int b)); R.ok (Out.nx (List.set e1 y (some z)))) = R.ok o := k2
  obtain ⟨z, h5, k4⟩ := R.bind_ok k3
  cases k4
  have hz := bin_sub_int h5
  subst hz
  obtain ⟨w, Ow, hw, hO0, rw0⟩ := q.val y _ (Env.get_ok h3)
  have := rw0.int; subst this
  refine ⟨.int a, hw, Rx.go q h4 fun vb H1 ⟨Z1, Os1, O1, q1, s1, r1, ro1⟩ => ?_⟩
  have := r1.int; subst this
  have hyl : y < e1.length := by
    rw [s1.elen]
    have := Env.get_ok h3
    exact (List.getElem?_eq_some_iff.mp this).1
  refine ⟨a, b, rfl, rfl, h2 _ _ ⟨Z1, _, q1.put (i := y) (v1 := .int (a - b)) (O1 := []) hyl (.pu (.int _)) (by simpa using q1.nd) (fun a h => nomatch h), (s1.mono fun i hi => List.mem_cons_of_mem _ hi).put (w := some (.pu (.int (a - b)))) q1 List.mem_cons_self hyl (fun a h => nomatch h), fun l hl => ?_⟩⟩
  simp at hl
  rw [List.getElem?_set_ne (Ne.symm hl)]
end
end TR
set_option Elab.async false
set_option linter.all false
set_option maxHeartbeats 4000000
/-! d.update(a dict of one's own) -/
namespace TR
open PySem PySem.Spec PyProof.Rows L2 StX
def rUpd (X : Cx) : V → List V → Hp → VK → Prop := fun x vs H Q => ∃ d o xs zs, x = .ref d ∧ vs = [.ref o] ∧ d ≠ o ∧ DAE X H d xs ∧ DAE X H o zs ∧ xs.length + zs.length ≤ sizeLine ∧ ∀ es ep, PinA (wd X) d es ep (mergeK xs zs) → Q .non (upd H d (dO d es ep))
theorem mt_update {X : Cx} : MtR X "dict.update" (rUpd X) := by
  rintro pins s σ H x vs v us Q I rx rv ⟨d, o, xs, zs, rfl, rfl, hne, hD, hO, hz, q⟩
  cases rx
  obtain ⟨u, rfl, ru⟩ := rv.one
  cases ru
  have hmu := hD.mut
  obtain ⟨ds, rel, dd, hd, z1⟩ := hD.dict I
  obtain ⟨os, rel2, dd2, ho, z2⟩ := hO.dict I
  have hl1 : ds.length = xs.length := rel.length.symm
  have hl2 : os.length = zs.length := rel2.length.symm
  refine call_meetsIn PySem.F.slot_dict_update dd.typeIs PySem.F.entry_dict_update (PySem.F.args_dict_update_2 _ _) (meets_dict_update _ d o hne ho)
    ⟨ds, os, dd, dd2, by rw [hl1, hl2]; exact hz, fun h' hm _ hs => ?_⟩
  have hlen : (mergeK xs zs).length ≤ sizeLine := Nat.le_trans (length_mergeK zs xs) hz
  obtain ⟨es, ep, hr, hp⟩ := pin_of hm
  exact ⟨.non, _, d_write (t' := s.toks) I hmu hs (let ⟨q, e, _⟩ := hr; ⟨q, e⟩) (okO hr), rfl, q es ep ⟨hd, hlen, _, KV.merge rel2 rel, hp⟩⟩
/-- a method of a dict -/
theorem pe_bmX {X : Cx} {o e : Expr} {es : List Expr} {name : Str} {id : String} {apos cpos : Pos} {to : TE} {t : TA} {r : V → List V → Hp → VK → Prop} (pa : PlainAttrs "dict") (slot : Slot "dict" name id) (hty : typeOf (.builtin id) = pure (.type "method_descriptor")) (hm : MtR X id r) (ho : PE X o to) (ha : PA X (e :: es) t)
    (hb : attributeBase o name X.env (eval o X.env) = eval o X.env) (hf : ((backTo cpos (starEach (e :: es) X.env)).all (fun x => !x.1) && (backToKw cpos (keywordEach [] X.env)).all (fun x => x.1.isSome) && decide ((e :: es).length + ([] : List Keyword).length + (if ([] : List Keyword).isEmpty then 0 else 1) < 30)) = true)
    (hl : (apos.endLine == cpos.line) = true) (hs : starEach (e :: es) X.env = (false, eval e X.env) :: starEach es X.env) (hp : (backTo cpos (starEach es X.env)).any (·.1) = false) :
    PE X (.Call (.Attribute o name apos) (e :: es) [] cpos) (fun σ H Q => to σ H fun x H1 => ∃ a, x = .ref a ∧ IsDX H1 a ∧ t σ H1 fun vs H2 => r x vs H2 Q) := by
  refine ⟨fun pins s σ H Q I h => wpAny_Call_method_late hb hf hl rfl (thn (ho.run pins s σ H _ I h) ?_)⟩
  rintro v s1 ⟨x, H1, I1, r1, a, rfl, hd, q1⟩
  cases (show v = Value.ref a from r1)
  obtain ⟨h1, h2⟩ := isDX_at I1 hd
  refine ⟨"dict", id, pa, slot, hty, h1, h2, ?_⟩
  have hA := ha.run cpos pins s1 σ H1 _ I1 q1
  rw [hs] at hA ⊢
  refine Calls.callWith_builtin ?_ (Calls.evalArgs_plain ?_)
  · show (false || (backTo cpos (starEach es X.env)).any (·.1)) = false
    rw [hp] <;> rfl
  · exact thn hA fun us s2 ⟨vs, H2, I2, r2, q2⟩ => hm pins s2 σ H2 (.ref a) vs (.ref a) us Q I2 rfl r2 q2
end TR
set_option Elab.async false
set_option linter.all false
set_option maxHeartbeats 4000000
namespace TR
open PySem PySem.Spec PyProof.Rows L2 StX
section
variable {G : List Fn} {C : Ctx} {X : Cx} {B : Wd} {e : E} {x : Expr} {nm : Str} {p2 pos : Pos}
theorem rkv_merge {Z : Zn} {H : Hp} : ∀ {zs : List (Key × V)} {more : List (D × D)}, RKV B Z H zs more → ∀ {ks : List (Key × V)} {kvs : List (D × D)}, RKV B Z H ks kvs → RKV B Z H (mergeK ks zs) (more.foldl (fun a kv => dPut a kv.1 kv.2) kvs)
  | _, _, .nil, _, _, r => r
  | _, _, .cons h t, _, _, r => rkv_merge t (r.put _ h)
theorem rkv_len {Z : Zn} {H : Hp} : ∀ {zs : List (Key × V)} {more : List (D × D)}, RKV B Z H zs more → zs.length = more.length
  | _, _, .nil => rfl
  | _, _, .cons _ t => by rw [List.length_cons, List.length_cons, rkv_len t]
/-- y.update(e) -/
theorem s_upd (ok : SOk G C X) {y : Nat} {ap cp : Pos} (hN : C.N[y]? = some nm) (hv : visB C.sc nm = true) (hd : noDbg nm = true) (he : PE X x (Rx (wd X) (muE e) (ev G e))) (hn : noStar x = true) (hl : (ap.endLine == cp.line) = true) :
    PS X (.Expr (.Call (.Attribute (.Name nm p2) "update" ap) [x] [] cp) pos) (Sx (wd X) (asS (.upd y e)) (muS (.upd y e)) (ex G (.upd y e))) := by
  have hp : PE X (.Name nm p2) (tVar y) := pe_var (by rw [ok.N]; exact hN) (vis_of ok.toXOk hv) (noDbg_of hd).1 (noDbg_of hd).2.1
  refine PS.of (ps_expr (pe_bmX PySem.F.plainAttrs_dict PySem.F.slot_dict_update PySem.F.type_dict_update mt_update hp (pa_cons he pa_nil (starEach_no hn)) rfl (few1 hn) hl (starEach_no hn) rfl) rfl) fun D σ H ⟨Z, env, Os, q, o, h1, h2⟩ => ?_
  simp only [ex] at h1
  simp only [muS, asS] at h2
  obtain ⟨m00, h0, h1⟩ := R.bind_ok h1
  obtain ⟨hli, h1⟩ := R.of_if h1
  obtain ⟨⟨me, rs, e1⟩, h3, h4⟩ := R.bind_ok h1
  obtain ⟨m0, h7, h8⟩ := R.bind_ok h4
  obtain ⟨m2, h9, h10⟩ := R.bind_ok h8
  obtain ⟨hrs, h11⟩ := R.of_if h10
  cases h11
  have hrs2 : rs = [] := by simpa using hrs
  subst hrs2
  obtain ⟨w, Ow, hw, _, rw0⟩ := q.val y m00 (Env.get_ok h0)
  have hdm : ∃ kvs, m00.dic = .ok kvs := by
    cases m00 with
    | di zs => exact ⟨_, rfl⟩
    | _ => cases hli
  obtain ⟨kv0, hdm⟩ := hdm
  obtain ⟨a0, rfl, hty⟩ := isDX_rm rw0 hdm
  unfold updM at h9
  split at h9
  · rename_i kvs more hme
    have hme2 : me = .di more := hme
    subst hme2
    obtain ⟨hz, h9⟩ := R.of_if h9
    cases h9
    simp only [Bool.and_eq_true, decide_eq_true_eq] at hz
    obtain ⟨⟨hz1, hz2⟩, hz⟩ := hz
    refine ⟨_, hw, a0, rfl, hty, Rx.go q h3 fun v H1 p1 => ?_⟩
    obtain ⟨Z1, Os1, O1, q1, s1, k1, ro1⟩ := p1
    have nd1 := (ro1.1 rfl).1
    obtain ⟨w', Oy, hw', hO, rw1⟩ := q1.val y (.di kvs) (Env.get_ok h7)
    rw [hw] at hw'; cases hw'
    have at1 : ∀ {v : V} {kvs : List (TR.D × TR.D)} {O : List Addr}, RM (wd X) Z1 H1 v (.di kvs) O → atomKeys kvs = true → ∃ a ks, v = .ref a ∧ O = [a] ∧ DAE X H1 a ks ∧ RKV (wd X) Z1 H1 ks kvs := fun r hk => by
      cases r with
      | dA h p rk => exact ⟨_, _, rfl, rfl, ⟨_, _, h, p⟩, rk⟩
      | dN h p rn => exact (ren_ne rn p.ne (atoms_tups hk rn.keys)).elim
    obtain ⟨a, ks, ea, rfl, hD, rl⟩ := at1 rw1 hz1
    cases ea
    obtain ⟨o, zs, rfl, rfl, hD2, rl2⟩ := at1 k1 hz2
    have hne : a0 ≠ o := by
      intro z
      subst z
      exact (List.nodup_append.mp nd1).2.2 a0 (by simp) a0 (mem_flat.mpr ⟨y, _, hO, by simp⟩) rfl
    have hl1 := rkv_len rl
    have hl2 := rkv_len rl2
    refine ⟨a0, o, ks, zs, rfl, rfl, hne, hD, hD2, by rw [← big_eq, hl1, hl2]; exact hz, fun es ep pn => ?_⟩
    obtain ⟨k1, k2, k3⟩ := slot_write (o := dO a0 es ep) (m1 := .di (more.foldl (fun a kv => dPut a kv.1 kv.2) kvs)) (a := a0) q1 (s1.mono fun i hi => List.mem_cons_of_mem _ hi) (mu := y :: muE e) List.mem_cons_self hw hO (by simp) (fun st => .dA upd_same pn ((rkv_merge rl2 rl).stay st fun _ z => z))
    exact h2 σ _ (.of k1 k2)
  · cases h9
end
end TR
set_option Elab.async false
set_option linter.all false
set_option maxHeartbeats 4000000
/-! {k: v for p in it} -/
namespace TR
open PySem PySem.Spec PyProof.Rows L2 StX
section
variable {G : List Fn} {C : Ctx} {X : Cx} {B : Wd} {Z Z0 Z1 Z2 : Zn} {H H0 H1 H2 : Hp} {σ : L2.St} {env env0 env1 en : Env} {Os Os0 Os1 : List (List Addr)} {mu mub vs : List Nat} {m : M} {Dl : Addr} {Q : VK}
def dcF (G : List Fn) (vs : List Nat) (k v : E) (p : P) : D → Env → R ((D × D) × Env) := fun x en => do
  let e2 ← bindP p x (wipeE en vs)
  let r ← ev G k e2
  let (dk, e3) ← takeR k r
  let r2 ← ev G v e3
  let (dv, e4) ← takeR v r2
  .ok ((dk, dv), e4)
theorem dcF_at {k v : E} {p : P} {x : D} {e' : Env} {o : D × D} (h : dcF G vs k v p x en = .ok (o, e')) :
    ∃ e2 e3, bindP p x (wipeE en vs) = .ok e2 ∧ tRun G k e2 = .ok (o.1, e3) ∧ tRun G v e3 = .ok (o.2, e') := by
  obtain ⟨e2, h1, h⟩ := R.bind_ok h
  obtain ⟨r, h2, h⟩ := R.bind_ok h
  obtain ⟨⟨dk, e3⟩, h3, h⟩ := R.bind_ok h
  obtain ⟨r2, h4, h⟩ := R.bind_ok h
  obtain ⟨⟨dv, e4⟩, h5, h⟩ := R.bind_ok h
  cases h
  exact ⟨e2, e3, h1, tRun_eq h2 h3, tRun_eq h4 h5⟩
theorem dPut_len (kvs : List (D × D)) (k v : D) : kvs.length ≤ (dPut kvs k v).length := by
  unfold dPut
  split <;> simp
theorem dcLoop_len {f : D → Env → R ((D × D) × Env)} : ∀ {xs : List D} {acc kvs : List (D × D)} {env e2 : Env}, dcLoop f xs acc env = .ok (kvs, e2) → acc.length ≤ kvs.length
  | [], acc, kvs, env, e2, h => by rw [dcLoop] at h; cases h; exact Nat.le_refl _
  | x :: xs, acc, kvs, env, e2, h => by
    rw [dcLoop] at h
    obtain ⟨⟨kv, e1⟩, h1, h⟩ := R.bind_ok h
    dsimp only at h
    split at h
    · exact Nat.le_trans (dPut_len _ _ _) (dcLoop_len h)
    · cases h
theorem rkv_len' {Z : Zn} {H : Hp} : ∀ {zs : List (Key × V)} {more : List (D × D)}, RKV B Z H zs more → zs.length = more.length
  | _, _, .nil => rfl
  | _, _, .cons _ t => by rw [List.length_cons, List.length_cons, rkv_len' t]
theorem rp_key {y : V} {k : Key} (r : Rp B Z H y (keyD k)) : y = kV k := by
  cases k <;> cases r <;> rfl
theorem walk_it {J : It} {n : Nat} {Gd : Hp → Prop} {Y : Nat → Hp → V → Hp → Prop} (w : Walk J n Gd Y) (bd : V → Hp → (Hp → Prop) → Prop) {H0 : Hp} {Qd : Hp → Prop} (Pv : Nat → Hp → Prop) (h0 : Pv 0 H0) (hG : ∀ i H, i ≤ n → Pv i H → Gd H)
    (hs : ∀ i x H H', i < n → Pv i H → Y i H x H' → bd x H' (Pv (i + 1))) (hd : ∀ H, Pv n H → Qd H) :
    ∃ W : Nat → Nat → Hp → Prop, (∃ m, W 0 m H0) ∧ ∀ i m H, W i m H → (J.stop i H ∧ Qd H) ∨ (J.go i H ∧ ∃ Nx : Hp → Prop, (∀ H', Nx H' → ∃ m', m' < m ∧ W (i + 1) m' H') ∧ ∀ x H', J.yld i H x H' → bd x H' Nx) := by
  refine ⟨fun i m H => i ≤ n ∧ n - i = m ∧ Pv i H, ⟨n, Nat.zero_le _, rfl, h0⟩, ?_⟩
  rintro i m H ⟨hi, rfl, hp⟩
  have hq := hG i H hi hp
  rcases Nat.lt_or_ge i n with h | h
  · exact .inr ⟨w.goes i H h hq, Pv (i + 1), fun H' hp' => ⟨n - (i + 1), by omega, h, rfl, hp'⟩, fun x H' hy => hs i x H H' h hp (w.yields i H x H' h hq hy)⟩
  · obtain rfl : i = n := by omega
    exact .inl ⟨w.stops H hq, hd H hp⟩
theorem dc_loop {k v : E} {p : P} {rs : List Nat} {J : It} {xs : List D} {kvs : List (D × D)} {e1 e2 : Env} {tt : TT} {tk tv : TE} {g : TG} {Q : V → Hp → Prop}
    (q1 : Sat B Z1 σ H1 e1 Os1) (dn : den e1 vs = true) (sp : subs p.slots vs = true) (it : ItOk B Z1 H1 Os1 rs J xs) (ap : apart rs (muT k ++ muT v ++ vs) = true) (hrun : dcLoop (dcF G vs k v p) xs [] e1 = .ok (kvs, e2)) (hlen : kvs.length < big)
    (hg : ∀ v σ H Q, Gb B p.slots (bindP p) v σ H Q → g v σ H Q) (ht : ∀ σ H Q, Bx B (muEs []) (evCs G []) σ H Q → tt σ H Q) (hk : ∀ σ H Q, Tx B (muT k) (tRun G k) σ H Q → tk σ H Q) (hv : ∀ σ H Q, Tx B (muT v) (tRun G v) σ H Q → tv σ H Q) (hD : H1 Dl = none)
    (fin : ∀ Z Os H ws, Sat B Z (wipe σ vs) H (wipeE e2 vs) Os → Step (muT k ++ muT v) Z1 H1 (wipeE e1 vs) Os1 Z H (wipeE e2 vs) Os → H Dl = some (.dK ws) → RKV B Z H ws kvs → Dl ∉ Os.flatten → ¬ Z Dl → Q (.ref Dl) H) :
    ∃ W : Nat → Nat → Hp → Prop, (∃ m, W 0 m (L2.upd H1 Dl (.dK []))) ∧ ∀ i m H, W i m H →
      (J.stop i H ∧ Q (.ref Dl) H) ∨ (J.go i H ∧ ∃ Nx : Hp → Prop, (∀ H', Nx H' → ∃ m', m' < m ∧ W (i + 1) m' H') ∧ ∀ x H', J.yld i H x H' → g x (wipe σ vs) H' fun σ2 H2 => wipe σ2 vs = wipe σ vs ∧ tt σ2 H2 fun b H3 =>
        if b = true then tk σ2 H3 fun y H4 => tv σ2 H4 fun z H5 => ∃ kvs k, y = kV k ∧ H5 Dl = some (.dK kvs) ∧ kvs.length < sizeLine ∧ Nx (L2.upd H5 Dl (.dK (putK kvs k z))) else Nx H3) := by
  obtain ⟨Gd, Y, w, hG, hY⟩ := it
  have q1w := q1.wiped (vs := vs) rfl
  rw [wipeO_same fun i hi => (den_at dn q1 hi).1] at q1w
  have sub : ∀ i ∈ p.slots, i ∈ vs := fun i hi => by simpa using List.all_eq_true.mp sp i hi
  have later : ∀ {Z H en Os}, Step (muT k ++ muT v) Z1 H1 (wipeE e1 vs) Os1 Z H (wipeE en vs) Os → Later rs Os1 Z1 H1 Z H := fun {Z H en Os} s => by
    refine ⟨s.zz, s.stay q1w, fun i hi O hO a ha => ?_⟩
    have := List.all_eq_true.mp ap i hi
    simp only [List.contains_eq_mem, List.mem_append, Bool.not_eq_true', decide_eq_false_iff_not, not_or] at this
    exact (s.slot i (by simp only [List.mem_append, not_or]; exact this.1)).2.2 O hO a ha
  refine walk_it w (fun x H' Nx => g x (wipe σ vs) H' fun σ2 H2 => wipe σ2 vs = wipe σ vs ∧ tt σ2 H2 fun b H3 =>
        if b = true then tk σ2 H3 fun y H4 => tv σ2 H4 fun z H5 => ∃ kvs k, y = kV k ∧ H5 Dl = some (.dK kvs) ∧ kvs.length < sizeLine ∧ Nx (L2.upd H5 Dl (.dK (putK kvs k z))) else Nx H3) (fun i H => ∃ Z en Os ws done, Sat B Z (wipe σ vs) H (wipeE en vs) Os ∧ Step (muT k ++ muT v) Z1 H1 (wipeE e1 vs) Os1 Z H (wipeE en vs) Os ∧ H Dl = some (.dK ws) ∧ RKV B Z H ws done ∧
      Dl ∉ Os.flatten ∧ ¬ Z Dl ∧ dcLoop (dcF G vs k v p) (xs.drop i) done en = .ok (kvs, e2)) ?_ ?_ ?_ ?_
  · have g0 : Grow H1 (L2.upd H1 Dl (.dK [])) := Grow.upd hD
    exact ⟨Z1, e1, Os1, [], [], q1w.grow g0, (Step.refl (mu := muT k ++ muT v)).grow g0 q1w, upd_same, .nil, fun h => q1.there h hD, fun z => q1.zh _ z hD, by simpa using hrun⟩
  · rintro i H hi ⟨Z, en, Os, ws, done, q, s, _⟩
    exact hG Z H (later s)
  · rintro i x H H' hi ⟨Z, en, Os, ws, done, q, s, hDl, rw', n1, n2, hr⟩ hy
    have hx : xs[i]? = some xs[i] := List.getElem?_eq_getElem hi
    obtain ⟨g1, rx⟩ := hY Z H i x H' xs[i] (later s) hx hy
    rw [List.drop_eq_getElem_cons hi, dcLoop] at hr
    obtain ⟨⟨o, en'⟩, h1, h2⟩ := R.bind_ok hr
    dsimp only at h2
    have hfit : (atomKey o.1 && keyFit done o.1) = true := by
      cases hf : (atomKey o.1 && keyFit done o.1) with
      | true => rfl
      | false => rw [hf] at h2; cases h2
    rw [if_pos hfit] at h2
    obtain ⟨b2, b3, h5, h8, h9⟩ := dcF_at h1
    have qg := q.grow g1
    have sg := s.grow g1 q
    refine hg x _ _ _ ⟨Z, _, Os, _, b2, qg, rx, h5, fun σ2 H2 ⟨eh, Os2, q2, s2, f2, l2⟩ => ?_⟩
    have hw : wipe σ2 vs = wipe σ vs := by
      apply List.ext_getElem?
      intro j
      rw [wipe_get, wipe_get]
      by_cases hj : j ∈ vs
      · rw [if_pos hj, if_pos hj]
        rw [wipe_length] at l2
        by_cases hb : j < σ.length
        · rw [List.getElem?_eq_getElem hb, List.getElem?_eq_getElem (by omega)]; rfl
        · rw [List.getElem?_eq_none (by omega), List.getElem?_eq_none (by omega)]
      · rw [if_neg hj, if_neg hj, f2 j fun h => hj (sub j h), wipe_get, if_neg hj]
    cases eh
    refine ⟨hw, ht _ _ _ ⟨Z, b2, Os2, q2, true, b2, by rw [evCs], fun H3 ⟨Z3, Os3, q3, s3⟩ => ?_⟩⟩
    have hDl' : H' Dl = some (.dK ws) := g1 _ _ hDl
    have out2 := out_dk s2 hDl' n1 n2
    have out3 := out_dk s3 (out2.1.trans hDl') out2.2.1 out2.2.2
    have s23 : Step (vs ++ (muT k ++ muT v)) Z H' (wipeE en vs) Os Z3 H3 b2 Os3 := s2.trans s3 (fun i hi => ml _ (sub i hi)) (fun i hi => by simp [muEs] at hi)
    refine if_t (hk _ _ _ ⟨Z3, b2, Os3, q3, o.1, b3, h8, fun y H4 ⟨Z4, Os4, q4, s4, r4⟩ => hv _ _ _ ⟨Z4, b3, Os4, q4, o.2, en', h9, fun z H5 ⟨Z5, Os5, q5, s5', r5⟩ => ?_⟩⟩)
    have hD3 : H3 Dl = some (.dK ws) := out3.1.trans (out2.1.trans hDl')
    have out4 := out_dk s4 hD3 out3.2.1 out3.2.2
    have out5 := out_dk s5' (out4.1.trans hD3) out4.2.1 out4.2.2
    have hD5 : H5 Dl = some (.dK ws) := out5.1.trans (out4.1.trans hD3)
    have s24 : Step (vs ++ (muT k ++ muT v)) Z H' (wipeE en vs) Os Z4 H4 b3 Os4 := s23.trans s4 (fun i hi => hi) (fun i hi => mr _ (ml _ hi))
    have s25 : Step (vs ++ (muT k ++ muT v)) Z H' (wipeE en vs) Os Z5 H5 en' Os5 := s24.trans s5' (fun i hi => hi) (fun i hi => mr _ (mr _ hi))
    have s6 : Step (muT k ++ muT v) Z1 H1 (wipeE e1 vs) Os1 Z5 H5 (wipeE en' vs) (wipeO Os5 vs) := sg.trans (s25.wiped qg q5.len1) (fun i hi => hi) fun i hi => hi
    have t5 : ∀ zs, H5 Dl ≠ some (.tup zs) := fun zs h => by rw [hD5] at h; cases h
    have f5 : ∀ o u, H5 Dl ≠ some (.frz o u) := fun o u h => by rw [hD5] at h; cases h
    obtain ⟨key, hkey⟩ := atomKey_key (by simp only [Bool.and_eq_true] at hfit; exact hfit.1)
    have hyk : y = kV key := rp_key (by rw [hkey]; exact r4)
    have st := side_stay (o := .dK (putK ws key z)) out5.2.2 t5 f5
    have hlw : ws.length < sizeLine := by
      rw [← big_eq]
      have := rkv_len' rw'
      have h9 := dcLoop_len h2
      have h10 := dPut_len done o.1 o.2
      omega
    refine ⟨ws, key, hyk, hD5, hlw, Z5, en', wipeO Os5 vs, putK ws key z, dPut done o.1 o.2, (q5.wiped hw).side (fun h => out5.2.1 (flat_wipeO h)) out5.2.2 t5 f5, s6.side hD q1w, upd_same, ?_, fun h => out5.2.1 (flat_wipeO h), out5.2.2, h2⟩
    have r1 : RKV B Z5 H5 ws done := (rw'.stay g1.stay fun _ z => z).stay (s25.stay qg) s25.zz
    rw [← hkey]
    exact (r1.put key r5).stay st fun _ z => z
  · rintro H ⟨Z, en, Os, ws, done, q, s, hDl, rw', n1, n2, hr⟩
    rw [List.drop_of_length_le (Nat.le_refl _), dcLoop] at hr
    cases hr
    exact fin Z Os H ws q s hDl rw' n1 n2
theorem dc_fin {kvs : List (D × D)} {e2 : Env} (q : Sat (wd X) Z σ H env Os) (s : Step mu Z H env Os Z1 H1 env1 Os1) (q1 : Sat (wd X) Z1 σ H1 env1 Os1) (dn : den env1 vs = true) (hD : H1 Dl = none)
    (h2 : ∀ v H', Post (wd X) (mu ++ (mub.filter fun i => !vs.contains i)) σ Z H env Os (.di kvs) [] (backE e2 env1 vs) v H' → Q v H') :
    ∀ Z2 Os2 H2 ws, Sat (wd X) Z2 (wipe σ vs) H2 (wipeE e2 vs) Os2 → Step mub Z1 H1 (wipeE env1 vs) Os1 Z2 H2 (wipeE e2 vs) Os2 → H2 Dl = some (.dK ws) → RKV (wd X) Z2 H2 ws kvs → Dl ∉ Os2.flatten → ¬ Z2 Dl →
      Q (.ref Dl) H2 ∨ ∃ a ks, H2 a = some (.dK ks) ∧ ∀ es ep, PinA (wd X) a es ep ks → Q (.ref Dl) (upd H2 a (dO a es ep)) := fun Z2 Os2 H2 ws q2 s2 hDl rl n1 n2 => by
  refine .inr ⟨Dl, ws, hDl, fun es ep pn => ?_⟩
  have t2 : ∀ zs, H2 Dl ≠ some (.tup zs) := fun zs h => by rw [hDl] at h; cases h
  have f2 : ∀ o u, H2 Dl ≠ some (.frz o u) := fun o u h => by rw [hDl] at h; cases h
  have q2' := q2.side (o := dO Dl es ep) n1 n2 t2 f2
  have q1w := q1.wiped (vs := vs) rfl
  rw [wipeO_same fun i hi => (den_at dn q1 hi).1] at q1w
  have s2' := s2.side (o := dO Dl es ep) hD q1w
  obtain ⟨q3, s3⟩ := Sat.back q1 dn q2' s2'
  have st := side_stay (Z := Z2) (o := dO Dl es ep) n2 t2 f2
  exact h2 _ _ ⟨Z2, Os2, [Dl], q3, s.trans s3 ml mr, .dA upd_same pn (rl.stay st fun _ z => z), fun _ => ⟨List.nodup_append.mpr ⟨by simp, q3.nd, fun a ha b hb e => by simp at ha; subst ha; exact n1 (e ▸ hb)⟩, fun a ha => by simp at ha; subst ha; exact ⟨n2, .inl (s.dom _ hD)⟩⟩, fun h => (h rfl).elim, by simp⟩
theorem dc_run {k v it : E} {p : P} {env' : Env} {rs : List Nat} (h : ev G (.dc vs k v p it) env = .ok (m, rs, env')) :
    ∃ mm r1 e1 xs kvs e2, ev G it env = .ok (mm, r1, e1) ∧ itR mm = .ok xs ∧ den e1 vs = true ∧ subs p.slots vs = true ∧ apart r1 (muT k ++ muT v ++ vs) = true ∧ dcLoop (dcF G vs k v p) xs [] e1 = .ok (kvs, e2) ∧ kvs.length < big ∧ m = .di kvs ∧ rs = [] ∧ env' = backE e2 e1 vs := by
  rw [ev] at h
  obtain ⟨⟨mm, r1, e1⟩, h1, h⟩ := R.bind_ok h
  obtain ⟨xs, h2, h⟩ := R.bind_ok h
  obtain ⟨hc, h⟩ := R.of_if h
  simp only [Bool.and_eq_true] at hc
  obtain ⟨⟨kvs, e2⟩, h3, h⟩ := R.bind_ok h
  obtain ⟨hl, h⟩ := R.of_if h
  cases h
  exact ⟨mm, r1, e1, xs, kvs, e2, h1, h2, hc.1.1, hc.1.2, hc.2, h3, hl, rfl, rfl, rfl⟩
theorem dc_w {k v it : E} {p : P} (h : Rx (wd X) (muE (.dc vs k v p it)) (ev G (.dc vs k v p it)) σ H Q) :
    tDc (Ix (wd X) (muE it) (iRun G it)) (Gb (wd X) p.slots (bindP p)) (Bx (wd X) (muEs []) (evCs G [])) (Tx (wd X) (muT k) (tRun G k)) (Tx (wd X) (muT v) (tRun G v)) vs σ H (fun v H' => Q v H' ∨ ∃ a ks, H' a = some (.dK ks) ∧ ∀ es ep, PinA (wd X) a es ep ks → Q v (upd H' a (dO a es ep))) := by
  obtain ⟨Z, env, Os, q, m, rs, env', h1, h2⟩ := h
  simp only [muE] at h2
  obtain ⟨mm, r1, e1, xs, kvs, e2, h3, h4, dn, sp, ap, h5, h6, rfl, rfl, rfl⟩ := dc_run h1
  refine ⟨Z, env, Os, q, r1, xs, e1, ?_, fun J H1 ⟨Z1, Os1, q1, s1, hit⟩ D hD => ?_⟩
  · unfold iRun
    rw [h3]
    show (itR mm >>= _) = _
    rw [h4]
    rfl
  · exact dc_loop (Q := fun v H' => Q v H' ∨ ∃ a ks, H' a = some (.dK ks) ∧ ∀ es ep, PinA (wd X) a es ep ks → Q v (upd H' a (dO a es ep))) q1 dn sp hit ap h5 h6 (fun v σ H Q h => h) (fun σ H Q h => h) (fun σ H Q h => h) (fun σ H Q h => h) hD (dc_fin q s1 q1 dn hD h2)
/-- {k: v for p in it} -/
theorem k_dc (ok : XOk G C X) {k v it : E} {p : P} {xk xv xi tg : Expr} {scope : Scope} {pos : Pos}
    (hi : PI X tg xi (Ix (wd X) (muE it) (iRun G it))) (hb : blkC C.N C.sc scope (ownOf C vs) = true) (hs : noSet xi = true)
    (hg : ∀ Y : Cx, wd Y = wd X → XOk G (C.blk scope) Y → PG Y tg (Gb (wd Y) p.slots (bindP p)))
    (hk : ∀ Y : Cx, wd Y = wd X → XOk G (C.blk scope) Y → PE Y xk (Tx (wd Y) (muT k) (tRun G k)))
    (he : ∀ Y : Cx, wd Y = wd X → XOk G (C.blk scope) Y → PE Y xv (Tx (wd Y) (muT v) (tRun G v))) :
    PE X (.DictComp xk xv [⟨tg, xi, [], 0⟩] scope pos) (Rx (wd X) (muE (.dc vs k v p it)) (ev G (.dc vs k v p it))) := by
  have bo : BlkOk X.N X.env.scope scope (ownOf C vs) := by rw [ok.N, ok.sc]; exact blkOk_by hb
  have hN : X.N.Nodup := by rw [ok.N]; exact ok.nd
  have rule := pe_dc (X := X) (pos := pos) (g := Gb (wd X) p.slots (bindP p)) (tt := Bx (wd X) (muEs []) (evCs G [])) (tk := Tx (wd X) (muT k) (tRun G k)) (tv := Tx (wd X) (muT v) (tRun G v)) ok.calm hN hi bo
    (fun s H Cd cl fp => hg (X.blk s H scope (compEnvC scope cl Cd X.env) fp) rfl (ok.blk s H scope Cd cl fp)) (fun s H Cd cl fp => c_nil) (fun s H Cd cl fp => hk (X.blk s H scope (compEnvC scope cl Cd X.env) fp) rfl (ok.blk s H scope Cd cl fp)) (fun s H Cd cl fp => he (X.blk s H scope (compEnvC scope cl Cd X.env) fp) rfl (ok.blk s H scope Cd cl fp)) (blk_hs hs)
  rw [ownOf_ix] at rule
  exact PE.of (PE.pin rule) fun σ H Q h => dc_w h
end
end TR
set_option Elab.async false
set_option linter.all false
set_option maxHeartbeats 8000000
set_option maxRecDepth 10000
/-! statements: the text against the small language -/
namespace TR
open PySem PySem.Spec PyProof.Rows L2 StX
def isLc : Expr → Bool
  | .ListComp .. => true
  | _ => false
def noTup : Expr → Bool
  | .Tuple .. => false
  | _ => true
/-- a name that is stored is no plain local: the values are laid into a tuple -/
def locT (C : Ctx) : Expr → Bool
  | .Name nm _ => decide (C.sc.names.lookup nm = some NameKind.local)
  | _ => false
def cellT (C : Ctx) (ts : List Expr) : Bool := ts.any fun t => !locT C t
/-- what a for walks -/
def chkI2 (G : List Fn) (C : Ctx) (it : E) (xi tg : Expr) : Bool := match it with
  | .zip a b => (match xi with
    | .Call (.Name nm _) [x, y] [] _ => nmOk C nm "zip" && isTupX tg && noStar x && noStar y && chkE G C a x && chkE G C b y
    | _ => false)
  | it => chkI G C it xi tg
mutual
def chkS (G : List Fn) (C : Ctx) : S → Stmt → Bool
  | .do_ (.star _), _ => true
  | .do_ e, .Expr x _ => noComp x && chkE G C e x
  | .asg (.v i) e, .Assign [.Name nm _] x _ => decide (C.N[i]? = some nm) && decide (nm ∈ C.loc) && (noComp x || isLc x) && chkX G C e x
  | .asg (.t ps) e, .Assign [.Tuple ts k tp] x _ => chkP C (.t ps) (.Tuple ts k tp) && noComp x && (noTup x || cellT C ts) && chkE G C e x
  | .par [i, j] [a, b], .Assign [.Tuple [.Name x px, .Name y py] _ _] (.Tuple [xa, xb] _ _) _ => decide (C.N[i]? = some x) && decide (C.N[j]? = some y) && (parB C x y px py xa xb || (decide (x ∈ C.loc) && decide (y ∈ C.loc) && noStar xa && noStar xb && cellT C [.Name x px, .Name y py])) && chkE G C a xa && chkE G C b xb
  | .par [i, j, k] [a, b, c], .Assign [.Tuple [.Name x px, .Name y py, .Name z pz] _ _] (.Tuple [xa, xb, xc] _ _) _ => decide (C.N[i]? = some x) && decide (C.N[j]? = some y) && decide (C.N[k]? = some z) && decide (x ∈ C.loc) && decide (y ∈ C.loc) && decide (z ∈ C.loc) && (cellT C [.Name x px, .Name y py, .Name z pz] || par3B C x y z px py pz xa xb xc) && noStar xa && noStar xb && noStar xc && chkE G C a xa && chkE G C b xb && chkE G C c xc
  | .setI y ei e, .Assign [.Subscript (.Name nm _) xi _] x _ => varOk C y nm && plainIx xi && chkE G C ei xi && chkE G C e x
  | .augI y (.var j) .add (.cst (.int c)), .AugAssign (.Subscript (.Name nm _) xi _) .Add x _ => varOk C y nm && plainIx xi && chkE G C (.var j) xi && chkE G C (.cst (.int c)) x
  | .app y e, .Expr (.Call (.Attribute (.Name nm _) at_ ap) [x] [] cp) _ => decide (at_ = "append") && varOk C y nm && noStar x && (ap.endLine == cp.line) && chkE G C e x
  | .upd y (.dc vs k v p it), .Expr (.Call (.Attribute (.Name nm _) at_ ap) [.DictComp xk xv [⟨tg, xi, [], 0⟩] scope _] [] cp) _ => decide (at_ = "update") && varOk C y nm && (ap.endLine == cp.line) && chkP (C.blk scope) p tg && chkI G C it xi tg && noSet xi && blkC C.N C.sc scope (ownOf C vs) && chkE G (C.blk scope) k xk && chkE G (C.blk scope) v xv
  | .appI y ei e, .Expr (.Call (.Attribute (.Subscript (.Name nm _) xi _) at_ ap) [x] [] cp) _ => decide (at_ = "append") && varOk C y nm && noStar x && (ap.endLine == cp.line) && plainIx xi && chkE G C ei xi && chkE G C e x
  | .ret e, .Return (some x) _ => chkX G C e x
  | .retN, .Return none _ => true
  | .ifs c a b, .If x sa sb _ => (plainT x || chkB c x) && chkE G C c x && chkSs G C a sa && chkSs G C b sb
  | .for_ p e body, .For tg xi sb [] _ => chkP C p tg && noSet xi && chkI2 G C e xi tg && chkSs G C body sb
  | .augN y .add e, .AugAssign (.Name nm _) .Add x _ => decide (C.N[y]? = some nm) && decide (nm ∈ C.loc) && chkE G C e x
  | .augN y .sub e, .AugAssign (.Name nm _) .Sub x _ => decide (C.N[y]? = some nm) && decide (nm ∈ C.loc) && chkE G C e x
  | .setN y ei j a b, .Assign [.Tuple [.Subscript (.Name nm p2) xi p1, .Name xn px] _ _] (.Tuple [xa, xb] _ _) _ => varOk C y nm && plainIx xi && decide (C.N[j]? = some xn) && decide (xn ∈ C.loc) && noStar xa && noStar xb && chkE G C ei xi && chkE G C a xa && chkE G C b xb
  | .whl n c body, .While xc sb [] _ => (plainT xc || chkB c xc) && chkE G C c xc && chkSs G C body sb
  | .pass, .Pass _ => true
  | .brk, .Break _ => true
  | _, _ => false
def chkSs (G : List Fn) (C : Ctx) : List S → List Stmt → Bool
  | [], [] => true
  | s :: ss, t :: ts => chkS G C s t && chkSs G C ss ts
  | _, _ => false
end
section
variable {G : List Fn} {C : Ctx} {X : Cx}
theorem lc_form {e : E} {x : Expr} (h : chkE G C e x = true) (hl : isLc x = true) : ∃ own vs elt p it cs xelt tg xi ifs scope pos, e = .lc own vs elt p it cs ∧ x = .ListComp xelt [⟨tg, xi, ifs, 0⟩] scope pos := by
  cases x <;> first | (cases hl; done) | skip
  unfold chkE at h
  split at h <;> first | (rename_i he; cases he; done) | (rename_i he; cases he; exact ⟨_, _, _, _, _, _, _, _, _, _, _, _, rfl, rfl⟩) | cases h
theorem sX (ok : XOk G C X) {e : E} {x : Expr} (h : chkX G C e x = true) : PE X x (Rx (wd X) (muE e) (ev G e)) := by
  have h0 := h
  unfold chkX at h
  split at h
  · exact (sLc2 ok h0).1
  · exact sE ok h
theorem asgV_of (ok : SOk G C X) {i : Nat} {nm : Str} {p1 pos : Pos} {e : E} {x : Expr} (hN : C.N[i]? = some nm) (hl : nm ∈ C.loc) (hc : (noComp x || isLc x) = true) (h : chkX G C e x = true) :
    PS X (.Assign [.Name nm p1] x pos) (Sx (wd X) (asS (.asg (.v i) e)) (muS (.asg (.v i) e)) (ex G (.asg (.v i) e))) := by
  refine s_asgV ?_
  have h0 := h
  unfold chkX at h
  split at h
  · rename_i vs vs1 elt p it p1' it1 cs1 xelt tg xi tg1 xi1 ifs1 scope lpos
    cases hs : swB C nm p1 scope lpos with
    | true =>
      have hloc : C.sc.names.lookup nm = some .local := by
        unfold swB at hs
        simp only [Bool.and_eq_true, decide_eq_true_eq] at hs
        exact hs.1.1
      exact (sLc2 ok.toXOk h0).2 i nm p1 pos hN hloc (by rw [sw_eq ok, hs])
    | false => exact asg_name ok hN hl (sLc2 ok.toXOk h0).1 (by rw [sw_eq ok, hs])
  cases hn : noComp x with
  | true => exact asg_name ok hN hl (sE ok.toXOk h) (sw_no hn)
  | false =>
    rw [hn] at hc
    obtain ⟨own, vs, elt, p, it, cs, xelt, tg, xi, ifs, scope, lpos, rfl, rfl⟩ := lc_form h (by simpa using hc)
    cases hs : swB C nm p1 scope lpos with
    | true =>
      have hloc : C.sc.names.lookup nm = some .local := by
        unfold swB at hs
        simp only [Bool.and_eq_true, decide_eq_true_eq] at hs
        exact hs.1.1
      exact sLc ok.toXOk h i nm p1 pos hN hloc (by rw [sw_eq ok, hs])
    | false => exact asg_name ok hN hl (sE ok.toXOk h) (by rw [sw_eq ok, hs])
theorem swT_no {x : Expr} {l : Nat} {env : PySem.Env} {ts : List Expr} {k : Nat} {p : Pos} (h : noComp x = true) : swapsWithSole [.Tuple ts k p] x l env = pure false := by
  show swapsWith x (some (.Tuple ts k p)) l env = pure false
  exact sw_no h
theorem sstT_no {x : Expr} {env : PySem.Env} {ts : List Expr} {k : Nat} {p : Pos} (h : noTup x = true) : swappedStores [.Tuple ts k p] x env = pure none := by
  unfold swappedStores
  cases x <;> first | rfl | cases h
theorem fm_lt {α β : Type} (f : α → Option β) (l : List α) (h : ∃ a ∈ l, f a = none) : (l.filterMap f).length < l.length := by
  induction l with
  | nil => obtain ⟨a, h, _⟩ := h; cases h
  | cons b l ih =>
    obtain ⟨a, ha, hf⟩ := h
    rw [List.filterMap_cons]
    rcases List.mem_cons.1 ha with rfl | ha
    · rw [hf]
      exact Nat.lt_succ_of_le (List.length_filterMap_le _ _)
    · have := ih ⟨a, ha, hf⟩
      cases f b with
      | none => exact Nat.lt_succ_of_lt this
      | some c => exact Nat.succ_lt_succ this
theorem sstT_cell (ok : SOk G C X) {x : Expr} {ts : List Expr} {k : Nat} {p : Pos} (h : (noTup x || cellT C ts) = true) : swappedStores [.Tuple ts k p] x X.env = pure none := by
  rcases (Bool.or_eq_true _ _).mp h with h | h
  · exact sstT_no h
  · cases x <;> first | (exact sstT_no rfl) | skip
    rename_i vs k2 p2
    unfold swappedStores
    simp only []
    split
    · rfl
    · split
      · rfl
      · split
        · rfl
        · rename_i hh
          exfalso
          apply hh
          rw [Bool.or_eq_true]
          left
          rw [bne_iff_ne]
          apply Nat.ne_of_lt
          apply fm_lt
          have h2 : ts.any (fun t => !locT C t) = true := h
          obtain ⟨t, ht, hn⟩ := List.any_eq_true.1 h2
          have hn : locT C t = false := by simpa using hn
          refine ⟨t, ht, ?_⟩
          cases t with
          | Name nm pos =>
            have hk : X.env.kindOf nm ≠ some NameKind.local := by
              unfold PySem.Env.kindOf; rw [ok.sc]; simpa [locT] using hn
            have h3 : (X.env.kindOf nm == some NameKind.local) = false := by
              rw [beq_eq_false_iff_ne]; exact hk
            simp only []
            rw [h3]
            rfl
          | _ => rfl
theorem sI2 (ok : XOk G C X) {p : E} {x tg : Expr} (h : chkI2 G C p x tg = true) : PI X tg x (Ix (wd X) (muE p) (iRun G p)) := by
  unfold chkI2 at h
  split at h
  · split at h
    · simp only [Bool.and_eq_true] at h
      obtain ⟨⟨⟨⟨⟨h1, h2⟩, h3⟩, h4⟩, h5⟩, h6⟩ := h
      obtain ⟨rfl, hg⟩ := nmOk_at h1
      cases tg <;> try (cases h2)
      exact w_zip ok hg (sE ok h5) (sE ok h6) h3 h4
    · cases h
  · exact sI ok h
mutual
theorem sS (ok : SOk G C X) : ∀ (s : S) (t : Stmt), chkS G C s t = true → PS X t (Sx (wd X) (asS s) (muS s) (ex G s))
  | s, t, h => by
    unfold chkS at h
    split at h
    · exact s_never
    · simp only [Bool.and_eq_true] at h
      exact s_do (sE ok.toXOk h.2) h.1
    · simp only [Bool.and_eq_true, decide_eq_true_eq] at h
      exact asgV_of ok h.1.1.1 h.1.1.2 h.1.2 h.2
    · simp only [Bool.and_eq_true] at h
      exact s_asgT ok h.1.1.1 (sE ok.toXOk h.2) (swT_no h.1.1.2) (sstT_cell ok h.1.2)
    · simp only [Bool.and_eq_true, decide_eq_true_eq] at h
      obtain ⟨⟨⟨⟨g1, g2⟩, g3⟩, g4⟩, g5⟩ := h
      rcases (Bool.or_eq_true _ _).mp g3 with g3 | g3
      · exact s_par2 ok g1 g2 g3 (sE ok.toXOk g4) (sE ok.toXOk g5)
      · simp only [Bool.and_eq_true, decide_eq_true_eq] at g3
        obtain ⟨⟨⟨⟨c1, c2⟩, c3⟩, c4⟩, c5⟩ := g3
        exact s_par2t ok g1 g2 c1 c2 c3 c4 (sstT_cell ok (by rw [c5, Bool.or_true])) (sE ok.toXOk g4) (sE ok.toXOk g5)
    · simp only [Bool.and_eq_true, decide_eq_true_eq] at h
      obtain ⟨⟨⟨⟨⟨⟨⟨⟨⟨⟨⟨⟨g1, g2⟩, g3⟩, g4⟩, g5⟩, g6⟩, g7⟩, g8⟩, g9⟩, g10⟩, g11⟩, g12⟩, g13⟩ := h
      rcases (Bool.or_eq_true _ _).mp g7 with g7 | g7
      · exact s_par3t ok g1 g2 g3 g4 g5 g6 g8 g9 g10 (sstT_cell ok (by rw [g7, Bool.or_true])) (sE ok.toXOk g11) (sE ok.toXOk g12) (sE ok.toXOk g13)
      · exact s_par3l ok g1 g2 g3 g7 (sE ok.toXOk g11) (sE ok.toXOk g12) (sE ok.toXOk g13)
    · simp only [Bool.and_eq_true] at h
      obtain ⟨v1, v2, v3⟩ := varOk_at h.1.1.1
      exact s_setI ok v1 v2 v3 (sE ok.toXOk h.2) (sE ok.toXOk h.1.2) h.1.1.2
    · simp only [Bool.and_eq_true] at h
      obtain ⟨v1, v2, v3⟩ := varOk_at h.1.1.1
      exact s_augI ok v1 v2 v3 (sE ok.toXOk h.2) (sE ok.toXOk h.1.2) h.1.1.2
    · simp only [Bool.and_eq_true, decide_eq_true_eq] at h
      obtain ⟨⟨⟨⟨rfl, h1⟩, h2⟩, h3⟩, h4⟩ := h
      obtain ⟨v1, v2, v3⟩ := varOk_at h1
      exact s_app ok v1 v2 v3 (sE ok.toXOk h4) h2 h3
    · simp only [Bool.and_eq_true, decide_eq_true_eq] at h
      obtain ⟨⟨⟨⟨⟨⟨⟨⟨rfl, g1⟩, g2⟩, g3⟩, g4⟩, g5⟩, g6⟩, g7⟩, g8⟩ := h
      obtain ⟨v1, v2, v3⟩ := varOk_at g1
      exact s_upd ok v1 v2 v3 (k_dc ok.toXOk (sI ok.toXOk g4) g6 g5 (fun Y hw okY => g_of okY _ _ g3) (fun Y hw okY => k_take (sE okY g7)) (fun Y hw okY => k_take (sE okY g8))) rfl g2
    · simp only [Bool.and_eq_true, decide_eq_true_eq] at h
      obtain ⟨⟨⟨⟨⟨⟨rfl, h1⟩, h2⟩, h3⟩, h4⟩, h5⟩, h6⟩ := h
      obtain ⟨v1, v2, v3⟩ := varOk_at h1
      exact s_appI ok v1 v2 v3 (sE ok.toXOk h6) (sE ok.toXOk h5) h4 h2 h3
    · exact s_ret (sX ok.toXOk h)
    · exact s_retN
    · simp only [Bool.and_eq_true] at h
      exact s_ifs (sT ok.toXOk h.1.1.2 h.1.1.1) (sSs ok _ _ h.1.2) (sSs ok _ _ h.2)
    · simp only [Bool.and_eq_true] at h
      exact s_for ok h.1.1.1 (sI2 ok.toXOk h.1.2) (sSs ok _ _ h.2) h.1.1.2
    · simp only [Bool.and_eq_true, decide_eq_true_eq] at h
      exact s_augN ok h.1.1 h.1.2 (sE ok.toXOk h.2)
    · simp only [Bool.and_eq_true, decide_eq_true_eq] at h
      exact s_augNs ok h.1.1 h.1.2 (sE ok.toXOk h.2)
    · simp only [Bool.and_eq_true, decide_eq_true_eq] at h
      obtain ⟨⟨⟨⟨⟨⟨⟨⟨g1, g2⟩, g3⟩, g4⟩, g5⟩, g6⟩, g7⟩, g8⟩, g9⟩ := h
      obtain ⟨v1, v2, v3⟩ := varOk_at g1
      exact s_setN ok v1 v2 v3 g3 g4 g5 g6 (sstT_cell ok (by simp [cellT, locT])) (sE ok.toXOk g8) (sE ok.toXOk g9) (sE ok.toXOk g7) g2
    · simp only [Bool.and_eq_true] at h
      exact s_whl ok (sT ok.toXOk h.1.2 h.1.1) (sSs ok _ _ h.2)
    · exact s_pass
    · exact s_brk
    · cases h
theorem sSs (ok : SOk G C X) : ∀ (ss : List S) (ts : List Stmt), chkSs G C ss ts = true → PSs X ts (Sx (wd X) (asSs ss) (muSs ss) (exs G ss))
  | [], ts, h => by
    cases ts with
    | nil => exact s_nil
    | cons t ts => simp [chkSs] at h
  | s :: ss, ts, h => by
    cases ts with
    | nil => simp [chkSs] at h
    | cons t ts =>
      simp only [chkSs, Bool.and_eq_true] at h
      exact s_cons (sS ok s t h.1) (sSs ok ss ts h.2)
end
end
end TR
set_option Elab.async false
set_option linter.all false
set_option maxHeartbeats 8000000
set_option maxRecDepth 10000
/-! defs -/
namespace TR
open PySem PySem.Spec PyProof.Rows L2 StX
def spFn (B : Wd) (n : Nat) : Fn → Sp
  | .pr f => spP B n f
  | .wr f => spW B n f
/-- a def of the module keeps its promise -/
def FnG (P : Program) (w : World) (K : PySem.W.Frag) (mg : Str → Option Value) (base : Heap) (j : Nat) (x : Str) (n : Nat) (f : Fn) : Prop :=
  ∃ (a : Addr) (fd : FuncData) (ps : List Str), mg x = some (.ref a) ∧ PySem.W.keepIn K (.ref a) = true ∧ Binds K fd ps [] ∧ ps.length = n ∧ FnOk P w K mg base CX0 j a fd ps (spFn ⟨K, P, w⟩ n f)
theorem FnG.at {P : Program} {w : World} {K : PySem.W.Frag} {mg : Str → Option Value} {base : Heap} {j : Nat} {x : Str} {n : Nat} {f : Fn} (h : FnG P w K mg base j x n f) {X : Cx} (e1 : X.prog = P) (e2 : X.w = w) (e3 : X.K = K) (e4 : X.mg = mg) (e5 : X.base = base) (hr : Room j X.A) : FnAt X x n f := by
  subst e1 e2 e3 e4 e5
  obtain ⟨a, fd, ps, h1, h2, h3, h4, h5⟩ := h
  cases f with
  | pr f => exact ⟨j, a, fd, ps, h1, h2, h3, h4, h5, hr⟩
  | wr f => exact ⟨j, a, fd, ps, h1, h2, h3, h4, h5, hr⟩
theorem FnG.mono {P : Program} {w : World} {K : PySem.W.Frag} {mg : Str → Option Value} {base : Heap} {j k : Nat} {x : Str} {n : Nat} {f : Fn} (h : FnG P w K mg base j x n f) (hk : j ≤ k) : FnG P w K mg base k x n f := by
  obtain ⟨a, fd, ps, h1, h2, h3, h4, h5⟩ := h
  exact ⟨a, fd, ps, h1, h2, h3, h4, h5.mono hk⟩
def locOf (sc : Scope) : List Str := (sc.names.filter fun y => decide (sc.names.lookup y.1 = some .local) || decide (sc.names.lookup y.1 = some .cell)).map (·.1)
def locB (C : Ctx) : Bool := C.loc.all fun x => decide (C.sc.names.lookup x = some .local) || decide (C.sc.names.lookup x = some .cell)
section
variable {P : Program} {w : World} {K : PySem.W.Frag} {mg : Str → Option Value} {base : Heap} {G : List Fn} {C : Ctx} {j : Nat}
/-- the facts of the module that a def leans on -/
structure Mk0 (P : Program) (w : World) (K : PySem.W.Frag) (mg : Str → Option Value) (base : Heap) (G : List Fn) (C : Ctx) (j : Nat) : Prop where
  bl : ∀ x ∈ bnames, mg x = none
  fns : ∀ (k : Nat) (x : Str) (n : Nat) (f : Fn), C.fn[k]? = some (x, n) → G[k]? = some f → FnG P w K mg base j x n f
  con : ∀ (k : Nat) (x : Str) (d : D), C.con[k]? = some (x, d) → ∃ v u, mg x = some u ∧ RelV v u ∧ ∀ Z H, Rp ⟨K, P, w⟩ Z H v d
theorem sok (M0 : Mk0 P w K mg base G C j) (hl : locB C = true) (hk : C.sc.kind = .function) (hN : C.N.Nodup) {qual : Str} {f : Addr} {cdv : Value} {A : Around} {outer : List PySem.Env} {s : Shared} {H : Hp} {E : XK}
    (hr : Room j (A.deeper (envOfC qual C.sc s.heap.objs.size f cdv))) : SOk G C (cxOf CX0 P w K mg base C.N qual C.sc f cdv A outer s H E).nox where
  N := rfl
  nd := hN
  sc := rfl
  calm := rfl
  hu := by
    show (A.deeper (envOfC qual C.sc s.heap.objs.size f cdv)).units + 100 < cLine
    have := hr.un
    omega
  hd := hr.hd
  bl := M0.bl
  fns := fun k x n g h1 h2 => (M0.fns k x n g h1 h2).at rfl rfl rfl rfl rfl hr
  loc := fun x hx => by
    have := List.all_eq_true.mp hl x hx
    simp only [Bool.or_eq_true, decide_eq_true_eq] at this
    exact ⟨this, .inl rfl⟩
  con := M0.con
  xe := rfl
  kind := hk
theorem start_len {N : List Str} {vs : List V} (h : vs.length ≤ N.length) : (L2.start N vs).length = N.length := by
  unfold L2.start
  rw [List.length_append, List.length_map, List.length_replicate]
  omega
theorem start_get {N : List Str} {vs : List V} {i : Nat} : (L2.start N vs)[i]? = if i < vs.length then (vs[i]?).map some else if i < N.length then some none else none := by
  unfold L2.start
  rw [List.getElem?_append]
  simp only [List.length_map, List.getElem?_map, List.getElem?_replicate]
  by_cases h : i < vs.length
  · rw [if_pos h, if_pos h]
  · rw [if_neg h, if_neg h]
    by_cases h2 : i < N.length
    · rw [if_pos (by omega), if_pos h2]
    · rw [if_neg (by omega), if_neg h2]
theorem rep_flat (n : Nat) : (List.replicate n ([] : List Addr)).flatten = [] := by simp
theorem sat_start {B : Wd} {Z : Zn} {H : Hp} {N : List Str} {vs : List V} {ds : List D} (r : RpL B Z H vs ds) (hn : ds.length ≤ N.length) (zh : ∀ a, Z a → H a ≠ none) :
    Sat B Z (L2.start N vs) H (ds.map (fun d => some (.pu d)) ++ List.replicate (N.length - ds.length) none) (List.replicate N.length []) := by
  have hl := r.length
  refine ⟨by simp; omega, by rw [start_len (by omega)]; simp; omega, fun i m e => ?_, fun i e => ?_, by simp, fun a h => by simp at h, zh⟩
  · rw [List.getElem?_append] at e
    simp only [List.length_map, List.getElem?_map, List.getElem?_replicate] at e
    by_cases h : i < ds.length
    · rw [if_pos h, List.getElem?_eq_getElem h] at e
      cases e
      obtain ⟨v, h1, h2⟩ := r.get (List.getElem?_eq_getElem h)
      refine ⟨v, [], ?_, ?_, .pu h2⟩
      · rw [start_get, if_pos (by omega), h1]; rfl
      · rw [List.getElem?_replicate, if_pos (by omega)]
    · rw [if_neg h] at e
      split at e <;> cases e
  · rw [List.getElem?_append] at e
    simp only [List.length_map, List.getElem?_map, List.getElem?_replicate] at e
    rw [List.getElem?_replicate]
    by_cases h : i < ds.length
    · rw [if_pos (by omega)]
    · rw [if_neg h] at e
      split at e
      · rw [if_pos (by omega)]
      · cases e
theorem nodup_app_sub {α : Type} {a b c : List α} (h : (a ++ b).Nodup) (hc : c.Nodup) (hs : ∀ x ∈ c, x ∈ b) : (a ++ c).Nodup := by
  obtain ⟨h1, h2, h3⟩ := List.nodup_append.mp h
  exact List.nodup_append.mpr ⟨h1, hc, fun x hx y hy => h3 x hx y (hs y hy)⟩
theorem fn_pr0 {x qual : Str} {st : Stmt} {fa : Addr} {fd : FuncData} {ps : List Str} {body : List S} (F : Fun K x qual st fa fd) (hsc : C.sc = defScope st) (S0 : FnScope C.N ps (defScope st)) (M0 : Mk0 P w K mg base G C j) (hl : locB C = true)
    (chk : chkSs G C body (defBody st) = true) : FnOk P w K mg base CX0 (j + 1) fa fd ps (spP ⟨K, P, w⟩ ps.length (runP G C.N.length body)) := by
  refine F.ok S0 (fun vs H Q E h => h.1) fun cdv A outer s H vs Q E hr hsp => ?_
  obtain ⟨hlen, Z, ds, m, zh, rl, hf, hq⟩ := hsp
  have ok := sok (qual := qual) (f := fa) (cdv := cdv) (outer := outer) (s := s) (H := H) (E := E) M0 hl (by rw [hsc]; exact S0.kind) S0.nd (by rw [hsc]; exact hr)
  refine ⟨_, hsc ▸ sSs ok body _ chk, ?_⟩
  have hn : ds.length ≤ C.N.length := by
    rw [← rl.length, hlen]
    have := congrArg List.length S0.pre
    rw [List.length_take] at this
    omega
  obtain ⟨o, h1, h2⟩ := R.bind_ok hf
  refine ⟨Z, _, _, sat_start rl hn zh, o, h1, ?_⟩
  have new : ∀ {asl mu env0 m e v H'}, RPost ⟨K, P, w⟩ asl mu (L2.start C.N vs) Z H env0 (List.replicate C.N.length []) m e v H' → NewC ⟨K, P, w⟩ Z H m v H' := by
    intro asl mu env0 m e v H' ⟨Z', Os', O, σ', q, s, f, r, nd, ho⟩
    refine ⟨fun a o e => s.keep a o e (by simp), Z', O, s.zz, fun a z => ⟨?_, q.zh a z⟩, r, (List.nodup_append.mp nd).1, fun a ha => ⟨?_, (ho a ha).1⟩⟩
    · rcases s.zn a z with k | k | k
      · exact .inl k
      · exact .inr k
      · simp at k
    · rcases (ho a ha).2 with k | k
      · exact k
      · simp at k
  cases o with
  | ret m' e =>
    cases h2
    exact fun v H' p => hq v H' (new p)
  | nx e =>
    cases h2
    intro σ' H' ⟨Z', Os', q, s, f⟩
    exact hq .non H' (new ⟨Z', Os', [], σ', q, s, f, .pu .non, by simpa using q.nd, fun a h => nomatch h⟩)
  | br e => cases h2
/-- A DEF OF DATA -/
theorem fn_pr {x x0 qual : Str} {st : Stmt} {fa : Addr} {fd : FuncData} {ps : List Str} {body : List S} (F : Fun K x0 qual st fa fd) (hsc : C.sc = defScope st) (S0 : FnScope C.N ps (defScope st)) (M0 : Mk0 P w K mg base G C j) (hl : locB C = true) (hmg : mg x = some (.ref fa)) (hb : Binds K fd ps [])
    (chk : chkSs G C body (defBody st) = true) : FnG P w K mg base (j + 1) x ps.length (.pr (runP G C.N.length body)) := ⟨fa, fd, ps, hmg, F.kp, hb, rfl, fn_pr0 F hsc S0 M0 hl chk⟩
theorem fn_bad {x x0 qual : Str} {st : Stmt} {fa : Addr} {fd : FuncData} {ps : List Str} (F : Fun K x0 qual st fa fd) (hmg : mg x = some (.ref fa)) (hb : Binds K fd ps []) : FnG P w K mg base j x ps.length (.pr fun _ => .bad) :=
  ⟨fa, fd, ps, hmg, F.kp, hb, rfl, ⟨fun vs H Q E h => h.1, fun A outer s H args us vs Q E hr he hb hv h => by
    obtain ⟨_, Z, ds, m, _, _, e, _⟩ := h
    cases e⟩⟩
theorem sat_start1 {B : Wd} {Z : Zn} {H : Hp} {N : List Str} {x : V} {m0 : M} {O : List Addr} {vs : List V} {ds : List D} (r : RpL B Z H vs ds) (r0 : RM B Z H x m0 O) (nd : O.Nodup) (nz : ∀ a ∈ O, ¬ Z a) (hn : ds.length + 1 ≤ N.length) (zh : ∀ a, Z a → H a ≠ none) :
    Sat B Z (L2.start N (x :: vs)) H (some m0 :: ds.map (fun d => some (.pu d)) ++ List.replicate (N.length - ds.length - 1) none) (O :: List.replicate (N.length - 1) []) := by
  have hl := r.length
  refine ⟨by simp; omega, by rw [start_len (by simp; omega)]; simp; omega, fun i m e => ?_, fun i e => ?_, by simpa using nd, fun a h => nz a (by simpa using h), zh⟩
  · cases i with
    | zero =>
      simp at e; subst e
      exact ⟨x, O, by rw [start_get]; simp, rfl, r0⟩
    | succ i =>
      simp only [List.cons_append, List.getElem?_cons_succ] at e
      rw [List.getElem?_append] at e
      simp only [List.length_map, List.getElem?_map, List.getElem?_replicate] at e
      by_cases h : i < ds.length
      · rw [if_pos h, List.getElem?_eq_getElem h] at e
        cases e
        obtain ⟨v, h1, h2⟩ := r.get (List.getElem?_eq_getElem h)
        refine ⟨v, [], ?_, ?_, .pu h2⟩
        · rw [start_get, if_pos (by simp; omega)]; simp [h1]
        · rw [List.getElem?_cons_succ, List.getElem?_replicate, if_pos (by omega)]
      · rw [if_neg h] at e
        split at e <;> cases e
  · cases i with
    | zero => simp at e
    | succ i =>
      simp only [List.cons_append, List.getElem?_cons_succ] at e
      rw [List.getElem?_append] at e
      simp only [List.length_map, List.getElem?_map, List.getElem?_replicate] at e
      rw [List.getElem?_cons_succ, List.getElem?_replicate]
      by_cases h : i < ds.length
      · rw [if_pos (by omega)]
      · rw [if_neg h] at e
        split at e
        · rw [if_pos (by omega)]
        · cases e
/-- A DEF THAT WRITES ITS FIRST PARAMETER -/
theorem fn_wr {x x0 qual : Str} {st : Stmt} {fa : Addr} {fd : FuncData} {ps : List Str} {body : List S} (F : Fun K x0 qual st fa fd) (hsc : C.sc = defScope st) (S0 : FnScope C.N ps (defScope st)) (M0 : Mk0 P w K mg base G C j) (hl : locB C = true) (hmg : mg x = some (.ref fa)) (hb : Binds K fd ps [])
    (chk : chkSs G C body (defBody st) = true) (h0 : (asSs body).contains 0 = false) : FnG P w K mg base (j + 1) x ps.length (.wr (runW G 0 C.N.length body)) := by
  refine ⟨fa, fd, ps, hmg, F.kp, hb, rfl, F.ok S0 (fun vs H Q E h => h.1) fun cdv A outer s H vs Q E hr hsp => ?_⟩
  obtain ⟨hlen, Z, m0, y, ds, m, m1, O, us, zh, rfl, rl, r0, nd, nz, hf, hq⟩ := hsp
  have ok := sok (qual := qual) (f := fa) (cdv := cdv) (outer := outer) (s := s) (H := H) (E := E) M0 hl (by rw [hsc]; exact S0.kind) S0.nd (by rw [hsc]; exact hr)
  refine ⟨_, hsc ▸ sSs ok body _ chk, ?_⟩
  have hn : ds.length + 1 ≤ C.N.length := by
    rw [← rl.length]
    have := congrArg List.length S0.pre
    rw [List.length_take] at this
    simp at hlen
    omega
  obtain ⟨o, h1, h2⟩ := R.bind_ok hf
  simp only [List.take_zero, List.map_nil, List.nil_append, List.drop_zero] at h1
  refine ⟨Z, _, _, sat_start1 (N := C.N) rl r0 nd nz hn zh, o, h1, ?_⟩
  have hfl : (O :: List.replicate (C.N.length - 1) ([] : List Addr)).flatten = O := by simp
  have new : ∀ {mu env0 m' e v H'}, RPost ⟨K, P, w⟩ (asSs body) mu (L2.start C.N (y :: us)) Z H env0 (O :: List.replicate (C.N.length - 1) []) m' e v H' → e.get 0 = .ok m1 → NewW ⟨K, P, w⟩ Z H O y m' m1 v H' := by
    intro mu env0 m' e v H' ⟨Z', Os', O', σ', q, s, f, r, nd', ho⟩ hg
    obtain ⟨v0, O1, k1, k2, k3⟩ := q.val 0 m1 (Env.get_ok hg)
    have hv0 : v0 = y := by
      rw [f 0 (by simpa using h0), start_get] at k1
      simp at k1
      exact k1.symm
    subst hv0
    have hO1 : ∀ a ∈ O1, a ∈ Os'.flatten := fun a ha => mem_flat.mpr ⟨0, O1, k2, ha⟩
    refine ⟨fun a o e hn => s.keep a o e (by rw [hfl]; exact hn), s.dom, Z', O', O1, s.zz, fun a z => ⟨?_, q.zh a z⟩, r, k3, nodup_app_sub nd' (flat_mem q.nd (List.mem_of_getElem? k2)) hO1, fun a ha => ?_⟩
    · have := s.zn a z
      rw [hfl] at this
      exact this
    · rcases List.mem_append.mp ha with ha | ha
      · have := ho a ha
        rw [hfl] at this
        exact ⟨this.2, this.1⟩
      · have := s.on a (hO1 a ha)
        rw [hfl] at this
        exact ⟨this, q.nz a (hO1 a ha)⟩
  cases o with
  | ret m' e =>
    obtain ⟨m2, h3, h4⟩ := R.bind_ok h2
    cases h4
    exact fun v H' p => hq v H' (new p h3)
  | nx e =>
    obtain ⟨m2, h3, h4⟩ := R.bind_ok h2
    cases h4
    intro σ' H' ⟨Z', Os', q, s, f⟩
    exact hq .non H' (new ⟨Z', Os', [], σ', q, s, f, .pu .non, by simpa using q.nd, fun a h => nomatch h⟩ h3)
  | br e => cases h2
/-- the law's own promise, from its def's -/
def spLaw (B : Wd) (f : FP) : Sp := spP B 1 f
theorem law_sp {B : Wd} {f : FP} {H : Hp} {a : Addr} {ns : List Int} (hS : SqL B.K H a (ns.map V.int)) (hf : f [.list (ns.map .int)] = .ok (.pu (.bool true))) : spP B 1 f [.ref a] H (fun v _ => v = .bl true) fun _ _ _ => False := by
  have ri : ∀ {Z : Zn} {ns : List Int}, RpL B Z H (ns.map V.int) (ns.map .int) := by
    intro Z ns
    induction ns with
    | nil => exact .nil
    | cons n ns ih => exact .cons (.int _) ih
  have fin : ∀ {Z : Zn} {v H'}, NewC B Z H (.pu (.bool true)) v H' → v = .bl true := fun {Z v H'} ⟨_, Z', O, _, _, r, _⟩ => r.boo
  rcases hS with h | h
  · refine ⟨rfl, fun b => b = a, [.list (ns.map .int)], _, fun b e => ?_, .cons (.lst rfl h ri) .nil, hf, fun v H' n => fin n⟩
    subst e
    rcases h with h | ⟨o, h⟩ <;> (rw [h]; simp)
  · exact ⟨rfl, fun _ => False, [.list (ns.map .int)], _, fun b e => e.elim, .cons (.lsK h ri) .nil, hf, fun v H' n => fin n⟩
/-- the callees, one by one -/
def FnsOk (P : Program) (w : World) (K : PySem.W.Frag) (mg : Str → Option Value) (base : Heap) (j : Nat) : List (Str × Nat) → List Fn → Prop
  | x :: xs, f :: fs => FnG P w K mg base j x.1 x.2 f ∧ FnsOk P w K mg base j xs fs
  | _, _ => True
theorem fns_of : ∀ {xs : List (Str × Nat)} {fs : List Fn}, FnsOk P w K mg base j xs fs → ∀ (k : Nat) (x : Str) (n : Nat) (f : Fn), xs[k]? = some (x, n) → fs[k]? = some f → FnG P w K mg base j x n f
  | [], _, _, k, x, n, f, h, _ => by simp at h
  | _ :: _, [], _, k, x, n, f, _, h => by simp at h
  | y :: xs, g :: fs, h0, 0, x, n, f, h1, h2 => by
    simp at h1 h2
    subst h1 h2
    exact h0.1
  | y :: xs, g :: fs, h0, k + 1, x, n, f, h1, h2 => fns_of h0.2 k x n f (by simpa using h1) (by simpa using h2)
def ConOk (B : Wd) (mg : Str → Option Value) : List (Str × D) → Prop
  | x :: xs => (∃ v u, mg x.1 = some u ∧ RelV v u ∧ ∀ Z H, Rp B Z H v x.2) ∧ ConOk B mg xs
  | [] => True
theorem con_of {B : Wd} {mg : Str → Option Value} : ∀ {xs : List (Str × D)}, ConOk B mg xs → ∀ (k : Nat) (x : Str) (d : D), xs[k]? = some (x, d) → ∃ v u, mg x = some u ∧ RelV v u ∧ ∀ Z H, Rp B Z H v d
  | [], _, k, x, d, h => by simp at h
  | y :: xs, h0, 0, x, d, h => by
    simp at h
    subst h
    exact h0.1
  | y :: xs, h0, k + 1, x, d, h => con_of h0.2 k x d (by simpa using h)
end
end TR
set_option Elab.async false
set_option linter.all false
set_option maxRecDepth 100000
namespace LB
open PySem PySem.Spec TR
def b_L_taken : List S := [(.ifs (.cmp .gt (.sub (.var 0) (.cst (.int 3))) (.cst (.int 0))) [(.asg (.v 2) (.bin .mod (.bi .int [(.sub (.var 0) (.cst (.int 3)))]) (.var 1))), (.setI 0 (.cst (.int 3)) (.bin .fdiv (.sub (.var 0) (.cst (.int 3))) (.var 1))), (.ret (.var 2))] []), (.setI 0 (.cst (.int 1)) (.bin .add (.sub (.var 0) (.cst (.int 1))) (.cst (.int 1)))), (.ifs (.cmp .gt (.sub (.var 0) (.cst (.int 1))) (.bi .len [(.sub (.var 0) (.cst (.int 0)))])) [(.setI 0 (.cst (.int 2)) (.bin .mod (.bi .int [(.bin .add (.bin .mul (.sub (.var 0) (.cst (.int 2))) (.cst (.int 48271))) (.cst (.int 11)))]) (.cst (.int 2147483647)))), (.ret (.bin .mod (.bi .int [(.bin .fdiv (.sub (.var 0) (.cst (.int 2))) (.cst (.int 7)))]) (.var 1)))] []), (.asg (.v 3) (.sub (.sub (.var 0) (.cst (.int 0))) (.bin .sub (.sub (.var 0) (.cst (.int 1))) (.cst (.int 1))))), (.setI 0 (.cst (.int 2)) (.bin .mod (.bi .int [(.bin .add (.bin .add (.bin .mul (.sub (.var 0) (.cst (.int 2))) (.cst (.int 48271))) (.var 3)) (.cst (.int 11)))]) (.cst (.int 2147483647)))), (.ifs (.cmp .ge (.var 3) (.bin .pow (.cst (.int 10)) (.cst (.int 18)))) [(.setI 0 (.cst (.int 3)) (.bin .fdiv (.var 3) (.var 1)))] []), (.ret (.bin .mod (.bi .int [(.var 3)]) (.var 1)))]
def g_L_taken : List Fn := []
def d_L_taken : FW := runW g_L_taken 0 4 b_L_taken
def b_L_yard : List S := [(.ret (.tup [(.bin .add (.cst (.int 1)) (.callW 0 0 [(.var 1)])), (.bin .add (.cst (.int 2)) (.callW 0 0 [(.bin .sub (.var 2) (.cst (.int 1)))]))]))]
def g_L_yard : List Fn := [.wr d_L_taken]
def d_L_yard : FW := runW g_L_yard 0 3 b_L_yard
def b_L_state : List S := [(.par [2, 3] [(.lc true [4] (.lst []) (.v 4) (.rng [(.sub (.var 1) (.cst (.int 1)))]) []), (.rgl false [(.sub (.var 1) (.cst (.int 0)))])]), (.for_ (.v 5) (.rng [(.sub (.var 1) (.cst (.int 0)))]) [(.appI 2 (.callW 0 0 [(.sub (.var 1) (.cst (.int 1)))]) (.popI 3 (.callW 0 0 [(.bi .len [(.var 3)])])))]), (.ret (.bi .tuple [(.lc false [6] (.bi .tuple [(.var 6)]) (.v 6) (.var 2) [])]))]
def g_L_state : List Fn := [.wr d_L_taken]
def d_L_state : FW := runW g_L_state 0 7 b_L_state
def b_L_alike : List S := [(.ifs (.bi .istl [(.var 1)]) [(.ifs (.or (.not (.bi .istl [(.var 0)])) (.cmp .ne (.bi .islist [(.var 0)]) (.bi .islist [(.var 1)]))) [(.ret (.cst (.bool false)))] []), (.ifs (.cmp .ne (.bi .len [(.var 0)]) (.bi .len [(.var 1)])) [(.ret (.cst (.bool false)))] []), (.ret (.cmp .eq (.lc false [2] (.var 2) (.v 2) (.rng [(.bi .len [(.var 1)])]) [(.not (.call 0 [(.sub (.var 0) (.var 2)), (.sub (.var 1) (.var 2))]))]) (.lst [])))] []), (.ifs (.or (.isc false (.var 1) .none) (.bi .isstr [(.var 1)])) [(.ret (.and (.cmp .eq (.var 0) (.var 1)) (.cmp .eq (.bi .isstr [(.var 0)]) (.bi .isstr [(.var 1)]))))] []), (.ret (.and (.bi .isint [(.var 0)]) (.and (.cmp .eq (.bi .isbool [(.var 0)]) (.bi .isbool [(.var 1)])) (.cmp .eq (.var 0) (.var 1)))))]
def d_L_alike : Nat → FP
  | 0 => fun _ => .bad
  | n + 1 => runP [.pr (d_L_alike n)] 3 b_L_alike
def g_L_alike (n : Nat) : List Fn := [.pr (d_L_alike n)]
def b_f_is_integer : List S := [(.ret (.and (.bi .isint [(.var 0)]) (.not (.bi .isbool [(.var 0)]))))]
def g_f_is_integer : List Fn := []
def d_f_is_integer : FP := runP g_f_is_integer 1 b_f_is_integer
def b_f_is_in : List S := [(.ret (.and (.call 0 [(.var 0)]) (.chn .le .le (.var 1) (.var 0) (.var 2))))]
def g_f_is_in : List Fn := [.pr d_f_is_integer]
def d_f_is_in : FP := runP g_f_is_in 3 b_f_is_in
def b_f_is_list : List S := [(.ret (.and (.bi .istup [(.var 0)]) (.chn .le .le (.var 1) (.bi .len [(.var 0)]) (.var 2))))]
def g_f_is_list : List Fn := []
def d_f_is_list : FP := runP g_f_is_list 3 b_f_is_list
def b_f_need_yard : List S := [(.ifs (.or (.not (.call 1 [(.var 0), (.cst (.int 2)), (.cst (.int 2))])) (.or (.not (.call 0 [(.sub (.var 0) (.cst (.int 0))), (.cst (.int 1)), (.glb 1 (.int 7))])) (.not (.call 0 [(.sub (.var 0) (.cst (.int 1))), (.cst (.int 2)), (.glb 0 (.int 8))])))) [(.do_ (.star (.cst .none)))] [])]
def g_f_need_yard : List Fn := [.pr d_f_is_in, .pr d_f_is_list]
def d_f_need_yard : FP := runP g_f_need_yard 1 b_f_need_yard
def b_f_need_trains : List S := [(.asg (.t [(.v 2), (.v 3)]) (.var 0)), (.ifs (.not (.call 0 [(.var 1), (.var 3), (.var 3)])) [(.do_ (.star (.cst .none)))] []), (.asg (.v 4) (.dct [])), (.for_ (.t [(.v 5), (.v 6)]) (.enm (.var 1)) [(.ifs (.not (.call 0 [(.var 6), (.cst (.int 0)), (.var 2)])) [(.do_ (.star (.cst .none)))] []), (.for_ (.v 7) (.var 6) [(.ifs (.or (.not (.call 1 [(.var 7), (.cst (.int 0)), (.bin .sub (.var 2) (.cst (.int 1)))])) (.cmp .inn (.var 7) (.var 4))) [(.do_ (.star (.cst .none)))] []), (.setI 4 (.var 7) (.cst (.bool true)))])]), (.ifs (.cmp .lt (.bi .len [(.var 4)]) (.var 2)) [(.do_ (.star (.cst .none)))] [])]
def g_f_need_trains : List Fn := [.pr d_f_is_list, .pr d_f_is_in]
def d_f_need_trains : FP := runP g_f_need_trains 8 b_f_need_trains
def b_f_need_state : List S := [(.do_ (.call 0 [(.var 0)])), (.do_ (.call 1 [(.var 0), (.var 1)]))]
def g_f_need_state : List Fn := [.pr d_f_need_yard, .pr d_f_need_trains]
def d_f_need_state : FP := runP g_f_need_state 2 b_f_need_state
def b_f_need_car : List S := [(.ifs (.not (.call 0 [(.var 1), (.cst (.int 0)), (.bin .sub (.sub (.var 0) (.cst (.int 0))) (.cst (.int 1)))])) [(.do_ (.star (.cst .none)))] [])]
def g_f_need_car : List Fn := [.pr d_f_is_in]
def d_f_need_car : FP := runP g_f_need_car 2 b_f_need_car
def b_f_station_in : List S := [(.ret (.sub (.lc false [2, 3] (.var 2) (.t [(.v 2), (.v 3)]) (.enm (.var 0)) [(.cmp .inn (.var 1) (.var 3))]) (.cst (.int 0))))]
def g_f_station_in : List Fn := []
def d_f_station_in : FP := runP g_f_station_in 4 b_f_station_in
def b_f_station_of : List S := [(.do_ (.call 0 [(.var 0), (.var 1)])), (.do_ (.call 1 [(.var 0), (.var 2)])), (.ret (.call 2 [(.var 1), (.var 2)]))]
def g_f_station_of : List Fn := [.pr d_f_need_state, .pr d_f_need_car, .pr d_f_station_in]
def d_f_station_of : FP := runP g_f_station_of 3 b_f_station_of
def b_L_at : List S := [(.ret (.sub (.lc false [2] (.var 2) (.v 2) (.rng [(.bi .len [(.var 0)])]) [(.cmp .inn (.var 1) (.sub (.var 0) (.var 2)))]) (.cst (.int 0))))]
def g_L_at : List Fn := []
def d_L_at : FP := runP g_L_at 3 b_L_at
def b_f_train_of : List S := [(.do_ (.call 0 [(.var 0), (.var 1)])), (.do_ (.call 1 [(.var 0), (.var 2)])), (.ret (.sub (.var 1) (.call 2 [(.var 1), (.var 2)])))]
def g_f_train_of : List Fn := [.pr d_f_need_state, .pr d_f_need_car, .pr d_f_station_in]
def d_f_train_of : FP := runP g_f_train_of 3 b_f_train_of
def b_f_trains_in : List S := [(.ret (.lc false [1, 2] (.tup [(.var 1), (.var 2)]) (.t [(.v 1), (.v 2)]) (.enm (.var 0)) [(.cmp .ne (.var 2) (.tup []))]))]
def g_f_trains_in : List Fn := []
def d_f_trains_in : FP := runP g_f_trains_in 3 b_f_trains_in
def b_f_trains : List S := [(.do_ (.call 0 [(.var 0), (.var 1)])), (.ret (.bi .tuple [(.call 1 [(.var 1)])]))]
def g_f_trains : List Fn := [.pr d_f_need_state, .pr d_f_trains_in]
def d_f_trains : FP := runP g_f_trains 2 b_f_trains
def b_f_count_trains : List S := [(.do_ (.call 0 [(.var 0), (.var 1)])), (.ret (.bi .len [(.call 1 [(.var 1)])]))]
def g_f_count_trains : List Fn := [.pr d_f_need_state, .pr d_f_trains_in]
def d_f_count_trains : FP := runP g_f_count_trains 2 b_f_count_trains
def b_f_is_full : List S := [(.do_ (.call 0 [(.var 0), (.var 1)])), (.ret (.bi .all [(.lc false [2] (.cmp .ne (.var 2) (.tup [])) (.v 2) (.var 1) [])]))]
def g_f_is_full : List Fn := [.pr d_f_need_state]
def d_f_is_full : FP := runP g_f_is_full 3 b_f_is_full
def b_f_first_state : List S := [(.do_ (.call 0 [(.var 0)])), (.ret (.bin .add (.tup [(.rgl true [(.sub (.var 0) (.cst (.int 0)))])]) (.bin .mul (.tup [(.tup [])]) (.bin .sub (.sub (.var 0) (.cst (.int 1))) (.cst (.int 1))))))]
def g_f_first_state : List Fn := [.pr d_f_need_yard]
def d_f_first_state : FP := runP g_f_first_state 1 b_f_first_state
def b_f_longest_train : List S := [(.do_ (.call 0 [(.var 0), (.var 1)])), (.asg (.t [(.v 2), (.v 3)]) (.bi .min [(.lc false [3, 4] (.tup [(.neg (.bi .len [(.var 4)])), (.var 3)]) (.t [(.v 3), (.v 4)]) (.call 1 [(.var 1)]) [])])), (.ret (.tup [(.neg (.var 2)), (.var 3)]))]
def g_f_longest_train : List Fn := [.pr d_f_need_state, .pr d_f_trains_in]
def d_f_longest_train : FP := runP g_f_longest_train 5 b_f_longest_train
def b_L_row : List S := [(.ret (.bi .tuple [(.lc false [3] (.callW 0 0 [(.sub (.var 1) (.cst (.int 0)))]) (.v 3) (.rng [(.callW 0 0 [(.bin .add (.var 2) (.cst (.int 1)))])]) [])]))]
def g_L_row : List Fn := [.wr d_L_taken]
def d_L_row : FW := runW g_L_row 0 4 b_L_row
def b_f_need_station : List S := [(.ifs (.not (.call 0 [(.var 1), (.cst (.int 0)), (.bin .sub (.sub (.var 0) (.cst (.int 1))) (.cst (.int 1)))])) [(.do_ (.star (.cst .none)))] [])]
def g_f_need_station : List Fn := [.pr d_f_is_in]
def d_f_need_station : FP := runP g_f_need_station 2 b_f_need_station
def b_f_move_in : List S := [(.asg (.v 2) (.bin .mod (.bin .add (.var 1) (.cst (.int 1))) (.bi .len [(.var 0)]))), (.asg (.v 3) (.bi .list [(.var 0)])), (.setI 3 (.var 2) (.bin .add (.sub (.var 0) (.var 2)) (.sub (.var 0) (.var 1)))), (.setI 3 (.var 1) (.tup [])), (.ret (.bi .tuple [(.var 3)]))]
def g_f_move_in : List Fn := []
def d_f_move_in : FP := runP g_f_move_in 4 b_f_move_in
def b_f_move : List S := [(.do_ (.call 0 [(.var 0), (.var 1)])), (.do_ (.call 1 [(.var 0), (.var 2)])), (.ret (.call 2 [(.var 1), (.var 2)]))]
def g_f_move : List Fn := [.pr d_f_need_state, .pr d_f_need_station, .pr d_f_move_in]
def d_f_move : FP := runP g_f_move 3 b_f_move
def b_L_move : List S := [(.par [2, 3] [(.bi .list [(.var 0)]), (.bin .mod (.bi .int [(.bin .add (.var 1) (.cst (.int 1)))]) (.bi .len [(.var 0)]))]), (.setI 2 (.var 3) (.bin .add (.sub (.var 0) (.var 3)) (.sub (.var 0) (.var 1)))), (.setI 2 (.var 1) (.tup [])), (.ret (.bi .tuple [(.var 2)]))]
def g_L_move : List Fn := []
def d_L_move : FP := runP g_L_move 4 b_L_move
def b_f_call_in : List S := [(.ret (.call 0 [(.var 0), (.call 1 [(.var 0), (.var 1)])]))]
def g_f_call_in : List Fn := [.pr d_f_move_in, .pr d_f_station_in]
def d_f_call_in : FP := runP g_f_call_in 2 b_f_call_in
def b_f_call : List S := [(.do_ (.call 0 [(.var 0), (.var 1)])), (.do_ (.call 1 [(.var 0), (.var 2)])), (.ret (.call 2 [(.var 1), (.var 2)]))]
def g_f_call : List Fn := [.pr d_f_need_state, .pr d_f_need_car, .pr d_f_call_in]
def d_f_call : FP := runP g_f_call 3 b_f_call
def b_L_call : List S := [(.ret (.call 0 [(.var 0), (.call 1 [(.var 0), (.var 1)])]))]
def g_L_call : List Fn := [.pr d_L_move, .pr d_L_at]
def d_L_call : FP := runP g_L_call 2 b_L_call
def b_f_need_calls : List S := [(.ifs (.not (.call 0 [(.var 1), (.cst (.int 0)), (.glb 0 (.int 60))])) [(.do_ (.star (.cst .none)))] []), (.for_ (.t [(.v 2), (.v 3)]) (.enm (.var 1)) [(.ifs (.not (.call 1 [(.var 3), (.cst (.int 0)), (.bin .sub (.sub (.var 0) (.cst (.int 0))) (.cst (.int 1)))])) [(.do_ (.star (.cst .none)))] [])])]
def g_f_need_calls : List Fn := [.pr d_f_is_list, .pr d_f_is_in]
def d_f_need_calls : FP := runP g_f_need_calls 4 b_f_need_calls
def b_f_story_in : List S := [(.asg (.v 2) (.lst [(.var 0)])), (.for_ (.v 3) (.var 1) [(.app 2 (.call 0 [(.sub (.var 2) (.neg (.cst (.int 1)))), (.var 3)]))]), (.ret (.var 2))]
def g_f_story_in : List Fn := [.pr d_f_call_in]
def d_f_story_in : FP := runP g_f_story_in 4 b_f_story_in
def b_f_story : List S := [(.do_ (.call 0 [(.var 0), (.var 1)])), (.do_ (.call 1 [(.var 0), (.var 2)])), (.ret (.call 2 [(.var 1), (.var 2)]))]
def g_f_story : List Fn := [.pr d_f_need_state, .pr d_f_need_calls, .pr d_f_story_in]
def d_f_story : FP := runP g_f_story 3 b_f_story
def b_f_after : List S := [(.do_ (.call 0 [(.var 0), (.var 1)])), (.do_ (.call 1 [(.var 0), (.var 2)])), (.ret (.sub (.call 2 [(.var 1), (.var 2)]) (.neg (.cst (.int 1)))))]
def g_f_after : List Fn := [.pr d_f_need_state, .pr d_f_need_calls, .pr d_f_story_in]
def d_f_after : FP := runP g_f_after 3 b_f_after
def b_f_trains_left : List S := [(.do_ (.call 0 [(.var 0), (.var 1)])), (.do_ (.call 1 [(.var 0), (.var 2)])), (.ret (.bi .tuple [(.lc false [3] (.bi .len [(.call 3 [(.var 3)])]) (.v 3) (.call 2 [(.var 1), (.var 2)]) [])]))]
def g_f_trains_left : List Fn := [.pr d_f_need_state, .pr d_f_need_calls, .pr d_f_story_in, .pr d_f_trains_in]
def d_f_trains_left : FP := runP g_f_trains_left 4 b_f_trains_left
def b_L_taken_stations : List S := [(.ret (.lc false [1] (.var 1) (.v 1) (.rng [(.bi .len [(.var 0)])]) [(.cmp .ne (.sub (.var 0) (.var 1)) (.tup []))]))]
def g_L_taken_stations : List Fn := []
def d_L_taken_stations : FP := runP g_L_taken_stations 2 b_L_taken_stations
def b_f_after_moves : List S := [(.do_ (.call 0 [(.var 0), (.var 1)])), (.ifs (.or (.not (.call 2 [(.var 2), (.cst (.int 0)), (.glb 0 (.int 60))])) (.not (.bi .all [(.lc false [3] (.call 1 [(.var 3), (.cst (.int 0)), (.bin .sub (.sub (.var 0) (.cst (.int 1))) (.cst (.int 1)))]) (.v 3) (.var 2) [])]))) [(.do_ (.star (.cst .none)))] []), (.for_ (.v 4) (.var 2) [(.asg (.v 1) (.call 3 [(.var 1), (.var 4)]))]), (.ret (.var 1))]
def g_f_after_moves : List Fn := [.pr d_f_need_state, .pr d_f_is_in, .pr d_f_is_list, .pr d_f_move_in]
def d_f_after_moves : FP := runP g_f_after_moves 5 b_f_after_moves
end LB
set_option Elab.async false
set_option linter.all false
set_option maxRecDepth 100000
namespace LB
open PySem PySem.Spec TR
def b_f_exchanges : List S := [(.do_ (.call 0 [(.var 0), (.var 1)])), (.do_ (.call 1 [(.var 0), (.var 2)])), (.par [3, 4] [(.sub (.call 2 [(.var 1), (.var 2)]) (.neg (.cst (.int 1)))), (.lst [])]), (.for_ (.v 5) (.rng [(.bin .sub (.bi .len [(.var 2)]) (.cst (.int 1)))]) [(.asg (.v 6) (.bin .add (.bin .add (.slc (.var 2) none (some (.var 5))) (.tup [(.sub (.var 2) (.bin .add (.var 5) (.cst (.int 1)))), (.sub (.var 2) (.var 5))])) (.slc (.var 2) (some (.bin .add (.var 5) (.cst (.int 2)))) none))), (.ifs (.cmp .eq (.sub (.call 2 [(.var 1), (.var 6)]) (.neg (.cst (.int 1)))) (.var 3)) [(.app 4 (.var 5))] [])]), (.ret (.bi .tuple [(.var 4)]))]
def g_f_exchanges : List Fn := [.pr d_f_need_state, .pr d_f_need_calls, .pr d_f_story_in]
def d_f_exchanges : FP := runP g_f_exchanges 7 b_f_exchanges
def b_f_without : List S := [(.ret (.bin .add (.slc (.var 0) none (some (.var 1))) (.slc (.var 0) (some (.bin .add (.var 1) (.cst (.int 1)))) none)))]
def g_f_without : List Fn := []
def d_f_without : FP := runP g_f_without 2 b_f_without
def b_f_needless : List S := [(.do_ (.call 0 [(.var 0), (.var 1)])), (.do_ (.call 1 [(.var 0), (.var 2)])), (.asg (.v 3) (.sub (.call 2 [(.var 1), (.var 2)]) (.neg (.cst (.int 1))))), (.ret (.bi .tuple [(.lc false [4] (.var 4) (.v 4) (.rng [(.bi .len [(.var 2)])]) [(.cmp .eq (.sub (.call 2 [(.var 1), (.call 3 [(.var 2), (.var 4)])]) (.neg (.cst (.int 1)))) (.var 3))])]))]
def g_f_needless : List Fn := [.pr d_f_need_state, .pr d_f_need_calls, .pr d_f_story_in, .pr d_f_without]
def d_f_needless : FP := runP g_f_needless 5 b_f_needless
end LB
set_option Elab.async false
set_option linter.all false
set_option maxRecDepth 100000
namespace LB
open PySem PySem.Spec TR
def b_f_steps_of : List S := [(.do_ (.call 0 [(.var 0), (.var 1)])), (.do_ (.call 1 [(.var 0), (.var 2)])), (.asg (.v 3) (.bin .mul (.lst [(.cst (.int 0))]) (.sub (.var 0) (.cst (.int 0))))), (.for_ (.t [(.v 4), (.v 5)]) (.zip (.call 2 [(.var 1), (.var 2)]) (.var 2)) [(.for_ (.v 6) (.sub (.var 4) (.call 3 [(.var 4), (.var 5)])) [(.augI 3 (.var 6) .add (.cst (.int 1)))])]), (.ret (.bi .tuple [(.var 3)]))]
def g_f_steps_of : List Fn := [.pr d_f_need_state, .pr d_f_need_calls, .pr d_f_story_in, .pr d_f_station_in]
def d_f_steps_of : FP := runP g_f_steps_of 7 b_f_steps_of
def b_f_couplings : List S := [(.do_ (.call 0 [(.var 0), (.var 1)])), (.do_ (.call 1 [(.var 0), (.var 2)])), (.par [3, 4] [(.lst []), (.call 2 [(.var 1), (.var 2)])]), (.for_ (.t [(.v 5), (.v 6)]) (.enm (.var 2)) [(.asg (.v 7) (.call 3 [(.sub (.var 4) (.var 5)), (.var 6)])), (.asg (.v 8) (.sub (.sub (.var 4) (.var 5)) (.bin .mod (.bin .add (.var 7) (.cst (.int 1))) (.sub (.var 0) (.cst (.int 1)))))), (.ifs (.cmp .ne (.var 8) (.tup [])) [(.app 3 (.tup [(.var 5), (.sub (.var 8) (.neg (.cst (.int 1)))), (.sub (.sub (.sub (.var 4) (.var 5)) (.var 7)) (.cst (.int 0)))]))] [])]), (.ret (.bi .tuple [(.var 3)]))]
def g_f_couplings : List Fn := [.pr d_f_need_state, .pr d_f_need_calls, .pr d_f_story_in, .pr d_f_station_in]
def d_f_couplings : FP := runP g_f_couplings 9 b_f_couplings
def b_f_first_coupling : List S := [(.asg (.v 3) (.call 0 [(.var 0), (.var 1), (.var 2)])), (.ret (.ite (.cmp .ne (.var 3) (.tup [])) (.sub (.sub (.var 3) (.cst (.int 0))) (.cst (.int 0))) (.cst .none)))]
def g_f_first_coupling : List Fn := [.pr d_f_couplings]
def d_f_first_coupling : FP := runP g_f_first_coupling 4 b_f_first_coupling
end LB
set_option Elab.async false
set_option linter.all false
set_option maxRecDepth 100000
namespace LB
open PySem PySem.Spec TR
def b_f_is_set : List S := [(.ifs (.or (.not (.call 1 [(.var 1), (.cst (.int 0)), (.sub (.var 0) (.cst (.int 1)))])) (.not (.bi .all [(.lc false [2] (.call 0 [(.var 2), (.cst (.int 0)), (.bin .sub (.sub (.var 0) (.cst (.int 1))) (.cst (.int 1)))]) (.v 2) (.var 1) [])]))) [(.ret (.cst (.bool false)))] []), (.ret (.cmp .eq (.bi .list [(.var 1)]) (.bi .set [(.var 1), (.cst .none)])))]
def g_f_is_set : List Fn := [.pr d_f_is_in, .pr d_f_is_list]
def d_f_is_set : FP := runP g_f_is_set 3 b_f_is_set
def b_f_need_closed : List S := [(.ifs (.or (.not (.call 0 [(.var 0), (.var 1)])) (.cmp .eq (.var 1) (.tup []))) [(.do_ (.star (.cst .none)))] [])]
def g_f_need_closed : List Fn := [.pr d_f_is_set]
def d_f_need_closed : FP := runP g_f_need_closed 2 b_f_need_closed
def b_f_closed_move : List S := [(.ifs (.cmp .inn (.bin .mod (.bin .add (.var 2) (.cst (.int 1))) (.bi .len [(.var 0)])) (.var 1)) [(.ret (.var 0))] []), (.ret (.call 0 [(.var 0), (.var 2)]))]
def g_f_closed_move : List Fn := [.pr d_f_move_in]
def d_f_closed_move : FP := runP g_f_closed_move 3 b_f_closed_move
def b_f_closed_after : List S := [(.do_ (.call 0 [(.var 0), (.var 1)])), (.do_ (.call 1 [(.var 0), (.var 2)])), (.do_ (.call 2 [(.var 0), (.var 3)])), (.for_ (.v 4) (.var 3) [(.asg (.v 1) (.call 3 [(.var 1), (.var 2), (.call 4 [(.var 1), (.var 4)])]))]), (.ret (.var 1))]
def g_f_closed_after : List Fn := [.pr d_f_need_state, .pr d_f_need_closed, .pr d_f_need_calls, .pr d_f_closed_move, .pr d_f_station_in]
def d_f_closed_after : FP := runP g_f_closed_after 5 b_f_closed_after
def b_f_closed_call : List S := [(.do_ (.call 0 [(.var 0), (.var 1)])), (.do_ (.call 1 [(.var 0), (.var 2)])), (.do_ (.call 2 [(.var 0), (.var 3)])), (.ret (.call 3 [(.var 1), (.var 2), (.call 4 [(.var 1), (.var 3)])]))]
def g_f_closed_call : List Fn := [.pr d_f_need_state, .pr d_f_need_closed, .pr d_f_need_car, .pr d_f_closed_move, .pr d_f_station_in]
def d_f_closed_call : FP := runP g_f_closed_call 4 b_f_closed_call
def b_f_room_in : List S := [(.asg (.v 3) (.cst (.int 0))), (.whl 1000000 (.cmp .nin (.bin .mod (.bin .add (.bin .add (.var 2) (.var 3)) (.cst (.int 1))) (.bi .len [(.var 0)])) (.var 1)) [(.augN 3 .add (.cst (.int 1)))]), (.ret (.var 3))]
def g_f_room_in : List Fn := []
def d_f_room_in : FP := runP g_f_room_in 4 b_f_room_in
def b_f_rooms : List S := [(.do_ (.call 0 [(.var 0), (.var 1)])), (.do_ (.call 1 [(.var 0), (.var 2)])), (.asg (.v 3) (.lst [])), (.for_ (.t [(.v 4), (.v 5)]) (.call 2 [(.var 1)]) [(.app 3 (.tup [(.sub (.var 5) (.cst (.int 0))), (.call 3 [(.var 1), (.var 2), (.var 4)])]))]), (.ret (.bi .tuple [(.bi .sorted [(.var 3)])]))]
def g_f_rooms : List Fn := [.pr d_f_need_state, .pr d_f_need_closed, .pr d_f_trains_in, .pr d_f_room_in]
def d_f_rooms : FP := runP g_f_rooms 6 b_f_rooms
def b_f_car_rooms : List S := [(.do_ (.call 0 [(.var 0), (.var 1)])), (.do_ (.call 1 [(.var 0), (.var 2)])), (.ret (.bi .tuple [(.lc false [3] (.call 2 [(.var 1), (.var 2), (.call 3 [(.var 1), (.var 3)])]) (.v 3) (.rng [(.sub (.var 0) (.cst (.int 0)))]) [])]))]
def g_f_car_rooms : List Fn := [.pr d_f_need_state, .pr d_f_need_closed, .pr d_f_room_in, .pr d_f_station_in]
def d_f_car_rooms : FP := runP g_f_car_rooms 4 b_f_car_rooms
def b_f_is_shut : List S := [(.do_ (.call 0 [(.var 0), (.var 1)])), (.do_ (.call 1 [(.var 0), (.var 2)])), (.ret (.bi .all [(.lc false [3, 4] (.cmp .inn (.bin .mod (.bin .add (.var 3) (.cst (.int 1))) (.sub (.var 0) (.cst (.int 1)))) (.var 2)) (.t [(.v 3), (.v 4)]) (.call 2 [(.var 1)]) [])]))]
def g_f_is_shut : List Fn := [.pr d_f_need_state, .pr d_f_need_closed, .pr d_f_trains_in]
def d_f_is_shut : FP := runP g_f_is_shut 5 b_f_is_shut
end LB
set_option Elab.async false
set_option linter.all false
set_option maxRecDepth 100000
namespace LB
open PySem PySem.Spec TR
def b_L_word : List S := [(.asg (.v 1) (.lst [])), (.for_ (.v 2) (.rev (.var 0)) [(.asg (.v 1) (.bin .add (.var 1) (.bi .list [(.var 2)])))]), (.asg (.v 3) (.mt .index (.var 1) [(.cst (.int 0))])), (.ret (.bi .tuple [(.bin .add (.slc (.var 1) (some (.var 3)) none) (.slc (.var 1) none (some (.var 3))))]))]
def g_L_word : List Fn := []
def d_L_word : FP := runP g_L_word 4 b_L_word
def b_f_word_in : List S := [(.asg (.v 1) (.lc2 [2, 3] [3] (.var 3) (.v 2) (.rvd (.var 0)) (.v 3) (.var 2) [])), (.asg (.v 4) (.mt .index (.var 1) [(.cst (.int 0))])), (.ret (.bi .tuple [(.bin .add (.slc (.var 1) (some (.var 4)) none) (.slc (.var 1) none (some (.var 4))))]))]
def g_f_word_in : List Fn := []
def d_f_word_in : FP := runP g_f_word_in 5 b_f_word_in
def b_f_ring_word : List S := [(.do_ (.call 0 [(.var 0), (.var 1)])), (.ret (.call 1 [(.var 1)]))]
def g_f_ring_word : List Fn := [.pr d_f_need_state, .pr d_f_word_in]
def d_f_ring_word : FP := runP g_f_ring_word 2 b_f_ring_word
def b_f_same_ring : List S := [(.do_ (.call 0 [(.var 0), (.var 1)])), (.do_ (.call 1 [(.var 0), (.var 2)])), (.ret (.cmp .eq (.call 2 [(.var 1)]) (.call 2 [(.var 2)])))]
def g_f_same_ring : List Fn := [.pr d_f_need_state, .pr d_f_need_trains, .pr d_f_word_in]
def d_f_same_ring : FP := runP g_f_same_ring 3 b_f_same_ring
def b_L_done : List S := [(.for_ (.v 2) (.var 1) [(.asg (.v 0) (.call 0 [(.var 0), (.var 2)]))]), (.ret (.var 0))]
def g_L_done : List Fn := [.pr d_L_call]
def d_L_done : FP := runP g_L_done 3 b_L_done
def b_f_arcs_in : List S := [(.asg (.v 1) (.lc false [2] (.var 2) (.v 2) (.rvd (.call 0 [(.var 0)])) [])), (.asg (.v 3) (.mt .index (.lc false [4, 5] (.cmp .inn (.cst (.int 0)) (.var 5)) (.t [(.v 4), (.v 5)]) (.var 1) []) [(.cst (.bool true))])), (.ret (.bin .add (.slc (.var 1) (some (.var 3)) none) (.slc (.var 1) none (some (.var 3)))))]
def g_f_arcs_in : List Fn := [.pr d_f_trains_in]
def d_f_arcs_in : FP := runP g_f_arcs_in 6 b_f_arcs_in
def b_f_arcs : List S := [(.do_ (.call 0 [(.var 0), (.var 1)])), (.ret (.bi .tuple [(.lc false [2, 3] (.var 3) (.t [(.v 2), (.v 3)]) (.call 1 [(.var 1)]) [])]))]
def g_f_arcs : List Fn := [.pr d_f_need_state, .pr d_f_arcs_in]
def d_f_arcs : FP := runP g_f_arcs 4 b_f_arcs
def b_f_heads : List S := [(.do_ (.call 0 [(.var 0), (.var 1)])), (.ret (.bi .tuple [(.bi .sorted [(.lc false [2, 3] (.sub (.var 3) (.cst (.int 0))) (.t [(.v 2), (.v 3)]) (.call 1 [(.var 1)]) [])])]))]
def g_f_heads : List Fn := [.pr d_f_need_state, .pr d_f_trains_in]
def d_f_heads : FP := runP g_f_heads 4 b_f_heads
def b_f_cuts : List S := [(.do_ (.call 0 [(.var 0), (.var 1)])), (.ret (.bi .tuple [(.bi .sorted [(.lc false [2, 3] (.sub (.var 3) (.neg (.cst (.int 1)))) (.t [(.v 2), (.v 3)]) (.call 1 [(.var 1)]) [])])]))]
def g_f_cuts : List Fn := [.pr d_f_need_state, .pr d_f_trains_in]
def d_f_cuts : FP := runP g_f_cuts 4 b_f_cuts
end LB
set_option Elab.async false
set_option linter.all false
set_option maxRecDepth 100000
namespace LB
open PySem PySem.Spec TR
def b_f_at_once_in : List S := [(.asg (.v 2) (.bi .len [(.var 0)])), (.asg (.v 3) (.lst [])), (.for_ (.v 4) (.rng [(.var 2)]) [(.asg (.v 5) (.bin .mod (.bin .sub (.var 4) (.cst (.int 1))) (.var 2))), (.asg (.v 6) (.ite (.cmp .inn (.var 4) (.var 1)) (.tup []) (.sub (.var 0) (.var 4)))), (.app 3 (.bin .add (.var 6) (.ite (.cmp .inn (.var 5) (.var 1)) (.sub (.var 0) (.var 5)) (.tup []))))]), (.ret (.bi .tuple [(.var 3)]))]
def g_f_at_once_in : List Fn := []
def d_f_at_once_in : FP := runP g_f_at_once_in 7 b_f_at_once_in
def b_f_at_once : List S := [(.do_ (.call 0 [(.var 0), (.var 1)])), (.ifs (.not (.call 1 [(.var 0), (.var 2)])) [(.do_ (.star (.cst .none)))] []), (.ret (.call 2 [(.var 1), (.var 2)]))]
def g_f_at_once : List Fn := [.pr d_f_need_state, .pr d_f_is_set, .pr d_f_at_once_in]
def d_f_at_once : FP := runP g_f_at_once 3 b_f_at_once
def b_L_at_once : List S := [(.asg (.v 2) (.lst [])), (.for_ (.v 3) (.rng [(.bi .len [(.var 0)])]) [(.asg (.v 4) (.ite (.cmp .inn (.var 3) (.var 1)) (.tup []) (.sub (.var 0) (.var 3)))), (.app 2 (.bin .add (.var 4) (.ite (.cmp .inn (.bin .mod (.bi .int [(.bin .sub (.var 3) (.cst (.int 1)))]) (.bi .len [(.var 0)])) (.var 1)) (.sub (.var 0) (.bin .sub (.var 3) (.cst (.int 1)))) (.tup []))))]), (.ret (.bi .tuple [(.var 2)]))]
def g_L_at_once : List Fn := []
def d_L_at_once : FP := runP g_L_at_once 5 b_L_at_once
def b_f_need_groups : List S := [(.ifs (.not (.call 0 [(.var 1), (.cst (.int 0)), (.glb 0 (.int 40))])) [(.do_ (.star (.cst .none)))] []), (.for_ (.t [(.v 2), (.v 3)]) (.enm (.var 1)) [(.ifs (.not (.call 1 [(.var 0), (.var 3)])) [(.do_ (.star (.cst .none)))] [])])]
def g_f_need_groups : List Fn := [.pr d_f_is_list, .pr d_f_is_set]
def d_f_need_groups : FP := runP g_f_need_groups 4 b_f_need_groups
def b_f_after_groups : List S := [(.do_ (.call 0 [(.var 0), (.var 1)])), (.do_ (.call 1 [(.var 0), (.var 2)])), (.for_ (.v 3) (.var 2) [(.asg (.v 1) (.call 2 [(.var 1), (.var 3)]))]), (.ret (.var 1))]
def g_f_after_groups : List Fn := [.pr d_f_need_state, .pr d_f_need_groups, .pr d_f_at_once_in]
def d_f_after_groups : FP := runP g_f_after_groups 4 b_f_after_groups
def b_f_all_at_once : List S := [(.do_ (.call 0 [(.var 0), (.var 1)])), (.ifs (.not (.call 1 [(.var 2), (.cst (.int 0)), (.cst (.int 1000000))])) [(.do_ (.star (.cst .none)))] []), (.asg (.v 3) (.bin .mod (.var 2) (.sub (.var 0) (.cst (.int 1))))), (.ret (.bin .add (.slc (.var 1) (some (.bin .sub (.bi .len [(.var 1)]) (.var 3))) none) (.slc (.var 1) none (some (.bin .sub (.bi .len [(.var 1)]) (.var 3))))))]
def g_f_all_at_once : List Fn := [.pr d_f_need_state, .pr d_f_is_in]
def d_f_all_at_once : FP := runP g_f_all_at_once 4 b_f_all_at_once
def b_f_alternating : List S := [(.do_ (.call 0 [(.var 0), (.var 1)])), (.ifs (.not (.call 1 [(.var 2), (.cst (.int 0)), (.cst (.int 1000))])) [(.do_ (.star (.cst .none)))] []), (.for_ (.v 3) (.rng [(.var 2)]) [(.asg (.v 1) (.call 2 [(.var 1), (.lc false [4] (.var 4) (.v 4) (.rng [(.sub (.var 0) (.cst (.int 1)))]) [(.cmp .eq (.bin .mod (.var 4) (.cst (.int 2))) (.bin .mod (.var 3) (.cst (.int 2))))])]))]), (.ret (.var 1))]
def g_f_alternating : List Fn := [.pr d_f_need_state, .pr d_f_is_in, .pr d_f_at_once_in]
def d_f_alternating : FP := runP g_f_alternating 5 b_f_alternating
end LB
set_option Elab.async false
set_option linter.all false
set_option maxRecDepth 100000
namespace LB
open PySem PySem.Spec TR
def b_L_signed : List S := [(.ret (.bin .sub (.callW 0 0 [(.bin .add (.bin .mul (.cst (.int 2)) (.var 1)) (.cst (.int 1)))]) (.var 1)))]
def g_L_signed : List Fn := [.wr d_L_taken]
def d_L_signed : FW := runW g_L_signed 0 2 b_L_signed
def b_f_need_names : List S := [(.ifs (.or (.not (.call 1 [(.var 1), (.sub (.var 0) (.cst (.int 0))), (.sub (.var 0) (.cst (.int 0)))])) (.not (.bi .all [(.lc false [2] (.call 0 [(.var 2), (.cst (.int 0)), (.bin .sub (.sub (.var 0) (.cst (.int 0))) (.cst (.int 1)))]) (.v 2) (.var 1) [])]))) [(.do_ (.star (.cst .none)))] []), (.ifs (.cmp .ne (.bi .sorted [(.var 1)]) (.rgl false [(.sub (.var 0) (.cst (.int 0)))])) [(.do_ (.star (.cst .none)))] [])]
def g_f_need_names : List Fn := [.pr d_f_is_in, .pr d_f_is_list]
def d_f_need_names : FP := runP g_f_need_names 3 b_f_need_names
def b_f_renamed : List S := [(.do_ (.call 0 [(.var 0), (.var 1)])), (.do_ (.call 1 [(.var 0), (.var 2)])), (.ret (.bi .tuple [(.lc false [4] (.bi .tuple [(.lc false [3] (.sub (.var 2) (.var 3)) (.v 3) (.var 4) [])]) (.v 4) (.var 1) [])]))]
def g_f_renamed : List Fn := [.pr d_f_need_state, .pr d_f_need_names]
def d_f_renamed : FP := runP g_f_renamed 5 b_f_renamed
def b_f_turned : List S := [(.do_ (.call 0 [(.var 0), (.var 1)])), (.ifs (.not (.call 1 [(.var 2), (.neg (.cst (.int 100))), (.cst (.int 100))])) [(.do_ (.star (.cst .none)))] []), (.ret (.bi .tuple [(.lc false [3] (.sub (.var 1) (.bin .mod (.bin .sub (.var 3) (.var 2)) (.sub (.var 0) (.cst (.int 1))))) (.v 3) (.rng [(.sub (.var 0) (.cst (.int 1)))]) [])]))]
def g_f_turned : List Fn := [.pr d_f_need_state, .pr d_f_is_in]
def d_f_turned : FP := runP g_f_turned 4 b_f_turned
def b_f_renamed_word : List S := [(.do_ (.call 0 [(.var 0), (.var 1)])), (.do_ (.call 1 [(.var 0), (.var 2)])), (.asg (.v 3) (.lc false [4] (.sub (.var 2) (.var 4)) (.v 4) (.call 2 [(.var 1)]) [])), (.asg (.v 5) (.mt .index (.var 3) [(.cst (.int 0))])), (.ret (.bi .tuple [(.bin .add (.slc (.var 3) (some (.var 5)) none) (.slc (.var 3) none (some (.var 5))))]))]
def g_f_renamed_word : List Fn := [.pr d_f_need_state, .pr d_f_need_names, .pr d_f_word_in]
def d_f_renamed_word : FP := runP g_f_renamed_word 6 b_f_renamed_word
def b_f_last_orders : List S := [(.do_ (.call 0 [(.var 0), (.var 1)])), (.par [2, 3] [(.call 1 [(.var 1)]), (.lst [])]), (.for_ (.t [(.v 4), (.v 5)]) (.call 2 [(.var 1)]) [(.asg (.v 6) (.mt .tidx (.var 2) [(.sub (.var 5) (.cst (.int 0)))])), (.app 3 (.bin .add (.slc (.var 2) (some (.var 6)) none) (.slc (.var 2) none (some (.var 6)))))]), (.ret (.bi .tuple [(.bi .sorted [(.var 3)])]))]
def g_f_last_orders : List Fn := [.pr d_f_need_state, .pr d_f_word_in, .pr d_f_arcs_in]
def d_f_last_orders : FP := runP g_f_last_orders 7 b_f_last_orders
def b_f_renamed_calls : List S := [(.do_ (.call 0 [(.var 0)])), (.do_ (.call 1 [(.var 0), (.var 1)])), (.do_ (.call 2 [(.var 0), (.var 2)])), (.ret (.bi .tuple [(.lc false [3] (.sub (.var 2) (.var 3)) (.v 3) (.var 1) [])]))]
def g_f_renamed_calls : List Fn := [.pr d_f_need_yard, .pr d_f_need_calls, .pr d_f_need_names]
def d_f_renamed_calls : FP := runP g_f_renamed_calls 4 b_f_renamed_calls
def b_f_is_turn : List S := [(.ret (.bi .any [(.lc false [2] (.cmp .eq (.tup [(.star (.slc (.var 0) (some (.var 2)) none)), (.star (.slc (.var 0) none (some (.var 2))))]) (.var 1)) (.v 2) (.rng [(.bi .len [(.var 0)])]) [])]))]
def g_f_is_turn : List Fn := []
def d_f_is_turn : FP := runP g_f_is_turn 3 b_f_is_turn
def b_f_can_be_train : List S := [(.do_ (.call 0 [(.var 0), (.var 1)])), (.asg (.v 3) (.lc false [4, 5] (.sub (.var 5) (.cst (.int 0))) (.t [(.v 4), (.v 5)]) (.call 1 [(.var 1)]) [])), (.ifs (.or (.not (.call 3 [(.var 2), (.sub (.var 0) (.cst (.int 0))), (.sub (.var 0) (.cst (.int 0)))])) (.not (.bi .all [(.lc false [6] (.call 2 [(.var 6), (.cst (.int 0)), (.bin .sub (.sub (.var 0) (.cst (.int 0))) (.cst (.int 1)))]) (.v 6) (.var 2) [])]))) [(.ret (.cst (.bool false)))] []), (.ret (.and (.cmp .inn (.sub (.var 2) (.cst (.int 0))) (.var 3)) (.call 4 [(.call 5 [(.var 1)]), (.var 2)])))]
def g_f_can_be_train : List Fn := [.pr d_f_need_state, .pr d_f_trains_in, .pr d_f_is_in, .pr d_f_is_list, .pr d_f_is_turn, .pr d_f_word_in]
def d_f_can_be_train : FP := runP g_f_can_be_train 7 b_f_can_be_train
def b_f_number_of_states : List S := [(.asg (.t [(.v 1), (.v 2)]) (.var 0)), (.asg (.v 3) (.cst (.int 1))), (.for_ (.v 4) (.rng [(.var 1)]) [(.asg (.v 3) (.bin .mul (.var 3) (.bin .add (.var 2) (.var 4))))]), (.ret (.var 3))]
def g_f_number_of_states : List Fn := []
def d_f_number_of_states : FP := runP g_f_number_of_states 5 b_f_number_of_states
def b_f_count_turns : List S := [(.do_ (.call 0 [(.var 0)])), (.ret (.bin .fdiv (.call 1 [(.var 0)]) (.sub (.var 0) (.cst (.int 1)))))]
def g_f_count_turns : List Fn := [.pr d_f_need_yard, .pr d_f_number_of_states]
def d_f_count_turns : FP := runP g_f_count_turns 1 b_f_count_turns
def b_f_count_states : List S := [(.do_ (.call 0 [(.var 0)])), (.ret (.call 1 [(.var 0)]))]
def g_f_count_states : List Fn := [.pr d_f_need_yard, .pr d_f_number_of_states]
def d_f_count_states : FP := runP g_f_count_states 1 b_f_count_states
def b_f_choose : List S := [(.ifs (.not (.chn .le .le (.cst (.int 0)) (.var 1) (.var 0))) [(.ret (.cst (.int 0)))] []), (.asg (.v 2) (.cst (.int 1))), (.for_ (.v 3) (.rng [(.var 1)]) [(.asg (.v 2) (.bin .fdiv (.bin .mul (.var 2) (.bin .sub (.var 0) (.var 3))) (.bin .add (.var 3) (.cst (.int 1)))))]), (.ret (.var 2))]
def g_f_choose : List Fn := []
def d_f_choose : FP := runP g_f_choose 4 b_f_choose
def b_f_count_on_word : List S := [(.do_ (.call 0 [(.var 0)])), (.ret (.bin .mul (.sub (.var 0) (.cst (.int 0))) (.call 1 [(.bin .sub (.bin .add (.sub (.var 0) (.cst (.int 0))) (.sub (.var 0) (.cst (.int 1)))) (.cst (.int 1))), (.sub (.var 0) (.cst (.int 0)))])))]
def g_f_count_on_word : List Fn := [.pr d_f_need_yard, .pr d_f_choose]
def d_f_count_on_word : FP := runP g_f_count_on_word 1 b_f_count_on_word
def b_f_count_shapes : List S := [(.do_ (.call 0 [(.var 0)])), (.ret (.call 1 [(.bin .sub (.bin .add (.sub (.var 0) (.cst (.int 0))) (.sub (.var 0) (.cst (.int 1)))) (.cst (.int 1))), (.sub (.var 0) (.cst (.int 0)))]))]
def g_f_count_shapes : List Fn := [.pr d_f_need_yard, .pr d_f_choose]
def d_f_count_shapes : FP := runP g_f_count_shapes 1 b_f_count_shapes
end LB
set_option Elab.async false
set_option linter.all false
set_option maxRecDepth 100000
namespace LB
open PySem PySem.Spec TR
def b_f_heights_in : List S := [(.par [1, 2] [(.bi .len [(.var 0)]), (.call 0 [(.var 0)])]), (.par [3, 4] [(.bin .mul (.lst [(.cst (.int 0))]) (.bi .len [(.var 2)])), (.cst .none)]), (.for_ (.v 5) (.var 2) [(.asg (.v 6) (.call 1 [(.var 0), (.var 5)])), (.ifs (.isc false (.var 4) .none) [(.asg (.v 7) (.var 6))] [(.asg (.v 7) (.bin .sub (.var 4) (.bin .mod (.bin .sub (.var 4) (.var 6)) (.var 1)))), (.ifs (.and (.cmp .inn (.cst (.int 0)) (.sub (.var 0) (.var 6))) (.cmp .lt (.mt .tidx (.sub (.var 0) (.var 6)) [(.var 5)]) (.mt .tidx (.sub (.var 0) (.var 6)) [(.cst (.int 0))]))) [(.asg (.v 7) (.bin .sub (.sub (.var 3) (.cst (.int 0))) (.var 1)))] [])]), (.setN 3 (.var 5) 4 (.var 7) (.var 7))]), (.ret (.var 3))]
def g_f_heights_in : List Fn := [.pr d_f_word_in, .pr d_f_station_in]
def d_f_heights_in : FP := runP g_f_heights_in 8 b_f_heights_in
def b_f_heights : List S := [(.do_ (.call 0 [(.var 0), (.var 1)])), (.ret (.bi .tuple [(.call 1 [(.var 1)])]))]
def g_f_heights : List Fn := [.pr d_f_need_state, .pr d_f_heights_in]
def d_f_heights : FP := runP g_f_heights 2 b_f_heights
def b_f_need_word : List S := [(.asg (.v 2) (.sub (.var 0) (.cst (.int 0)))), (.ifs (.or (.not (.call 1 [(.var 1), (.var 2), (.var 2)])) (.not (.bi .all [(.lc false [3] (.call 0 [(.var 3), (.cst (.int 0)), (.bin .sub (.var 2) (.cst (.int 1)))]) (.v 3) (.var 1) [])]))) [(.do_ (.star (.cst .none)))] []), (.ifs (.or (.cmp .ne (.bi .sorted [(.var 1)]) (.rgl false [(.var 2)])) (.cmp .ne (.sub (.var 1) (.cst (.int 0))) (.cst (.int 0)))) [(.do_ (.star (.cst .none)))] [])]
def g_f_need_word : List Fn := [.pr d_f_is_in, .pr d_f_is_list]
def d_f_need_word : FP := runP g_f_need_word 4 b_f_need_word
def b_f_need_heights : List S := [(.asg (.t [(.v 3), (.v 4)]) (.var 0)), (.ifs (.not (.call 0 [(.var 2), (.var 3), (.var 3)])) [(.do_ (.star (.cst .none)))] []), (.for_ (.t [(.v 5), (.v 6)]) (.enm (.var 2)) [(.ifs (.not (.call 1 [(.var 6), (.neg (.cst (.int 1000))), (.cst (.int 1000))])) [(.do_ (.star (.cst .none)))] [])]), (.for_ (.t [(.v 7), (.v 8)]) (.zip (.var 1) (.slc (.var 1) (some (.cst (.int 1))) none)) [(.ifs (.or (.cmp .gt (.sub (.var 2) (.var 8)) (.sub (.var 2) (.var 7))) (.cmp .lt (.sub (.var 2) (.var 8)) (.bin .sub (.sub (.var 2) (.cst (.int 0))) (.var 4)))) [(.do_ (.star (.cst .none)))] [])])]
def g_f_need_heights : List Fn := [.pr d_f_is_list, .pr d_f_is_in]
def d_f_need_heights : FP := runP g_f_need_heights 9 b_f_need_heights
def b_f_build : List S := [(.asg (.v 3) (.bin .mul (.lst [(.tup [])]) (.var 0))), (.asg (.v 4) (.lc false [5] (.var 5) (.v 5) (.var 1) [(.cmp .eq (.sub (.var 2) (.var 5)) (.bin .sub (.sub (.var 2) (.cst (.int 0))) (.var 0)))])), (.for_ (.v 5) (.lst [(.star (.var 4)), (.star (.lc false [5] (.var 5) (.v 5) (.var 1) [(.cmp .nin (.var 5) (.var 4))]))]) [(.setI 3 (.bin .mod (.sub (.var 2) (.var 5)) (.var 0)) (.tup [(.star (.sub (.var 3) (.bin .mod (.sub (.var 2) (.var 5)) (.var 0)))), (.var 5)]))]), (.ret (.bi .tuple [(.var 3)]))]
def g_f_build : List Fn := []
def d_f_build : FP := runP g_f_build 6 b_f_build
def b_f_from_heights : List S := [(.do_ (.call 0 [(.var 0)])), (.do_ (.call 1 [(.var 0), (.var 1)])), (.do_ (.call 2 [(.var 0), (.var 1), (.var 2)])), (.ret (.call 3 [(.sub (.var 0) (.cst (.int 1))), (.var 1), (.var 2)]))]
def g_f_from_heights : List Fn := [.pr d_f_need_yard, .pr d_f_need_word, .pr d_f_need_heights, .pr d_f_build]
def d_f_from_heights : FP := runP g_f_from_heights 3 b_f_from_heights
end LB
set_option Elab.async false
set_option linter.all false
set_option maxRecDepth 100000
namespace LB
open PySem PySem.Spec TR
def b_f_gap_in : List S := [(.for_ (.v 2) (.rng [(.cst (.int 1)), (.bin .add (.bi .len [(.var 0)]) (.cst (.int 1)))]) [(.ifs (.cmp .ne (.sub (.var 0) (.bin .mod (.bin .add (.var 1) (.var 2)) (.bi .len [(.var 0)]))) (.tup [])) [(.ret (.var 2))] [])]), (.ret (.bi .len [(.var 0)]))]
def g_f_gap_in : List Fn := []
def d_f_gap_in : FP := runP g_f_gap_in 3 b_f_gap_in
def b_f_all_gaps : List S := [(.ret (.lc false [1, 2] (.call 1 [(.var 0), (.var 1)]) (.t [(.v 1), (.v 2)]) (.call 0 [(.var 0)]) []))]
def g_f_all_gaps : List Fn := [.pr d_f_trains_in, .pr d_f_gap_in]
def d_f_all_gaps : FP := runP g_f_all_gaps 3 b_f_all_gaps
def b_f_mean_calls : List S := [(.do_ (.call 0 [(.var 0), (.var 1)])), (.ret (.bin .fdiv (.bin .sub (.bin .mul (.sub (.var 0) (.cst (.int 1))) (.sub (.var 0) (.cst (.int 1)))) (.bi .sum [(.lc false [2] (.bin .mul (.var 2) (.var 2)) (.v 2) (.call 1 [(.var 1)]) [])])) (.cst (.int 2))))]
def g_f_mean_calls : List Fn := [.pr d_f_need_state, .pr d_f_all_gaps]
def d_f_mean_calls : FP := runP g_f_mean_calls 3 b_f_mean_calls
def b_f_is_stuck : List S := [(.ret (.and (.bi .all [(.lc false [2] (.cmp .ne (.var 2) (.tup [])) (.v 2) (.var 0) [])]) (.and (.bi .all [(.lc false [2] (.cmp .ne (.var 2) (.tup [])) (.v 2) (.var 1) [])]) (.cmp .ne (.var 0) (.var 1)))))]
def g_f_is_stuck : List Fn := []
def d_f_is_stuck : FP := runP g_f_is_stuck 3 b_f_is_stuck
def b_f_rises_in : List S := [(.ifs (.cmp .ne (.call 0 [(.var 0)]) (.call 0 [(.var 1)])) [(.ret (.cst .none))] []), (.par [2, 3, 4] [(.bi .len [(.var 0)]), (.call 1 [(.var 0)]), (.call 1 [(.var 1)])]), (.asg (.v 5) (.bi .max [(.lc false [6, 7] (.neg (.bin .fdiv (.neg (.bin .sub (.var 6) (.var 7))) (.var 2))) (.t [(.v 6), (.v 7)]) (.zip (.var 3) (.var 4)) [])])), (.asg (.v 8) (.lc false [6, 7] (.bin .sub (.bin .add (.var 7) (.bin .mul (.var 5) (.var 2))) (.var 6)) (.t [(.v 6), (.v 7)]) (.zip (.var 3) (.var 4)) [])), (.for_ (.t [(.v 9), (.v 10)]) (.call 2 [(.var 0)]) [(.ifs (.bi .any [(.lc false [11] (.cmp .ne (.sub (.var 8) (.var 11)) (.sub (.var 8) (.sub (.var 10) (.cst (.int 0))))) (.v 11) (.var 10) [])]) [(.ret (.cst .none))] [])]), (.ret (.var 8))]
def g_f_rises_in : List Fn := [.pr d_f_word_in, .pr d_f_heights_in, .pr d_f_trains_in]
def d_f_rises_in : FP := runP g_f_rises_in 12 b_f_rises_in
def b_f_rises_or_none : List S := [(.ret (.ite (.call 0 [(.var 0), (.var 1)]) (.cst .none) (.call 1 [(.var 0), (.var 1)])))]
def g_f_rises_or_none : List Fn := [.pr d_f_is_stuck, .pr d_f_rises_in]
def d_f_rises_or_none : FP := runP g_f_rises_or_none 2 b_f_rises_or_none
def b_f_can_come : List S := [(.do_ (.call 0 [(.var 0), (.var 1)])), (.do_ (.call 1 [(.var 0), (.var 2)])), (.ret (.isc true (.call 2 [(.var 1), (.var 2)]) .none))]
def g_f_can_come : List Fn := [.pr d_f_need_state, .pr d_f_need_trains, .pr d_f_rises_or_none]
def d_f_can_come : FP := runP g_f_can_come 3 b_f_can_come
def b_f_fewest_in : List S := [(.ret (.bi .sum [(.lc false [3, 4] (.bi .max [(.lc false [2] (.sub (.var 0) (.var 2)) (.v 2) (.var 4) [])]) (.t [(.v 3), (.v 4)]) (.call 0 [(.var 1)]) [])]))]
def g_f_fewest_in : List Fn := [.pr d_f_trains_in]
def d_f_fewest_in : FP := runP g_f_fewest_in 5 b_f_fewest_in
def b_f_need_rises : List S := [(.do_ (.call 0 [(.var 0), (.var 1)])), (.do_ (.call 1 [(.var 0), (.var 2)])), (.asg (.v 3) (.call 2 [(.var 1), (.var 2)])), (.ifs (.isc false (.var 3) .none) [(.do_ (.star (.cst .none)))] []), (.ret (.var 3))]
def g_f_need_rises : List Fn := [.pr d_f_need_state, .pr d_f_need_trains, .pr d_f_rises_or_none]
def d_f_need_rises : FP := runP g_f_need_rises 4 b_f_need_rises
def b_f_fewest_calls : List S := [(.ret (.call 0 [(.call 1 [(.var 0), (.var 1), (.var 2)]), (.var 2)]))]
def g_f_fewest_calls : List Fn := [.pr d_f_fewest_in, .pr d_f_need_rises]
def d_f_fewest_calls : FP := runP g_f_fewest_calls 3 b_f_fewest_calls
end LB
set_option Elab.async false
set_option linter.all false
set_option maxRecDepth 100000
namespace LB
open PySem PySem.Spec TR
def b_f_can_come_at_once : List S := [(.do_ (.call 0 [(.var 0), (.var 1)])), (.do_ (.call 1 [(.var 0), (.var 2)])), (.ret (.isc true (.call 2 [(.var 1), (.var 2)]) .none))]
def g_f_can_come_at_once : List Fn := [.pr d_f_need_state, .pr d_f_need_trains, .pr d_f_rises_in]
def d_f_can_come_at_once : FP := runP g_f_can_come_at_once 3 b_f_can_come_at_once
def b_f_need_rises_g : List S := [(.do_ (.call 0 [(.var 0), (.var 1)])), (.do_ (.call 1 [(.var 0), (.var 2)])), (.asg (.v 3) (.call 2 [(.var 1), (.var 2)])), (.ifs (.isc false (.var 3) .none) [(.do_ (.star (.cst .none)))] []), (.ret (.var 3))]
def g_f_need_rises_g : List Fn := [.pr d_f_need_state, .pr d_f_need_trains, .pr d_f_rises_in]
def d_f_need_rises_g : FP := runP g_f_need_rises_g 4 b_f_need_rises_g
def b_f_fewest_groups : List S := [(.ret (.bi .max [(.call 0 [(.var 0), (.var 1), (.var 2)])]))]
def g_f_fewest_groups : List Fn := [.pr d_f_need_rises_g]
def d_f_fewest_groups : FP := runP g_f_fewest_groups 3 b_f_fewest_groups
def b_f_rises : List S := [(.ret (.bi .tuple [(.call 0 [(.var 0), (.var 1), (.var 2)])]))]
def g_f_rises : List Fn := [.pr d_f_need_rises]
def d_f_rises : FP := runP g_f_rises 3 b_f_rises
end LB
set_option Elab.async false
set_option linter.all false
set_option maxRecDepth 100000
namespace LB
open PySem PySem.Spec TR
def b_L_pick : List S := [(.ret (.sub (.var 1) (.callW 0 0 [(.bi .len [(.var 1)])])))]
def g_L_pick : List Fn := [.wr d_L_taken]
def d_L_pick : FW := runW g_L_pick 0 2 b_L_pick
def b_f_words : List S := [(.do_ (.call 0 [(.var 0)])), (.asg (.v 1) (.lst [(.tup [(.cst (.int 0))])])), (.for_ (.v 2) (.rng [(.cst (.int 1)), (.sub (.var 0) (.cst (.int 0)))]) [(.asg (.v 1) (.lc2 [3, 4] [4] (.tup [(.star (.var 3)), (.var 4)]) (.v 3) (.var 1) (.v 4) (.rng [(.cst (.int 1)), (.sub (.var 0) (.cst (.int 0)))]) [(.cmp .nin (.var 4) (.var 3))]))]), (.ret (.var 1))]
def g_f_words : List Fn := [.pr d_f_need_yard]
def d_f_words : FP := runP g_f_words 5 b_f_words
end LB
set_option Elab.async false
set_option linter.all false
set_option maxRecDepth 100000
namespace LB
open PySem PySem.Spec TR
def b_f_count_by_left : List S := [(.do_ (.call 0 [(.var 0), (.var 1)])), (.asg (.t [(.v 2), (.v 3)]) (.tup [(.bi .len [(.call 1 [(.var 1)])]), (.sub (.var 0) (.cst (.int 1)))])), (.asg (.v 4) (.lc false [5] (.bin .mul (.bin .mul (.var 5) (.call 2 [(.var 2), (.var 5)])) (.call 2 [(.var 3), (.var 5)])) (.v 5) (.rng [(.cst (.int 1)), (.bin .add (.var 2) (.cst (.int 1)))]) [])), (.ifs (.cmp .eq (.var 2) (.var 3)) [(.setI 4 (.neg (.cst (.int 1))) (.cst (.int 1)))] []), (.ret (.bi .tuple [(.var 4)]))]
def g_f_count_by_left : List Fn := [.pr d_f_need_state, .pr d_f_trains_in, .pr d_f_choose]
def d_f_count_by_left : FP := runP g_f_count_by_left 6 b_f_count_by_left
def b_f_count_reached : List S := [(.do_ (.call 0 [(.var 0), (.var 1)])), (.par [2, 3] [(.bi .len [(.call 1 [(.var 1)])]), (.sub (.var 0) (.cst (.int 1)))]), (.asg (.v 4) (.bin .mul (.var 2) (.call 2 [(.bin .sub (.bin .add (.var 3) (.var 2)) (.cst (.int 1))), (.var 2)]))), (.ret (.ite (.cmp .eq (.var 2) (.var 3)) (.bin .add (.bin .sub (.var 4) (.var 3)) (.cst (.int 1))) (.var 4)))]
def g_f_count_reached : List Fn := [.pr d_f_need_state, .pr d_f_trains_in, .pr d_f_choose]
def d_f_count_reached : FP := runP g_f_count_reached 5 b_f_count_reached
end LB
set_option Elab.async false
set_option linter.all false
set_option maxRecDepth 100000
namespace LB
open PySem PySem.Spec TR
def b_f_still_trains : List S := [(.do_ (.call 0 [(.var 0), (.var 1)])), (.do_ (.call 1 [(.var 0), (.var 2)])), (.asg (.v 3) (.dct [])), (.for_ (.t [(.v 4), (.v 5)]) (.zip (.call 2 [(.var 1), (.var 2)]) (.var 2)) [(.upd 3 (.dc [6] (.var 6) (.cst (.bool true)) (.v 6) (.sub (.var 4) (.call 3 [(.var 4), (.var 5)]))))]), (.ret (.bi .tuple [(.lc false [5] (.var 5) (.v 5) (.rng [(.sub (.var 0) (.cst (.int 0)))]) [(.cmp .nin (.var 5) (.var 3))])]))]
def g_f_still_trains : List Fn := [.pr d_f_need_state, .pr d_f_need_calls, .pr d_f_story_in, .pr d_f_station_in]
def d_f_still_trains : FP := runP g_f_still_trains 7 b_f_still_trains
def b_f_distance_or_none : List S := [(.asg (.v 2) (.call 0 [(.var 0), (.var 1)])), (.ret (.ite (.isc true (.var 2) .none) (.call 1 [(.var 2), (.var 1)]) (.cst .none)))]
def g_f_distance_or_none : List Fn := [.pr d_f_rises_or_none, .pr d_f_fewest_in]
def d_f_distance_or_none : FP := runP g_f_distance_or_none 3 b_f_distance_or_none
def b_f_wasted : List S := [(.do_ (.call 0 [(.var 0), (.var 1)])), (.do_ (.call 1 [(.var 0), (.var 2)])), (.asg (.v 3) (.var 1)), (.for_ (.v 4) (.var 2) [(.asg (.v 3) (.call 2 [(.var 3), (.var 4)]))]), (.ret (.bin .sub (.bi .len [(.var 2)]) (.call 3 [(.var 1), (.var 3)])))]
def g_f_wasted : List Fn := [.pr d_f_need_state, .pr d_f_need_calls, .pr d_f_call_in, .pr d_f_distance_or_none]
def d_f_wasted : FP := runP g_f_wasted 5 b_f_wasted
end LB
set_option Elab.async false
set_option linter.all false
set_option maxRecDepth 100000
namespace LB
open PySem PySem.Spec TR
def b_f_gaps : List S := [(.do_ (.call 0 [(.var 0), (.var 1)])), (.ret (.bi .tuple [(.bi .sorted [(.lc false [2, 3] (.tup [(.sub (.var 3) (.cst (.int 0))), (.call 2 [(.var 1), (.var 2)])]) (.t [(.v 2), (.v 3)]) (.call 1 [(.var 1)]) [])])]))]
def g_f_gaps : List Fn := [.pr d_f_need_state, .pr d_f_trains_in, .pr d_f_gap_in]
def d_f_gaps : FP := runP g_f_gaps 4 b_f_gaps
def b_f_one_train : List S := [(.asg (.v 3) (.call 0 [(.var 0)])), (.asg (.v 4) (.mt .tidx (.var 3) [(.var 1)])), (.asg (.v 5) (.bin .mul (.lst [(.tup [])]) (.bi .len [(.var 0)]))), (.setI 5 (.var 2) (.bin .add (.slc (.var 3) (some (.var 4)) none) (.slc (.var 3) none (some (.var 4))))), (.ret (.bi .tuple [(.var 5)]))]
def g_f_one_train : List Fn := [.pr d_f_word_in]
def d_f_one_train : FP := runP g_f_one_train 6 b_f_one_train
def b_f_lead_state : List S := [(.do_ (.call 0 [(.var 0), (.var 1)])), (.do_ (.call 1 [(.var 0), (.var 2)])), (.do_ (.call 2 [(.var 0), (.var 3)])), (.ret (.call 3 [(.var 1), (.var 2), (.var 3)]))]
def g_f_lead_state : List Fn := [.pr d_f_need_state, .pr d_f_need_car, .pr d_f_need_station, .pr d_f_one_train]
def d_f_lead_state : FP := runP g_f_lead_state 4 b_f_lead_state
def b_f_need_head : List S := [(.ifs (.cmp .ne (.sub (.sub (.var 0) (.call 0 [(.var 0), (.var 1)])) (.cst (.int 0))) (.var 1)) [(.do_ (.star (.cst .none)))] [])]
def g_f_need_head : List Fn := [.pr d_f_station_in]
def d_f_need_head : FP := runP g_f_need_head 2 b_f_need_head
def b_f_calls_to_lead : List S := [(.do_ (.call 0 [(.var 0), (.var 1)])), (.do_ (.call 1 [(.var 0), (.var 2)])), (.do_ (.call 2 [(.var 1), (.var 2)])), (.ret (.bin .sub (.sub (.var 0) (.cst (.int 1))) (.call 3 [(.var 1), (.call 4 [(.var 1), (.var 2)])])))]
def g_f_calls_to_lead : List Fn := [.pr d_f_need_state, .pr d_f_need_car, .pr d_f_need_head, .pr d_f_gap_in, .pr d_f_station_in]
def d_f_calls_to_lead : FP := runP g_f_calls_to_lead 3 b_f_calls_to_lead
def b_f_calls_to_lead_at : List S := [(.do_ (.call 0 [(.var 0), (.var 1)])), (.do_ (.call 1 [(.var 0), (.var 2)])), (.do_ (.call 2 [(.var 0), (.var 3)])), (.do_ (.call 3 [(.var 1), (.var 2)])), (.ret (.call 4 [(.var 1), (.call 5 [(.var 1), (.var 2), (.var 3)])]))]
def g_f_calls_to_lead_at : List Fn := [.pr d_f_need_state, .pr d_f_need_car, .pr d_f_need_station, .pr d_f_need_head, .pr d_f_distance_or_none, .pr d_f_one_train]
def d_f_calls_to_lead_at : FP := runP g_f_calls_to_lead_at 4 b_f_calls_to_lead_at
def b_f_groups_to_one : List S := [(.do_ (.call 0 [(.var 0), (.var 1)])), (.asg (.v 2) (.lc false [3, 4] (.var 3) (.t [(.v 3), (.v 4)]) (.call 1 [(.var 1)]) [])), (.asg (.v 5) (.lst [])), (.for_ (.t [(.v 6), (.v 3)]) (.enm (.var 2)) [(.asg (.v 7) (.sub (.var 2) (.bin .mod (.bin .add (.var 6) (.cst (.int 1))) (.bi .len [(.var 2)])))), (.app 5 (.ite (.cmp .gt (.bi .len [(.var 2)]) (.cst (.int 1))) (.bin .mod (.bin .sub (.var 7) (.var 3)) (.sub (.var 0) (.cst (.int 1)))) (.sub (.var 0) (.cst (.int 1)))))]), (.ret (.bin .sub (.sub (.var 0) (.cst (.int 1))) (.bi .max [(.var 5)])))]
def g_f_groups_to_one : List Fn := [.pr d_f_need_state, .pr d_f_trains_in]
def d_f_groups_to_one : FP := runP g_f_groups_to_one 8 b_f_groups_to_one
def b_f_calls_to_one : List S := [(.do_ (.call 0 [(.var 0), (.var 1)])), (.ret (.bin .sub (.sub (.var 0) (.cst (.int 1))) (.bi .max [(.call 1 [(.var 1)])])))]
def g_f_calls_to_one : List Fn := [.pr d_f_need_state, .pr d_f_all_gaps]
def d_f_calls_to_one : FP := runP g_f_calls_to_one 2 b_f_calls_to_one
def b_f_leads_to_one : List S := [(.do_ (.call 0 [(.var 0), (.var 1)])), (.asg (.v 2) (.bi .max [(.call 1 [(.var 1)])])), (.ret (.bi .tuple [(.bi .sorted [(.lc false [3, 4] (.sub (.var 4) (.cst (.int 0))) (.t [(.v 3), (.v 4)]) (.call 2 [(.var 1)]) [(.cmp .eq (.call 3 [(.var 1), (.var 3)]) (.var 2))])])]))]
def g_f_leads_to_one : List Fn := [.pr d_f_need_state, .pr d_f_all_gaps, .pr d_f_trains_in, .pr d_f_gap_in]
def d_f_leads_to_one : FP := runP g_f_leads_to_one 5 b_f_leads_to_one
def b_f_lead_table : List S := [(.do_ (.call 0 [(.var 0), (.var 1)])), (.asg (.v 2) (.lst [])), (.for_ (.t [(.v 3), (.v 4)]) (.call 1 [(.var 1)]) [(.asg (.v 5) (.lc false [6] (.call 2 [(.var 1), (.call 3 [(.var 1), (.sub (.var 4) (.cst (.int 0))), (.var 6)])]) (.v 6) (.rng [(.sub (.var 0) (.cst (.int 1)))]) [])), (.app 2 (.tup [(.sub (.var 4) (.cst (.int 0))), (.bi .tuple [(.var 5)])]))]), (.ret (.bi .tuple [(.bi .sorted [(.var 2)])]))]
def g_f_lead_table : List Fn := [.pr d_f_need_state, .pr d_f_trains_in, .pr d_f_distance_or_none, .pr d_f_one_train]
def d_f_lead_table : FP := runP g_f_lead_table 7 b_f_lead_table
def b_f_numbers_to_one : List S := [(.do_ (.call 0 [(.var 0), (.var 1)])), (.ret (.bi .tuple [(.bi .sorted [(.lc false [2] (.bin .sub (.sub (.var 0) (.cst (.int 1))) (.var 2)) (.v 2) (.call 1 [(.var 1)]) [])])]))]
def g_f_numbers_to_one : List Fn := [.pr d_f_need_state, .pr d_f_all_gaps]
def d_f_numbers_to_one : FP := runP g_f_numbers_to_one 3 b_f_numbers_to_one
end LB
set_option Elab.async false
set_option linter.all false
set_option maxRecDepth 100000
namespace LB
open PySem PySem.Spec TR
def b_L_states : List S := [(.asg (.v 1) (.lst [(.bin .mul (.tup [(.tup [])]) (.sub (.var 0) (.cst (.int 1))))])), (.for_ (.v 2) (.rng [(.sub (.var 0) (.cst (.int 0)))]) [(.asg (.v 3) (.lst [])), (.for_ (.v 4) (.var 1) [(.for_ (.v 5) (.rng [(.sub (.var 0) (.cst (.int 1)))]) [(.asg (.v 6) (.sub (.var 4) (.var 5))), (.for_ (.v 7) (.rng [(.bin .add (.bi .len [(.var 6)]) (.cst (.int 1)))]) [(.app 3 (.bin .add (.bin .add (.slc (.var 4) none (some (.var 5))) (.tup [(.bin .add (.bin .add (.slc (.var 6) none (some (.var 7))) (.tup [(.var 2)])) (.slc (.var 6) (some (.var 7)) none))])) (.slc (.var 4) (some (.bin .add (.var 5) (.cst (.int 1)))) none)))])])]), (.asg (.v 1) (.var 3))]), (.ret (.bi .sorted [(.var 1)]))]
def g_L_states : List Fn := []
def d_L_states : FP := runP g_L_states 8 b_L_states
def b_f_need_two : List S := [(.do_ (.call 0 [(.var 0)])), (.do_ (.call 1 [(.var 0), (.var 1)])), (.do_ (.call 1 [(.var 0), (.var 2)])), (.ifs (.cmp .gt (.call 2 [(.var 0)]) (.glb 0 (.int 20000))) [(.do_ (.star (.cst .none)))] [])]
def g_f_need_two : List Fn := [.pr d_f_need_yard, .pr d_f_need_calls, .pr d_f_number_of_states]
def d_f_need_two : FP := runP g_f_need_two 3 b_f_need_two
def b_f_all_states : List S := [(.asg (.t [(.v 1), (.v 2)]) (.var 0)), (.asg (.v 3) (.dct [(.bin .mul (.tup [(.tup [])]) (.var 2)), (.cst (.bool true))])), (.for_ (.v 4) (.rng [(.var 1)]) [(.asg (.v 5) (.dct [])), (.for_ (.v 6) (.var 3) [(.for_ (.t [(.v 7), (.v 8)]) (.enm (.var 6)) [(.for_ (.v 9) (.rng [(.bin .add (.bi .len [(.var 8)]) (.cst (.int 1)))]) [(.asg (.v 10) (.tup [(.star (.slc (.var 8) none (some (.var 9)))), (.var 4), (.star (.slc (.var 8) (some (.var 9)) none))])), (.asg (.v 11) (.tup [(.star (.slc (.var 6) none (some (.var 7)))), (.var 10), (.star (.slc (.var 6) (some (.bin .add (.var 7) (.cst (.int 1)))) none))])), (.setI 5 (.var 11) (.cst (.bool true)))])])]), (.asg (.v 3) (.var 5))]), (.ret (.bi .sorted [(.bi .list [(.var 3)])]))]
def g_f_all_states : List Fn := []
def d_f_all_states : FP := runP g_f_all_states 12 b_f_all_states
def b_f_does_same : List S := [(.do_ (.call 0 [(.var 0), (.var 1), (.var 2)])), (.ret (.bi .all [(.lc false [3] (.cmp .eq (.sub (.call 2 [(.var 3), (.var 1)]) (.neg (.cst (.int 1)))) (.sub (.call 2 [(.var 3), (.var 2)]) (.neg (.cst (.int 1))))) (.v 3) (.call 1 [(.var 0)]) [])]))]
def g_f_does_same : List Fn := [.pr d_f_need_two, .pr d_f_all_states, .pr d_f_story_in]
def d_f_does_same : FP := runP g_f_does_same 4 b_f_does_same
def b_f_telling : List S := [(.do_ (.call 0 [(.var 0), (.var 1), (.var 2)])), (.for_ (.v 3) (.call 1 [(.var 0)]) [(.ifs (.cmp .ne (.sub (.call 2 [(.var 3), (.var 1)]) (.neg (.cst (.int 1)))) (.sub (.call 2 [(.var 3), (.var 2)]) (.neg (.cst (.int 1))))) [(.ret (.var 3))] [])]), (.ret (.cst .none))]
def g_f_telling : List Fn := [.pr d_f_need_two, .pr d_f_all_states, .pr d_f_story_in]
def d_f_telling : FP := runP g_f_telling 4 b_f_telling
end LB
set_option Elab.async false
set_option linter.all false
set_option maxRecDepth 100000
namespace LB
open PySem PySem.Spec TR
end LB
set_option Elab.async false
set_option linter.all false
set_option maxRecDepth 100000
namespace K91
open PySem PySem.Spec PyProof.Rows L2 TR LB
def topS (i : Nat) : Stmt := PySem.Challenge.pw_trainring_k91_whole_length_of_rows.main.body.getD i (.Pass ⟨0, 0, 0, 0⟩)
abbrev s_L_taken : Stmt := topS 33
def c_L_taken : TR.Ctx := { N := ["_law_row_here", "_law_many", "_law_found", "_law_cell"], sc := defScope s_L_taken, fn := [], con := [], loc := locOf (defScope s_L_taken) }
theorem k_L_taken : chkSs g_L_taken c_L_taken b_L_taken (defBody s_L_taken) = true := by kernel_rfl
theorem l_L_taken : locB c_L_taken = true := by kernel_rfl
theorem h_L_taken : FnScope c_L_taken.N ["_law_row_here", "_law_many"] (defScope s_L_taken) := ⟨rfl, rfl, rfl, by decide +kernel, rfl, by decide +kernel, by decide +kernel⟩
theorem w_L_taken : (asSs b_L_taken).contains 0 = false := by kernel_rfl
abbrev s_L_pick : Stmt := topS 34
def c_L_pick : TR.Ctx := { N := ["_law_row_here", "_law_things"], sc := defScope s_L_pick, fn := [("_law_taken", 2)], con := [], loc := locOf (defScope s_L_pick) }
theorem k_L_pick : chkSs g_L_pick c_L_pick b_L_pick (defBody s_L_pick) = true := by kernel_rfl
theorem l_L_pick : locB c_L_pick = true := by kernel_rfl
theorem h_L_pick : FnScope c_L_pick.N ["_law_row_here", "_law_things"] (defScope s_L_pick) := ⟨rfl, rfl, rfl, by decide +kernel, rfl, by decide +kernel, by decide +kernel⟩
theorem w_L_pick : (asSs b_L_pick).contains 0 = false := by kernel_rfl
abbrev s_L_row : Stmt := topS 35
def c_L_row : TR.Ctx := { N := ["_law_row_here", "_law_yard", "_law_many", "_law_turn"], sc := defScope s_L_row, fn := [("_law_taken", 2)], con := [], loc := locOf (defScope s_L_row) }
theorem k_L_row : chkSs g_L_row c_L_row b_L_row (defBody s_L_row) = true := by kernel_rfl
theorem l_L_row : locB c_L_row = true := by kernel_rfl
theorem h_L_row : FnScope c_L_row.N ["_law_row_here", "_law_yard", "_law_many"] (defScope s_L_row) := ⟨rfl, rfl, rfl, by decide +kernel, rfl, by decide +kernel, by decide +kernel⟩
theorem w_L_row : (asSs b_L_row).contains 0 = false := by kernel_rfl
abbrev s_f_is_integer : Stmt := topS 1
def c_f_is_integer : TR.Ctx := { N := ["value"], sc := defScope s_f_is_integer, fn := [], con := [], loc := locOf (defScope s_f_is_integer) }
theorem k_f_is_integer : chkSs g_f_is_integer c_f_is_integer b_f_is_integer (defBody s_f_is_integer) = true := by kernel_rfl
theorem l_f_is_integer : locB c_f_is_integer = true := by kernel_rfl
theorem h_f_is_integer : FnScope c_f_is_integer.N ["value"] (defScope s_f_is_integer) := ⟨rfl, rfl, rfl, by decide +kernel, rfl, by decide +kernel, by decide +kernel⟩
abbrev s_f_is_in : Stmt := topS 2
def c_f_is_in : TR.Ctx := { N := ["value", "least", "most"], sc := defScope s_f_is_in, fn := [("is_integer", 1)], con := [], loc := locOf (defScope s_f_is_in) }
theorem k_f_is_in : chkSs g_f_is_in c_f_is_in b_f_is_in (defBody s_f_is_in) = true := by kernel_rfl
theorem l_f_is_in : locB c_f_is_in = true := by kernel_rfl
theorem h_f_is_in : FnScope c_f_is_in.N ["value", "least", "most"] (defScope s_f_is_in) := ⟨rfl, rfl, rfl, by decide +kernel, rfl, by decide +kernel, by decide +kernel⟩
abbrev s_f_is_list : Stmt := topS 3
def c_f_is_list : TR.Ctx := { N := ["value", "least", "most"], sc := defScope s_f_is_list, fn := [], con := [], loc := locOf (defScope s_f_is_list) }
theorem k_f_is_list : chkSs g_f_is_list c_f_is_list b_f_is_list (defBody s_f_is_list) = true := by kernel_rfl
theorem l_f_is_list : locB c_f_is_list = true := by kernel_rfl
theorem h_f_is_list : FnScope c_f_is_list.N ["value", "least", "most"] (defScope s_f_is_list) := ⟨rfl, rfl, rfl, by decide +kernel, rfl, by decide +kernel, by decide +kernel⟩
abbrev s_f_need_yard : Stmt := topS 14
def c_f_need_yard : TR.Ctx := { N := ["yard"], sc := defScope s_f_need_yard, fn := [("is_in", 3), ("is_list", 3)], con := [("MOST_STATIONS", (.int 8)), ("MOST_CARS", (.int 7))], loc := locOf (defScope s_f_need_yard) }
theorem k_f_need_yard : chkSs g_f_need_yard c_f_need_yard b_f_need_yard (defBody s_f_need_yard) = true := by kernel_rfl
theorem l_f_need_yard : locB c_f_need_yard = true := by kernel_rfl
theorem h_f_need_yard : FnScope c_f_need_yard.N ["yard"] (defScope s_f_need_yard) := ⟨rfl, rfl, rfl, by decide +kernel, rfl, by decide +kernel, by decide +kernel⟩
abbrev s_f_need_calls : Stmt := topS 23
def c_f_need_calls : TR.Ctx := { N := ["yard", "calls", "index", "car"], sc := defScope s_f_need_calls, fn := [("is_list", 3), ("is_in", 3)], con := [("MOST_CALLS", (.int 60))], loc := locOf (defScope s_f_need_calls) }
theorem k_f_need_calls : chkSs g_f_need_calls c_f_need_calls b_f_need_calls (defBody s_f_need_calls) = true := by kernel_rfl
theorem l_f_need_calls : locB c_f_need_calls = true := by kernel_rfl
theorem h_f_need_calls : FnScope c_f_need_calls.N ["yard", "calls"] (defScope s_f_need_calls) := ⟨rfl, rfl, rfl, by decide +kernel, rfl, by decide +kernel, by decide +kernel⟩
abbrev s_f_number_of_states : Stmt := topS 20
def c_f_number_of_states : TR.Ctx := { N := ["yard", "cars", "stations", "found", "car"], sc := defScope s_f_number_of_states, fn := [], con := [], loc := locOf (defScope s_f_number_of_states) }
theorem k_f_number_of_states : chkSs g_f_number_of_states c_f_number_of_states b_f_number_of_states (defBody s_f_number_of_states) = true := by kernel_rfl
theorem l_f_number_of_states : locB c_f_number_of_states = true := by kernel_rfl
theorem h_f_number_of_states : FnScope c_f_number_of_states.N ["yard"] (defScope s_f_number_of_states) := ⟨rfl, rfl, rfl, by decide +kernel, rfl, by decide +kernel, by decide +kernel⟩
abbrev s_f_need_two : Stmt := topS 29
def c_f_need_two : TR.Ctx := { N := ["yard", "one", "other"], sc := defScope s_f_need_two, fn := [("need_yard", 1), ("need_calls", 2), ("number_of_states", 1)], con := [("MOST_STATES", (.int 20000))], loc := locOf (defScope s_f_need_two) }
theorem k_f_need_two : chkSs g_f_need_two c_f_need_two b_f_need_two (defBody s_f_need_two) = true := by kernel_rfl
theorem l_f_need_two : locB c_f_need_two = true := by kernel_rfl
theorem h_f_need_two : FnScope c_f_need_two.N ["yard", "one", "other"] (defScope s_f_need_two) := ⟨rfl, rfl, rfl, by decide +kernel, rfl, by decide +kernel, by decide +kernel⟩
abbrev s_f_all_states : Stmt := topS 19
def c_f_all_states : TR.Ctx := { N := ["yard", "cars", "stations", "found", "car", "later", "state", "station", "train", "place", "longer", "there"], sc := defScope s_f_all_states, fn := [], con := [], loc := locOf (defScope s_f_all_states) }
theorem k_f_all_states : chkSs g_f_all_states c_f_all_states b_f_all_states (defBody s_f_all_states) = true := by kernel_rfl
theorem l_f_all_states : locB c_f_all_states = true := by kernel_rfl
theorem h_f_all_states : FnScope c_f_all_states.N ["yard"] (defScope s_f_all_states) := ⟨rfl, rfl, rfl, by decide +kernel, rfl, by decide +kernel, by decide +kernel⟩
abbrev s_f_move_in : Stmt := topS 24
def c_f_move_in : TR.Ctx := { N := ["state", "station", "after", "found"], sc := defScope s_f_move_in, fn := [], con := [], loc := locOf (defScope s_f_move_in) }
theorem k_f_move_in : chkSs g_f_move_in c_f_move_in b_f_move_in (defBody s_f_move_in) = true := by kernel_rfl
theorem l_f_move_in : locB c_f_move_in = true := by kernel_rfl
theorem h_f_move_in : FnScope c_f_move_in.N ["state", "station"] (defScope s_f_move_in) := ⟨rfl, rfl, rfl, by decide +kernel, rfl, by decide +kernel, by decide +kernel⟩
abbrev s_f_station_in : Stmt := topS 17
def c_f_station_in : TR.Ctx := { N := ["state", "car", "station", "train"], sc := defScope s_f_station_in, fn := [], con := [], loc := locOf (defScope s_f_station_in) }
theorem k_f_station_in : chkSs g_f_station_in c_f_station_in b_f_station_in (defBody s_f_station_in) = true := by kernel_rfl
theorem l_f_station_in : locB c_f_station_in = true := by kernel_rfl
theorem h_f_station_in : FnScope c_f_station_in.N ["state", "car"] (defScope s_f_station_in) := ⟨rfl, rfl, rfl, by decide +kernel, rfl, by decide +kernel, by decide +kernel⟩
abbrev s_f_call_in : Stmt := topS 25
def c_f_call_in : TR.Ctx := { N := ["state", "car"], sc := defScope s_f_call_in, fn := [("move_in", 2), ("station_in", 2)], con := [], loc := locOf (defScope s_f_call_in) }
theorem k_f_call_in : chkSs g_f_call_in c_f_call_in b_f_call_in (defBody s_f_call_in) = true := by kernel_rfl
theorem l_f_call_in : locB c_f_call_in = true := by kernel_rfl
theorem h_f_call_in : FnScope c_f_call_in.N ["state", "car"] (defScope s_f_call_in) := ⟨rfl, rfl, rfl, by decide +kernel, rfl, by decide +kernel, by decide +kernel⟩
abbrev s_f_story_in : Stmt := topS 26
def c_f_story_in : TR.Ctx := { N := ["state", "calls", "found", "car"], sc := defScope s_f_story_in, fn := [("call_in", 2)], con := [], loc := locOf (defScope s_f_story_in) }
theorem k_f_story_in : chkSs g_f_story_in c_f_story_in b_f_story_in (defBody s_f_story_in) = true := by kernel_rfl
theorem l_f_story_in : locB c_f_story_in = true := by kernel_rfl
theorem h_f_story_in : FnScope c_f_story_in.N ["state", "calls"] (defScope s_f_story_in) := ⟨rfl, rfl, rfl, by decide +kernel, rfl, by decide +kernel, by decide +kernel⟩
abbrev s_f_does_same : Stmt := topS 31
def c_f_does_same : TR.Ctx := { N := ["yard", "one", "other", "state"], sc := defScope s_f_does_same, fn := [("need_two", 3), ("all_states", 1), ("story_in", 2)], con := [], loc := locOf (defScope s_f_does_same) }
theorem k_f_does_same : chkSs g_f_does_same c_f_does_same b_f_does_same (defBody s_f_does_same) = true := by kernel_rfl
theorem l_f_does_same : locB c_f_does_same = true := by kernel_rfl
theorem h_f_does_same : FnScope c_f_does_same.N ["yard", "one", "other"] (defScope s_f_does_same) := ⟨rfl, rfl, rfl, by decide +kernel, rfl, by decide +kernel, by decide +kernel⟩
abbrev s_f_telling : Stmt := topS 30
def c_f_telling : TR.Ctx := { N := ["yard", "one", "other", "state"], sc := defScope s_f_telling, fn := [("need_two", 3), ("all_states", 1), ("story_in", 2)], con := [], loc := locOf (defScope s_f_telling) }
theorem k_f_telling : chkSs g_f_telling c_f_telling b_f_telling (defBody s_f_telling) = true := by kernel_rfl
theorem l_f_telling : locB c_f_telling = true := by kernel_rfl
theorem h_f_telling : FnScope c_f_telling.N ["yard", "one", "other"] (defScope s_f_telling) := ⟨rfl, rfl, rfl, by decide +kernel, rfl, by decide +kernel, by decide +kernel⟩
abbrev s_f_need_trains : Stmt := topS 15
def c_f_need_trains : TR.Ctx := { N := ["yard", "state", "cars", "stations", "met", "index", "train", "car"], sc := defScope s_f_need_trains, fn := [("is_list", 3), ("is_in", 3)], con := [], loc := locOf (defScope s_f_need_trains) }
theorem k_f_need_trains : chkSs g_f_need_trains c_f_need_trains b_f_need_trains (defBody s_f_need_trains) = true := by kernel_rfl
theorem l_f_need_trains : locB c_f_need_trains = true := by kernel_rfl
theorem h_f_need_trains : FnScope c_f_need_trains.N ["yard", "state"] (defScope s_f_need_trains) := ⟨rfl, rfl, rfl, by decide +kernel, rfl, by decide +kernel, by decide +kernel⟩
abbrev s_f_need_state : Stmt := topS 16
def c_f_need_state : TR.Ctx := { N := ["yard", "state"], sc := defScope s_f_need_state, fn := [("need_yard", 1), ("need_trains", 2)], con := [], loc := locOf (defScope s_f_need_state) }
theorem k_f_need_state : chkSs g_f_need_state c_f_need_state b_f_need_state (defBody s_f_need_state) = true := by kernel_rfl
theorem l_f_need_state : locB c_f_need_state = true := by kernel_rfl
theorem h_f_need_state : FnScope c_f_need_state.N ["yard", "state"] (defScope s_f_need_state) := ⟨rfl, rfl, rfl, by decide +kernel, rfl, by decide +kernel, by decide +kernel⟩
abbrev s_f_after : Stmt := topS 27
def c_f_after : TR.Ctx := { N := ["yard", "state", "calls"], sc := defScope s_f_after, fn := [("need_state", 2), ("need_calls", 2), ("story_in", 2)], con := [], loc := locOf (defScope s_f_after) }
theorem k_f_after : chkSs g_f_after c_f_after b_f_after (defBody s_f_after) = true := by kernel_rfl
theorem l_f_after : locB c_f_after = true := by kernel_rfl
theorem h_f_after : FnScope c_f_after.N ["yard", "state", "calls"] (defScope s_f_after) := ⟨rfl, rfl, rfl, by decide +kernel, rfl, by decide +kernel, by decide +kernel⟩
abbrev s_f_first_state : Stmt := topS 18
def c_f_first_state : TR.Ctx := { N := ["yard"], sc := defScope s_f_first_state, fn := [("need_yard", 1)], con := [], loc := locOf (defScope s_f_first_state) }
theorem k_f_first_state : chkSs g_f_first_state c_f_first_state b_f_first_state (defBody s_f_first_state) = true := by kernel_rfl
theorem l_f_first_state : locB c_f_first_state = true := by kernel_rfl
theorem h_f_first_state : FnScope c_f_first_state.N ["yard"] (defScope s_f_first_state) := ⟨rfl, rfl, rfl, by decide +kernel, rfl, by decide +kernel, by decide +kernel⟩
abbrev s_law : Stmt := topS 36
def b_law : List S := [(.asg (.v 1) (.lst [(.var 0), (.cst (.int 0)), (.cst (.int 8091)), (.cst (.int 0))])), (.asg (.v 2) (.callW 0 1 [(.lst [(.tup [(.cst (.int 1)), (.cst (.int 3))]), (.tup [(.cst (.int 2)), (.cst (.int 2))]), (.tup [(.cst (.int 2)), (.cst (.int 3))]), (.tup [(.cst (.int 3)), (.cst (.int 2))]), (.tup [(.cst (.int 3)), (.cst (.int 3))]), (.tup [(.cst (.int 1)), (.cst (.int 5))]), (.tup [(.cst (.int 2)), (.cst (.int 4))])])])), (.par [3, 4] [(.callW 1 1 [(.var 2), (.cst (.int 7))]), (.callW 1 1 [(.var 2), (.cst (.int 7))])]), (.par [5, 6] [(.call 2 [(.var 2), (.var 3), (.var 4)]), (.call 3 [(.var 2), (.var 3), (.var 4)])]), (.ifs (.or (.cmp .ne (.var 5) (.isc false (.var 6) .none)) (.or (.cmp .ne (.call 2 [(.var 2), (.var 4), (.var 3)]) (.var 5)) (.cmp .ne (.call 3 [(.var 2), (.var 4), (.var 3)]) (.var 6)))) [(.ret (.cst (.bool false)))] []), (.ifs (.and (.isc true (.var 6) .none) (.cmp .eq (.call 4 [(.var 2), (.var 6), (.var 3)]) (.call 4 [(.var 2), (.var 6), (.var 4)]))) [(.ret (.cst (.bool false)))] []), (.ifs (.and (.var 5) (.cmp .ne (.bin .mod (.bi .int [(.bin .sub (.bi .len [(.var 3)]) (.bi .len [(.var 4)]))]) (.sub (.var 2) (.cst (.int 1)))) (.cst (.int 0)))) [(.ret (.cst (.bool false)))] []), (.asg (.v 7) (.call 5 [(.var 2)])), (.ifs (.cmp .ne (.cmp .eq (.call 4 [(.var 2), (.var 7), (.var 3)]) (.call 4 [(.var 2), (.var 7), (.var 4)])) (.cmp .eq (.bin .mod (.bi .int [(.bin .sub (.bi .len [(.var 3)]) (.bi .len [(.var 4)]))]) (.sub (.var 2) (.cst (.int 1)))) (.cst (.int 0)))) [(.ret (.cst (.bool false)))] []), (.asg (.v 8) (.callW 1 1 [(.var 2), (.cst (.int 4))])), (.ifs (.or (.and (.var 5) (.not (.call 2 [(.var 2), (.bin .add (.var 3) (.var 8)), (.bin .add (.var 4) (.var 8))]))) (.and (.var 5) (.not (.call 2 [(.var 2), (.bin .add (.var 8) (.var 3)), (.bin .add (.var 8) (.var 4))])))) [(.ret (.cst (.bool false)))] []), (.asg (.v 9) (.bin .mul (.rgl true [(.sub (.var 2) (.cst (.int 0)))]) (.sub (.var 2) (.cst (.int 1))))), (.ret (.and (.isc false (.call 2 [(.var 2), (.var 9), (.var 9)]) (.bool true)) (.isc false (.call 2 [(.var 2), (.tup []), (.tup [(.cst (.int 0))])]) (.bool false))))]
def g_law : List Fn := [.wr d_L_pick, .wr d_L_row, .pr d_f_does_same, .pr d_f_telling, .pr d_f_after, .pr d_f_first_state]
def d_law : FP := runP g_law 10 b_law
def c_law : TR.Ctx := { N := ["_law_script", "_law_row_here", "_law_yard", "_law_one", "_law_other", "_law_same", "_law_state", "_law_single", "_law_more", "_law_around"], sc := defScope s_law, fn := [("_law_pick", 2), ("_law_row", 3), ("does_same", 3), ("telling", 3), ("after", 3), ("first_state", 1)], con := [], loc := locOf (defScope s_law) }
theorem k_law : chkSs g_law c_law b_law (defBody s_law) = true := by kernel_rfl
theorem l_law : locB c_law = true := by kernel_rfl
theorem h_law : FnScope c_law.N ["_law_script"] (defScope s_law) := ⟨rfl, rfl, rfl, by decide +kernel, rfl, by decide +kernel, by decide +kernel⟩
set_option maxHeartbeats 0 in
theorem all_mk {l : PySem.W.OpenLaw} {w : World} {K : PySem.W.Frag} {h : Heap} {mg : Str → Option Value} {fa f0 f1 f2 f3 f4 f5 f6 f7 f8 f9 f10 f11 f12 f13 f14 f15 f16 f17 f18 f19 f20 f21 : Addr} (X : K.In h) (G : h.Ns mainGlobals mg) (hfa : mg "law" = some (.ref fa))
    {od0 an0 od1 an1 od2 an2 od3 an3 od4 an4 od5 an5 od6 an6 od7 an7 od8 an8 od9 an9 od10 an10 od11 an11 od12 an12 od13 an13 od14 an14 od15 an15 od16 an16 od17 an17 od18 an18 od19 an19 od20 an20 od21 an21 : Option Addr} {sl0 sl1 sl2 sl3 sl4 sl5 sl6 sl7 sl8 sl9 sl10 sl11 sl12 sl13 sl14 sl15 sl16 sl17 sl18 sl19 sl20 sl21 : Array (Option Value)} {oc0 kV0 dc0 pm0 cd0 ct0 oc1 kV1 dc1 pm1 cd1 ct1 oc2 kV2 dc2 pm2 cd2 ct2 oc3 kV3 dc3 pm3 cd3 ct3 oc4 kV4 dc4 pm4 cd4 ct4 oc5 kV5 dc5 pm5 cd5 ct5 oc6 kV6 dc6 pm6 cd6 ct6 oc7 kV7 dc7 pm7 cd7 ct7 oc8 kV8 dc8 pm8 cd8 ct8 oc9 kV9 dc9 pm9 cd9 ct9 oc10 kV10 dc10 pm10 cd10 ct10 oc11 kV11 dc11 pm11 cd11 ct11 oc12 kV12 dc12 pm12 cd12 ct12 oc13 kV13 dc13 pm13 cd13 ct13 oc14 kV14 dc14 pm14 cd14 ct14 oc15 kV15 dc15 pm15 cd15 ct15 oc16 kV16 dc16 pm16 cd16 ct16 oc17 kV17 dc17 pm17 cd17 ct17 oc18 kV18 dc18 pm18 cd18 ct18 oc19 kV19 dc19 pm19 cd19 ct19 oc20 kV20 dc20 pm20 cd20 ct20 oc21 kV21 dc21 pm21 cd21 ct21 : Value} {t0 t1 t2 t3 : Tok}
    (a0 : PySem.W.nsIn K mainGlobals "_law_taken" = some (some (.ref f0))) (l0 : K.lookup f0 = some ⟨oc0, od0, .func (PySem.W.fnOf "_law_taken" "_law_taken" (defArgs s_L_taken) (defBody s_L_taken) (defScope s_L_taken) .none kV0 dc0 pm0 an0 cd0 ct0), sl0⟩) (c0 : PySem.W.codeIn K cd0 "_law_taken" = true) (k0 : PySem.W.keepIn K (.ref f0) = true)
    (a1 : PySem.W.nsIn K mainGlobals "_law_pick" = some (some (.ref f1))) (l1 : K.lookup f1 = some ⟨oc1, od1, .func (PySem.W.fnOf "_law_pick" "_law_pick" (defArgs s_L_pick) (defBody s_L_pick) (defScope s_L_pick) .none kV1 dc1 pm1 an1 cd1 ct1), sl1⟩) (c1 : PySem.W.codeIn K cd1 "_law_pick" = true) (k1 : PySem.W.keepIn K (.ref f1) = true)
    (a2 : PySem.W.nsIn K mainGlobals "_law_row" = some (some (.ref f2))) (l2 : K.lookup f2 = some ⟨oc2, od2, .func (PySem.W.fnOf "_law_row" "_law_row" (defArgs s_L_row) (defBody s_L_row) (defScope s_L_row) .none kV2 dc2 pm2 an2 cd2 ct2), sl2⟩) (c2 : PySem.W.codeIn K cd2 "_law_row" = true) (k2 : PySem.W.keepIn K (.ref f2) = true)
    (a3 : PySem.W.nsIn K mainGlobals "is_integer" = some (some (.ref f3))) (l3 : K.lookup f3 = some ⟨oc3, od3, .func (PySem.W.fnOf "is_integer" "is_integer" (defArgs s_f_is_integer) (defBody s_f_is_integer) (defScope s_f_is_integer) .none kV3 dc3 pm3 an3 cd3 ct3), sl3⟩) (c3 : PySem.W.codeIn K cd3 "is_integer" = true) (k3 : PySem.W.keepIn K (.ref f3) = true)
    (a4 : PySem.W.nsIn K mainGlobals "is_in" = some (some (.ref f4))) (l4 : K.lookup f4 = some ⟨oc4, od4, .func (PySem.W.fnOf "is_in" "is_in" (defArgs s_f_is_in) (defBody s_f_is_in) (defScope s_f_is_in) .none kV4 dc4 pm4 an4 cd4 ct4), sl4⟩) (c4 : PySem.W.codeIn K cd4 "is_in" = true) (k4 : PySem.W.keepIn K (.ref f4) = true)
    (a5 : PySem.W.nsIn K mainGlobals "is_list" = some (some (.ref f5))) (l5 : K.lookup f5 = some ⟨oc5, od5, .func (PySem.W.fnOf "is_list" "is_list" (defArgs s_f_is_list) (defBody s_f_is_list) (defScope s_f_is_list) .none kV5 dc5 pm5 an5 cd5 ct5), sl5⟩) (c5 : PySem.W.codeIn K cd5 "is_list" = true) (k5 : PySem.W.keepIn K (.ref f5) = true)
    (a6 : PySem.W.nsIn K mainGlobals "need_yard" = some (some (.ref f6))) (l6 : K.lookup f6 = some ⟨oc6, od6, .func (PySem.W.fnOf "need_yard" "need_yard" (defArgs s_f_need_yard) (defBody s_f_need_yard) (defScope s_f_need_yard) .none kV6 dc6 pm6 an6 cd6 ct6), sl6⟩) (c6 : PySem.W.codeIn K cd6 "need_yard" = true) (k6 : PySem.W.keepIn K (.ref f6) = true)
    (a7 : PySem.W.nsIn K mainGlobals "need_calls" = some (some (.ref f7))) (l7 : K.lookup f7 = some ⟨oc7, od7, .func (PySem.W.fnOf "need_calls" "need_calls" (defArgs s_f_need_calls) (defBody s_f_need_calls) (defScope s_f_need_calls) .none kV7 dc7 pm7 an7 cd7 ct7), sl7⟩) (c7 : PySem.W.codeIn K cd7 "need_calls" = true) (k7 : PySem.W.keepIn K (.ref f7) = true)
    (a8 : PySem.W.nsIn K mainGlobals "number_of_states" = some (some (.ref f8))) (l8 : K.lookup f8 = some ⟨oc8, od8, .func (PySem.W.fnOf "number_of_states" "number_of_states" (defArgs s_f_number_of_states) (defBody s_f_number_of_states) (defScope s_f_number_of_states) .none kV8 dc8 pm8 an8 cd8 ct8), sl8⟩) (c8 : PySem.W.codeIn K cd8 "number_of_states" = true) (k8 : PySem.W.keepIn K (.ref f8) = true)
    (a9 : PySem.W.nsIn K mainGlobals "need_two" = some (some (.ref f9))) (l9 : K.lookup f9 = some ⟨oc9, od9, .func (PySem.W.fnOf "need_two" "need_two" (defArgs s_f_need_two) (defBody s_f_need_two) (defScope s_f_need_two) .none kV9 dc9 pm9 an9 cd9 ct9), sl9⟩) (c9 : PySem.W.codeIn K cd9 "need_two" = true) (k9 : PySem.W.keepIn K (.ref f9) = true)
    (a10 : PySem.W.nsIn K mainGlobals "all_states" = some (some (.ref f10))) (l10 : K.lookup f10 = some ⟨oc10, od10, .func (PySem.W.fnOf "all_states" "all_states" (defArgs s_f_all_states) (defBody s_f_all_states) (defScope s_f_all_states) .none kV10 dc10 pm10 an10 cd10 ct10), sl10⟩) (c10 : PySem.W.codeIn K cd10 "all_states" = true) (k10 : PySem.W.keepIn K (.ref f10) = true)
    (a11 : PySem.W.nsIn K mainGlobals "move_in" = some (some (.ref f11))) (l11 : K.lookup f11 = some ⟨oc11, od11, .func (PySem.W.fnOf "move_in" "move_in" (defArgs s_f_move_in) (defBody s_f_move_in) (defScope s_f_move_in) .none kV11 dc11 pm11 an11 cd11 ct11), sl11⟩) (c11 : PySem.W.codeIn K cd11 "move_in" = true) (k11 : PySem.W.keepIn K (.ref f11) = true)
    (a12 : PySem.W.nsIn K mainGlobals "station_in" = some (some (.ref f12))) (l12 : K.lookup f12 = some ⟨oc12, od12, .func (PySem.W.fnOf "station_in" "station_in" (defArgs s_f_station_in) (defBody s_f_station_in) (defScope s_f_station_in) .none kV12 dc12 pm12 an12 cd12 ct12), sl12⟩) (c12 : PySem.W.codeIn K cd12 "station_in" = true) (k12 : PySem.W.keepIn K (.ref f12) = true)
    (a13 : PySem.W.nsIn K mainGlobals "call_in" = some (some (.ref f13))) (l13 : K.lookup f13 = some ⟨oc13, od13, .func (PySem.W.fnOf "call_in" "call_in" (defArgs s_f_call_in) (defBody s_f_call_in) (defScope s_f_call_in) .none kV13 dc13 pm13 an13 cd13 ct13), sl13⟩) (c13 : PySem.W.codeIn K cd13 "call_in" = true) (k13 : PySem.W.keepIn K (.ref f13) = true)
    (a14 : PySem.W.nsIn K mainGlobals "story_in" = some (some (.ref f14))) (l14 : K.lookup f14 = some ⟨oc14, od14, .func (PySem.W.fnOf "story_in" "story_in" (defArgs s_f_story_in) (defBody s_f_story_in) (defScope s_f_story_in) .none kV14 dc14 pm14 an14 cd14 ct14), sl14⟩) (c14 : PySem.W.codeIn K cd14 "story_in" = true) (k14 : PySem.W.keepIn K (.ref f14) = true)
    (a15 : PySem.W.nsIn K mainGlobals "does_same" = some (some (.ref f15))) (l15 : K.lookup f15 = some ⟨oc15, od15, .func (PySem.W.fnOf "does_same" "does_same" (defArgs s_f_does_same) (defBody s_f_does_same) (defScope s_f_does_same) .none kV15 dc15 pm15 an15 cd15 ct15), sl15⟩) (c15 : PySem.W.codeIn K cd15 "does_same" = true) (k15 : PySem.W.keepIn K (.ref f15) = true)
    (a16 : PySem.W.nsIn K mainGlobals "telling" = some (some (.ref f16))) (l16 : K.lookup f16 = some ⟨oc16, od16, .func (PySem.W.fnOf "telling" "telling" (defArgs s_f_telling) (defBody s_f_telling) (defScope s_f_telling) .none kV16 dc16 pm16 an16 cd16 ct16), sl16⟩) (c16 : PySem.W.codeIn K cd16 "telling" = true) (k16 : PySem.W.keepIn K (.ref f16) = true)
    (a17 : PySem.W.nsIn K mainGlobals "need_trains" = some (some (.ref f17))) (l17 : K.lookup f17 = some ⟨oc17, od17, .func (PySem.W.fnOf "need_trains" "need_trains" (defArgs s_f_need_trains) (defBody s_f_need_trains) (defScope s_f_need_trains) .none kV17 dc17 pm17 an17 cd17 ct17), sl17⟩) (c17 : PySem.W.codeIn K cd17 "need_trains" = true) (k17 : PySem.W.keepIn K (.ref f17) = true)
    (a18 : PySem.W.nsIn K mainGlobals "need_state" = some (some (.ref f18))) (l18 : K.lookup f18 = some ⟨oc18, od18, .func (PySem.W.fnOf "need_state" "need_state" (defArgs s_f_need_state) (defBody s_f_need_state) (defScope s_f_need_state) .none kV18 dc18 pm18 an18 cd18 ct18), sl18⟩) (c18 : PySem.W.codeIn K cd18 "need_state" = true) (k18 : PySem.W.keepIn K (.ref f18) = true)
    (a19 : PySem.W.nsIn K mainGlobals "after" = some (some (.ref f19))) (l19 : K.lookup f19 = some ⟨oc19, od19, .func (PySem.W.fnOf "after" "after" (defArgs s_f_after) (defBody s_f_after) (defScope s_f_after) .none kV19 dc19 pm19 an19 cd19 ct19), sl19⟩) (c19 : PySem.W.codeIn K cd19 "after" = true) (k19 : PySem.W.keepIn K (.ref f19) = true)
    (a20 : PySem.W.nsIn K mainGlobals "first_state" = some (some (.ref f20))) (l20 : K.lookup f20 = some ⟨oc20, od20, .func (PySem.W.fnOf "first_state" "first_state" (defArgs s_f_first_state) (defBody s_f_first_state) (defScope s_f_first_state) .none kV20 dc20 pm20 an20 cd20 ct20), sl20⟩) (c20 : PySem.W.codeIn K cd20 "first_state" = true) (k20 : PySem.W.keepIn K (.ref f20) = true)
    (a21 : PySem.W.nsIn K mainGlobals "law" = some (some (.ref f21))) (l21 : K.lookup f21 = some ⟨oc21, od21, .func (PySem.W.fnOf "law" "law" (defArgs s_law) (defBody s_law) (defScope s_law) .none kV21 dc21 pm21 an21 cd21 ct21), sl21⟩) (c21 : PySem.W.codeIn K cd21 "law" = true) (k21 : PySem.W.keepIn K (.ref f21) = true)
    (z0 : PySem.W.nsIn K mainGlobals "len" = some none)
    (z1 : PySem.W.nsIn K mainGlobals "abs" = some none)
    (z2 : PySem.W.nsIn K mainGlobals "max" = some none)
    (z3 : PySem.W.nsIn K mainGlobals "min" = some none)
    (z4 : PySem.W.nsIn K mainGlobals "sum" = some none)
    (z5 : PySem.W.nsIn K mainGlobals "any" = some none)
    (z6 : PySem.W.nsIn K mainGlobals "all" = some none)
    (z7 : PySem.W.nsIn K mainGlobals "sorted" = some none)
    (z8 : PySem.W.nsIn K mainGlobals "list" = some none)
    (z9 : PySem.W.nsIn K mainGlobals "tuple" = some none)
    (z10 : PySem.W.nsIn K mainGlobals "set" = some none)
    (z11 : PySem.W.nsIn K mainGlobals "int" = some none)
    (z12 : PySem.W.nsIn K mainGlobals "bool" = some none)
    (z13 : PySem.W.nsIn K mainGlobals "str" = some none)
    (z14 : PySem.W.nsIn K mainGlobals "isinstance" = some none)
    (z15 : PySem.W.nsIn K mainGlobals "range" = some none)
    (z16 : PySem.W.nsIn K mainGlobals "enumerate" = some none)
    (z17 : PySem.W.nsIn K mainGlobals "zip" = some none)
    (z18 : PySem.W.nsIn K mainGlobals "reversed" = some none)
    (m0 : PySem.W.nsIn K mainGlobals "MOST_STATIONS" = some (some (.int 8 t0)))
    (m1 : PySem.W.nsIn K mainGlobals "MOST_CARS" = some (some (.int 7 t1)))
    (m2 : PySem.W.nsIn K mainGlobals "MOST_CALLS" = some (some (.int 60 t2)))
    (m3 : PySem.W.nsIn K mainGlobals "MOST_STATES" = some (some (.int 20000 t3))) :
    ∃ fd : FuncData, (∀ (s : Shared) (v : Value), BindsTo s fd ⟨[v], []⟩ [("_law_script", v)]) ∧ ∀ base : Heap, K.In base → base.Ns mainGlobals mg → FnOk l.prog w K mg base CX0 6 fa fd ["_law_script"] (spP ⟨K, l.prog, w⟩ 1 d_law) := by
  have e := hfa.symm.trans (PySem.W.mg_of X G a21)
  cases e
  have hbl : ∀ x ∈ bnames, mg x = none := by
    intro x hx
    simp only [bnames, List.mem_cons, List.not_mem_nil, or_false] at hx
    rcases hx with rfl | rfl | rfl | rfl | rfl | rfl | rfl | rfl | rfl | rfl | rfl | rfl | rfl | rfl | rfl | rfl | rfl | rfl | rfl
    · exact PySem.W.mg_none_of X G z0
    · exact PySem.W.mg_none_of X G z1
    · exact PySem.W.mg_none_of X G z2
    · exact PySem.W.mg_none_of X G z3
    · exact PySem.W.mg_none_of X G z4
    · exact PySem.W.mg_none_of X G z5
    · exact PySem.W.mg_none_of X G z6
    · exact PySem.W.mg_none_of X G z7
    · exact PySem.W.mg_none_of X G z8
    · exact PySem.W.mg_none_of X G z9
    · exact PySem.W.mg_none_of X G z10
    · exact PySem.W.mg_none_of X G z11
    · exact PySem.W.mg_none_of X G z12
    · exact PySem.W.mg_none_of X G z13
    · exact PySem.W.mg_none_of X G z14
    · exact PySem.W.mg_none_of X G z15
    · exact PySem.W.mg_none_of X G z16
    · exact PySem.W.mg_none_of X G z17
    · exact PySem.W.mg_none_of X G z18
  have F0 := fun_mk (st := s_L_taken) l0 c0 k0
  have F1 := fun_mk (st := s_L_pick) l1 c1 k1
  have F2 := fun_mk (st := s_L_row) l2 c2 k2
  have F3 := fun_mk (st := s_f_is_integer) l3 c3 k3
  have F4 := fun_mk (st := s_f_is_in) l4 c4 k4
  have F5 := fun_mk (st := s_f_is_list) l5 c5 k5
  have F6 := fun_mk (st := s_f_need_yard) l6 c6 k6
  have F7 := fun_mk (st := s_f_need_calls) l7 c7 k7
  have F8 := fun_mk (st := s_f_number_of_states) l8 c8 k8
  have F9 := fun_mk (st := s_f_need_two) l9 c9 k9
  have F10 := fun_mk (st := s_f_all_states) l10 c10 k10
  have F11 := fun_mk (st := s_f_move_in) l11 c11 k11
  have F12 := fun_mk (st := s_f_station_in) l12 c12 k12
  have F13 := fun_mk (st := s_f_call_in) l13 c13 k13
  have F14 := fun_mk (st := s_f_story_in) l14 c14 k14
  have F15 := fun_mk (st := s_f_does_same) l15 c15 k15
  have F16 := fun_mk (st := s_f_telling) l16 c16 k16
  have F17 := fun_mk (st := s_f_need_trains) l17 c17 k17
  have F18 := fun_mk (st := s_f_need_state) l18 c18 k18
  have F19 := fun_mk (st := s_f_after) l19 c19 k19
  have F20 := fun_mk (st := s_f_first_state) l20 c20 k20
  have F21 := fun_mk (st := s_law) l21 c21 k21
  refine ⟨(PySem.W.fnOf "law" "law" (defArgs s_law) (defBody s_law) (defScope s_law) .none kV21 dc21 pm21 an21 cd21 ct21), fun s v => .of_eq rfl, fun base _ _ => ?_⟩
  have B0 := F0.binds (ps := ["_law_row_here", "_law_many"]) fun _ _ _ _ _ _ us hl => match us, hl with | [_, _], _ => rfl
  have N0 : FnG l.prog w K mg base 1 "_law_taken" 2 (.wr d_L_taken) := fn_wr (C := c_L_taken) (G := g_L_taken) (j := 0) F0 rfl h_L_taken ⟨hbl, fns_of (xs := c_L_taken.fn) (fs := g_L_taken) trivial, con_of (xs := c_L_taken.con) trivial⟩ l_L_taken (PySem.W.mg_of X G a0) B0 k_L_taken w_L_taken
  have B1 := F1.binds (ps := ["_law_row_here", "_law_things"]) fun _ _ _ _ _ _ us hl => match us, hl with | [_, _], _ => rfl
  have N1 : FnG l.prog w K mg base 2 "_law_pick" 2 (.wr d_L_pick) := fn_wr (C := c_L_pick) (G := g_L_pick) (j := 1) F1 rfl h_L_pick ⟨hbl, fns_of (xs := c_L_pick.fn) (fs := g_L_pick) ⟨N0.mono (by decide), trivial⟩, con_of (xs := c_L_pick.con) trivial⟩ l_L_pick (PySem.W.mg_of X G a1) B1 k_L_pick w_L_pick
  have B2 := F2.binds (ps := ["_law_row_here", "_law_yard", "_law_many"]) fun _ _ _ _ _ _ us hl => match us, hl with | [_, _, _], _ => rfl
  have N2 : FnG l.prog w K mg base 2 "_law_row" 3 (.wr d_L_row) := fn_wr (C := c_L_row) (G := g_L_row) (j := 1) F2 rfl h_L_row ⟨hbl, fns_of (xs := c_L_row.fn) (fs := g_L_row) ⟨N0.mono (by decide), trivial⟩, con_of (xs := c_L_row.con) trivial⟩ l_L_row (PySem.W.mg_of X G a2) B2 k_L_row w_L_row
  have B3 := F3.binds (ps := ["value"]) fun _ _ _ _ _ _ us hl => match us, hl with | [_], _ => rfl
  have N3 : FnG l.prog w K mg base 1 "is_integer" 1 (.pr d_f_is_integer) := fn_pr (C := c_f_is_integer) (G := g_f_is_integer) (j := 0) F3 rfl h_f_is_integer ⟨hbl, fns_of (xs := c_f_is_integer.fn) (fs := g_f_is_integer) trivial, con_of (xs := c_f_is_integer.con) trivial⟩ l_f_is_integer (PySem.W.mg_of X G a3) B3 k_f_is_integer
  have B4 := F4.binds (ps := ["value", "least", "most"]) fun _ _ _ _ _ _ us hl => match us, hl with | [_, _, _], _ => rfl
  have N4 : FnG l.prog w K mg base 2 "is_in" 3 (.pr d_f_is_in) := fn_pr (C := c_f_is_in) (G := g_f_is_in) (j := 1) F4 rfl h_f_is_in ⟨hbl, fns_of (xs := c_f_is_in.fn) (fs := g_f_is_in) ⟨N3.mono (by decide), trivial⟩, con_of (xs := c_f_is_in.con) trivial⟩ l_f_is_in (PySem.W.mg_of X G a4) B4 k_f_is_in
  have B5 := F5.binds (ps := ["value", "least", "most"]) fun _ _ _ _ _ _ us hl => match us, hl with | [_, _, _], _ => rfl
  have N5 : FnG l.prog w K mg base 1 "is_list" 3 (.pr d_f_is_list) := fn_pr (C := c_f_is_list) (G := g_f_is_list) (j := 0) F5 rfl h_f_is_list ⟨hbl, fns_of (xs := c_f_is_list.fn) (fs := g_f_is_list) trivial, con_of (xs := c_f_is_list.con) trivial⟩ l_f_is_list (PySem.W.mg_of X G a5) B5 k_f_is_list
  have B6 := F6.binds (ps := ["yard"]) fun _ _ _ _ _ _ us hl => match us, hl with | [_], _ => rfl
  have N6 : FnG l.prog w K mg base 3 "need_yard" 1 (.pr d_f_need_yard) := fn_pr (C := c_f_need_yard) (G := g_f_need_yard) (j := 2) F6 rfl h_f_need_yard ⟨hbl, fns_of (xs := c_f_need_yard.fn) (fs := g_f_need_yard) ⟨N4.mono (by decide), N5.mono (by decide), trivial⟩, con_of (xs := c_f_need_yard.con) ⟨⟨.int 8, .int 8 _, PySem.W.mg_of X G m0, ⟨_, rfl⟩, fun _ _ => .int _⟩, ⟨.int 7, .int 7 _, PySem.W.mg_of X G m1, ⟨_, rfl⟩, fun _ _ => .int _⟩, trivial⟩⟩ l_f_need_yard (PySem.W.mg_of X G a6) B6 k_f_need_yard
  have B7 := F7.binds (ps := ["yard", "calls"]) fun _ _ _ _ _ _ us hl => match us, hl with | [_, _], _ => rfl
  have N7 : FnG l.prog w K mg base 3 "need_calls" 2 (.pr d_f_need_calls) := fn_pr (C := c_f_need_calls) (G := g_f_need_calls) (j := 2) F7 rfl h_f_need_calls ⟨hbl, fns_of (xs := c_f_need_calls.fn) (fs := g_f_need_calls) ⟨N5.mono (by decide), N4.mono (by decide), trivial⟩, con_of (xs := c_f_need_calls.con) ⟨⟨.int 60, .int 60 _, PySem.W.mg_of X G m2, ⟨_, rfl⟩, fun _ _ => .int _⟩, trivial⟩⟩ l_f_need_calls (PySem.W.mg_of X G a7) B7 k_f_need_calls
  have B8 := F8.binds (ps := ["yard"]) fun _ _ _ _ _ _ us hl => match us, hl with | [_], _ => rfl
  have N8 : FnG l.prog w K mg base 1 "number_of_states" 1 (.pr d_f_number_of_states) := fn_pr (C := c_f_number_of_states) (G := g_f_number_of_states) (j := 0) F8 rfl h_f_number_of_states ⟨hbl, fns_of (xs := c_f_number_of_states.fn) (fs := g_f_number_of_states) trivial, con_of (xs := c_f_number_of_states.con) trivial⟩ l_f_number_of_states (PySem.W.mg_of X G a8) B8 k_f_number_of_states
  have B9 := F9.binds (ps := ["yard", "one", "other"]) fun _ _ _ _ _ _ us hl => match us, hl with | [_, _, _], _ => rfl
  have N9 : FnG l.prog w K mg base 4 "need_two" 3 (.pr d_f_need_two) := fn_pr (C := c_f_need_two) (G := g_f_need_two) (j := 3) F9 rfl h_f_need_two ⟨hbl, fns_of (xs := c_f_need_two.fn) (fs := g_f_need_two) ⟨N6.mono (by decide), N7.mono (by decide), N8.mono (by decide), trivial⟩, con_of (xs := c_f_need_two.con) ⟨⟨.int 20000, .int 20000 _, PySem.W.mg_of X G m3, ⟨_, rfl⟩, fun _ _ => .int _⟩, trivial⟩⟩ l_f_need_two (PySem.W.mg_of X G a9) B9 k_f_need_two
  have B10 := F10.binds (ps := ["yard"]) fun _ _ _ _ _ _ us hl => match us, hl with | [_], _ => rfl
  have N10 : FnG l.prog w K mg base 1 "all_states" 1 (.pr d_f_all_states) := fn_pr (C := c_f_all_states) (G := g_f_all_states) (j := 0) F10 rfl h_f_all_states ⟨hbl, fns_of (xs := c_f_all_states.fn) (fs := g_f_all_states) trivial, con_of (xs := c_f_all_states.con) trivial⟩ l_f_all_states (PySem.W.mg_of X G a10) B10 k_f_all_states
  have B11 := F11.binds (ps := ["state", "station"]) fun _ _ _ _ _ _ us hl => match us, hl with | [_, _], _ => rfl
  have N11 : FnG l.prog w K mg base 1 "move_in" 2 (.pr d_f_move_in) := fn_pr (C := c_f_move_in) (G := g_f_move_in) (j := 0) F11 rfl h_f_move_in ⟨hbl, fns_of (xs := c_f_move_in.fn) (fs := g_f_move_in) trivial, con_of (xs := c_f_move_in.con) trivial⟩ l_f_move_in (PySem.W.mg_of X G a11) B11 k_f_move_in
  have B12 := F12.binds (ps := ["state", "car"]) fun _ _ _ _ _ _ us hl => match us, hl with | [_, _], _ => rfl
  have N12 : FnG l.prog w K mg base 1 "station_in" 2 (.pr d_f_station_in) := fn_pr (C := c_f_station_in) (G := g_f_station_in) (j := 0) F12 rfl h_f_station_in ⟨hbl, fns_of (xs := c_f_station_in.fn) (fs := g_f_station_in) trivial, con_of (xs := c_f_station_in.con) trivial⟩ l_f_station_in (PySem.W.mg_of X G a12) B12 k_f_station_in
  have B13 := F13.binds (ps := ["state", "car"]) fun _ _ _ _ _ _ us hl => match us, hl with | [_, _], _ => rfl
  have N13 : FnG l.prog w K mg base 2 "call_in" 2 (.pr d_f_call_in) := fn_pr (C := c_f_call_in) (G := g_f_call_in) (j := 1) F13 rfl h_f_call_in ⟨hbl, fns_of (xs := c_f_call_in.fn) (fs := g_f_call_in) ⟨N11.mono (by decide), N12.mono (by decide), trivial⟩, con_of (xs := c_f_call_in.con) trivial⟩ l_f_call_in (PySem.W.mg_of X G a13) B13 k_f_call_in
  have B14 := F14.binds (ps := ["state", "calls"]) fun _ _ _ _ _ _ us hl => match us, hl with | [_, _], _ => rfl
  have N14 : FnG l.prog w K mg base 3 "story_in" 2 (.pr d_f_story_in) := fn_pr (C := c_f_story_in) (G := g_f_story_in) (j := 2) F14 rfl h_f_story_in ⟨hbl, fns_of (xs := c_f_story_in.fn) (fs := g_f_story_in) ⟨N13.mono (by decide), trivial⟩, con_of (xs := c_f_story_in.con) trivial⟩ l_f_story_in (PySem.W.mg_of X G a14) B14 k_f_story_in
  have B15 := F15.binds (ps := ["yard", "one", "other"]) fun _ _ _ _ _ _ us hl => match us, hl with | [_, _, _], _ => rfl
  have N15 : FnG l.prog w K mg base 5 "does_same" 3 (.pr d_f_does_same) := fn_pr (C := c_f_does_same) (G := g_f_does_same) (j := 4) F15 rfl h_f_does_same ⟨hbl, fns_of (xs := c_f_does_same.fn) (fs := g_f_does_same) ⟨N9.mono (by decide), N10.mono (by decide), N14.mono (by decide), trivial⟩, con_of (xs := c_f_does_same.con) trivial⟩ l_f_does_same (PySem.W.mg_of X G a15) B15 k_f_does_same
  have B16 := F16.binds (ps := ["yard", "one", "other"]) fun _ _ _ _ _ _ us hl => match us, hl with | [_, _, _], _ => rfl
  have N16 : FnG l.prog w K mg base 5 "telling" 3 (.pr d_f_telling) := fn_pr (C := c_f_telling) (G := g_f_telling) (j := 4) F16 rfl h_f_telling ⟨hbl, fns_of (xs := c_f_telling.fn) (fs := g_f_telling) ⟨N9.mono (by decide), N10.mono (by decide), N14.mono (by decide), trivial⟩, con_of (xs := c_f_telling.con) trivial⟩ l_f_telling (PySem.W.mg_of X G a16) B16 k_f_telling
  have B17 := F17.binds (ps := ["yard", "state"]) fun _ _ _ _ _ _ us hl => match us, hl with | [_, _], _ => rfl
  have N17 : FnG l.prog w K mg base 3 "need_trains" 2 (.pr d_f_need_trains) := fn_pr (C := c_f_need_trains) (G := g_f_need_trains) (j := 2) F17 rfl h_f_need_trains ⟨hbl, fns_of (xs := c_f_need_trains.fn) (fs := g_f_need_trains) ⟨N5.mono (by decide), N4.mono (by decide), trivial⟩, con_of (xs := c_f_need_trains.con) trivial⟩ l_f_need_trains (PySem.W.mg_of X G a17) B17 k_f_need_trains
  have B18 := F18.binds (ps := ["yard", "state"]) fun _ _ _ _ _ _ us hl => match us, hl with | [_, _], _ => rfl
  have N18 : FnG l.prog w K mg base 4 "need_state" 2 (.pr d_f_need_state) := fn_pr (C := c_f_need_state) (G := g_f_need_state) (j := 3) F18 rfl h_f_need_state ⟨hbl, fns_of (xs := c_f_need_state.fn) (fs := g_f_need_state) ⟨N6.mono (by decide), N17.mono (by decide), trivial⟩, con_of (xs := c_f_need_state.con) trivial⟩ l_f_need_state (PySem.W.mg_of X G a18) B18 k_f_need_state
  have B19 := F19.binds (ps := ["yard", "state", "calls"]) fun _ _ _ _ _ _ us hl => match us, hl with | [_, _, _], _ => rfl
  have N19 : FnG l.prog w K mg base 5 "after" 3 (.pr d_f_after) := fn_pr (C := c_f_after) (G := g_f_after) (j := 4) F19 rfl h_f_after ⟨hbl, fns_of (xs := c_f_after.fn) (fs := g_f_after) ⟨N18.mono (by decide), N7.mono (by decide), N14.mono (by decide), trivial⟩, con_of (xs := c_f_after.con) trivial⟩ l_f_after (PySem.W.mg_of X G a19) B19 k_f_after
  have B20 := F20.binds (ps := ["yard"]) fun _ _ _ _ _ _ us hl => match us, hl with | [_], _ => rfl
  have N20 : FnG l.prog w K mg base 4 "first_state" 1 (.pr d_f_first_state) := fn_pr (C := c_f_first_state) (G := g_f_first_state) (j := 3) F20 rfl h_f_first_state ⟨hbl, fns_of (xs := c_f_first_state.fn) (fs := g_f_first_state) ⟨N6.mono (by decide), trivial⟩, con_of (xs := c_f_first_state.con) trivial⟩ l_f_first_state (PySem.W.mg_of X G a20) B20 k_f_first_state
  have B21 := F21.binds (ps := ["_law_script"]) fun _ _ _ _ _ _ us hl => match us, hl with | [_], _ => rfl
  exact fn_pr0 (C := c_law) (G := g_law) (j := 5) F21 rfl h_law ⟨hbl, fns_of (xs := c_law.fn) (fs := g_law) ⟨N1.mono (by decide), N2.mono (by decide), N15.mono (by decide), N16.mono (by decide), N19.mono (by decide), N20.mono (by decide), trivial⟩, con_of (xs := c_law.con) trivial⟩ l_law k_law
end K91
set_option linter.all false
/-! the evaluator's equations for simp: a loop's body has a name -/
namespace TR
open PySem
def forB (G : List Fn) (p : P) (body : List S) (x : D) (en : TR.Env) : R Out := do
  let e2 ← bindP p x en
  exs G body e2
theorem ex_for (G : List Fn) (p : P) (it : E) (body : List S) (env : TR.Env) : ex G (.for_ p it body) env = (do
    let (m, rs, e1) ← ev G it env
    let xs ← itR m
    if apart rs (muSs body ++ p.slots) then foLoop (forB G p body) xs e1 else .bad) := by
  rw [ex]; rfl
def lcB (G : List Fn) (vs : List Nat) (elt : E) (p : P) (cs : List E) (x : D) (en : TR.Env) : R (Option D × TR.Env) := do
  let e2 ← bindP p x (wipeE en vs)
  let (b, e3) ← evCs G cs e2
  if b then do
    let r ← ev G elt e3
    let (d, e4) ← takeR elt r
    .ok (some d, e4)
  else .ok (none, e3)
def nlB (G : List Fn) (vs : List Nat) (elt : E) (p : P) (x : D) (en : TR.Env) : R (List D × TR.Env) := do
  let e2 ← bindP p x (wipeE en vs)
  let r ← ev G elt e2
  ownR r
theorem ev_lc (G : List Fn) (vs : List Nat) (elt : E) (p : P) (it : E) (cs : List E) (env : TR.Env) : ev G (.lc false vs elt p it cs) env = (do
    let (m, rs, e1) ← ev G it env
    if den e1 vs && subs p.slots vs then
      match nlAt m it with
        | some (i, xs) =>
          if (muT elt ++ muEs cs).isEmpty && !vs.contains i then do
            let (ys, _) ← lcLoop (lcB G vs elt p cs) xs (e1.set i (some (.pu (.list xs))))
            if noLs ys && decide (ys.length ≤ big) then .ok (.li ys, [], e1) else .bad
          else .bad
        | none => do
          let xs ← itR m
          if apart rs (muT elt ++ muEs cs ++ vs) then do
            let (ys, e2) ← lcLoop (lcB G vs elt p cs) xs e1
            if ys.length ≤ big then .ok (.li ys, [], backE e2 e1 vs) else .bad
          else .bad
    else .bad) := by
  rw [ev]; rfl
theorem ev_nl (G : List Fn) (vs : List Nat) (elt : E) (p : P) (it : E) (cs : List E) (env : TR.Env) : ev G (.lc true vs elt p it cs) env = (do
    let (m, rs, e1) ← ev G it env
    if den e1 vs && subs p.slots vs then do
        let xs ← itR m
        if apart rs (muE elt ++ vs) then do
          let (ys, e2) ← nlLoop (nlB G vs elt p) xs e1
          if cs.isEmpty && decide (ys.length ≤ big) then .ok (.nl ys, [], backE e2 e1 vs) else .bad
        else .bad
    else .bad) := by
  rw [ev]; rfl
@[simp] theorem itR_tup (xs : List D) : itR (.pu (.tuple xs)) = .ok xs := rfl
@[simp] theorem itR_lst (xs : List D) : itR (.pu (.list xs)) = .ok xs := rfl
@[simp] theorem itR_li (xs : List D) : itR (.li xs) = .ok xs := rfl
@[simp] theorem isM_tup (ts : List Ty) (xs : List D) : isM ts (.pu (.tuple xs)) = .ok (.pu (.bool (ts.contains (tyD (.pu (.tuple xs)))))) := rfl
@[simp] theorem isM_lst (ts : List Ty) (xs : List D) : isM ts (.pu (.list xs)) = .ok (.pu (.bool (ts.contains (tyD (.pu (.list xs)))))) := rfl
@[simp] theorem isM_li (ts : List Ty) (xs : List D) : isM ts (.li xs) = .ok (.pu (.bool (ts.contains (tyD (.li xs))))) := rfl
@[simp] theorem isM_int (ts : List Ty) (i : Int) : isM ts (.pu (.int i)) = .ok (.pu (.bool (ts.contains (tyD (.pu (.int i)))))) := rfl
@[simp] theorem isM_bool (ts : List Ty) (i : Bool) : isM ts (.pu (.bool i)) = .ok (.pu (.bool (ts.contains (tyD (.pu (.bool i)))))) := rfl
@[simp] theorem isM_str (ts : List Ty) (i : Str) : isM ts (.pu (.str i)) = .ok (.pu (.bool (ts.contains (tyD (.pu (.str i)))))) := rfl
@[simp] theorem isM_none (ts : List Ty) : isM ts (.pu .none) = .ok (.pu (.bool (ts.contains (tyD (.pu .none))))) := rfl
end TR
set_option linter.all false
/-! plain lemmas: walks, enumerate, ranges, min and max -/
namespace TR
open PySem
theorem lcLoop_g {α : Type} {f : D → TR.Env → R (Option D × TR.Env)} (h : α → D) (g : α → Option D) (I : TR.Env → Prop) (l : List α)
    (H : ∀ a ∈ l, ∀ en, I en → ∃ e2, f (h a) en = .ok (g a, e2) ∧ I e2) : ∀ env, I env → ∃ e2, lcLoop f (l.map h) env = .ok (l.filterMap g, e2) ∧ I e2 := by
  induction l with
  | nil => intro env h0; exact ⟨env, by simp [lcLoop], h0⟩
  | cons x xs ih =>
    intro env h0
    obtain ⟨e2, h1, h2⟩ := H x (by simp) env h0
    obtain ⟨e3, h3, h4⟩ := ih (fun y hy => H y (by simp [hy])) e2 h2
    refine ⟨e3, ?_, h4⟩
    cases hg : g x <;> simp [lcLoop, h1, h3, hg]
theorem foLoop_g {α : Type} {f : D → TR.Env → R Out} (h : α → D) (I : List α → TR.Env → Prop) (l : List α)
    (H : ∀ l1 a l2, l = l1 ++ a :: l2 → ∀ en, I l1 en → ∃ e2, f (h a) en = .ok (.nx e2) ∧ I (l1 ++ [a]) e2) : ∀ env, I [] env → ∃ e2, foLoop f (l.map h) env = .ok (.nx e2) ∧ I l e2 := by
  suffices hh : ∀ (l2 l1 : List α), l = l1 ++ l2 → ∀ env, I l1 env → ∃ e2, foLoop f (l2.map h) env = .ok (.nx e2) ∧ I l e2 from fun env h0 => hh l [] rfl env h0
  intro l2
  induction l2 with
  | nil => intro l1 e env h0; refine ⟨env, by simp [foLoop], ?_⟩; rw [e]; simpa using h0
  | cons a l2 ih =>
    intro l1 e env h0
    obtain ⟨e2, h1, h2⟩ := H l1 a l2 e env h0
    obtain ⟨e3, h3, h4⟩ := ih (l1 ++ [a]) (by simp [e]) e2 h2
    exact ⟨e3, by simp [foLoop, h1, h3], h4⟩
theorem enmD_zip {α : Type} (h : α → D) (l : List α) : ∀ n, enmD (l.map h) n = (l.zipIdx n).map fun p => .tuple [.int (p.2 : Nat), h p.1] := by
  induction l with
  | nil => intro n; simp [enmD]
  | cons a l ih => intro n; simp [enmD, ih, List.zipIdx_cons]
theorem ev_lc_ok {G : List Fn} {vs : List Nat} {elt : E} {p : P} {it : E} {cs : List E} {env e1 e2 : TR.Env} {m : M} {rs : List Nat} {xs ys : List D} (h : ev G it env = .ok (m, rs, e1))
    (hd : (den e1 vs && subs p.slots vs) = true) (hn : nlAt m it = none) (hs : itR m = .ok xs) (ha : apart rs (muT elt ++ muEs cs ++ vs) = true)
    (h2 : lcLoop (lcB G vs elt p cs) xs e1 = .ok (ys, e2)) (hb : ys.length ≤ big) : ev G (.lc false vs elt p it cs) env = .ok (.li ys, [], backE e2 e1 vs) := by
  rw [ev_lc, h]
  simp only [bind, R.bind]
  rw [if_pos hd, hn]
  simp only
  rw [hs]
  simp only
  rw [if_pos ha, h2]
  simp only
  rw [if_pos hb]
theorem ev_rgl_ok {G : List Fn} {t : Bool} {as : List E} {env : TR.Env} {ms : List M} {rs : List Nat} {e1 : TR.Env} {a b : Int} (h : evs G as env = .ok (ms, rs, e1)) (h2 : rgOf ms = .ok (a, b)) (h3 : rgB a b = true) :
    ev G (.rgl t as) env = .ok ((if t then .pu (.tuple (rngD a b)) else .li (rngD a b)), [], e1) := by
  rw [ev, h]
  simp only [bind, R.bind]
  rw [h2]
  simp only
  rw [if_pos h3]
theorem ev_rng_ok {G : List Fn} {as : List E} {env : TR.Env} {ms : List M} {rs : List Nat} {e1 : TR.Env} {a b : Int} (h : evs G as env = .ok (ms, rs, e1)) (h2 : rgOf ms = .ok (a, b)) (h3 : rgC a b = true) :
    ev G (.rng as) env = .ok (.li (rngD a b), [], e1) := by
  rw [ev, h]
  simp only [bind, R.bind]
  rw [h2]
  simp only
  rw [if_pos h3]
theorem one_big : 1 ≤ big := by unfold big; omega
theorem ev_tup1 {G : List Fn} {a : E} {d : D} {env e1 : TR.Env} (h : evTs G [a] env = .ok ([d], e1)) : ev G (.tup [a]) env = .ok (.pu (.tuple [d]), [], e1) := by
  rw [ev, h]
  simp only [bind, R.bind]
  rw [if_pos (show [d].length ≤ big from one_big)]
theorem ev_bin_ok {G : List Fn} {o : BOp} {a b : E} {ma mb m : M} {rb : List Nat} {env e1 e2 : TR.Env} (h : ev G a env = .ok (ma, [], e1)) (h2 : ev G b e1 = .ok (mb, rb, e2)) (h3 : binD o ma mb = .ok m) : ev G (.bin o a b) env = .ok (m, [], e2) := by
  rw [ev, h]
  simp only [bind, R.bind]
  rw [h2]
  simp only [apart, List.all_nil, if_true]
  rw [h3]
theorem ex_ret_ok {G : List Fn} {e : E} {m : M} {env e1 : TR.Env} (h : ev G e env = .ok (m, [], e1)) (hm : retR e (m, [], e1) = .ok (m, e1)) : exs G [.ret e] env = .ok (.ret m e1) := by
  rw [exs, ex, h]
  simp only [bind, R.bind]
  rw [hm]
theorem exs_do {G : List Fn} {e : E} {r : List S} {m : M} {rs : List Nat} {env e1 : TR.Env} (h : ev G e env = .ok (m, rs, e1)) : exs G (.do_ e :: r) env = exs G r e1 := by
  rw [exs, ex, h]
  simp only [bind, R.bind]
theorem exs_nx {G : List Fn} {s : S} {r : List S} {env e1 : TR.Env} (h : ex G s env = .ok (.nx e1)) : exs G (s :: r) env = exs G r e1 := by
  rw [exs, h]
  simp only [bind, R.bind]
theorem exs_ret {G : List Fn} {s : S} {r : List S} {m : M} {env e1 : TR.Env} (h : ex G s env = .ok (.ret m e1)) : exs G (s :: r) env = .ok (.ret m e1) := by
  rw [exs, h]
  simp only [bind, R.bind]
theorem ev_cmp_ok {G : List Fn} {o : COp} {a b : E} {ma mb : M} {c : Bool} {ra rb : List Nat} {env e1 e2 : TR.Env} (h : ev G a env = .ok (ma, ra, e1)) (h2 : ev G b e1 = .ok (mb, rb, e2)) (ha : apart ra (muE b) = true) (h3 : cmpD o ma mb = .ok c) : ev G (.cmp o a b) env = .ok (.pu (.bool c), [], e2) := by
  rw [ev, h]
  simp only [bind, R.bind]
  rw [h2]
  simp only
  rw [if_pos ha, h3]
theorem runP_ret {G : List Fn} {n : Nat} {b : List S} {ds : List D} {m : M} {e : TR.Env} (h : exs G b (ds.map (fun d => some (.pu d)) ++ List.replicate (n - ds.length) none) = .ok (.ret m e)) : runP G n b ds = .ok m := by
  unfold runP
  rw [h]
  rfl
theorem ex_asg_t {G : List Fn} {ps : List P} {e : E} {env e2 e3 : TR.Env} {r : M × List Nat × TR.Env} {d : D} (h : ev G e env = .ok r) (h2 : takeR e r = .ok (d, e2)) (h3 : bindP (.t ps) d e2 = .ok e3) : ex G (.asg (.t ps) e) env = .ok (.nx e3) := by
  rw [ex, h]
  simp only [bind, R.bind]
  rw [h2]
  simp only
  rw [h3]
theorem ex_asg_v {G : List Fn} {i : Nat} {e : E} {env e2 : TR.Env} {r : M × List Nat × TR.Env} {m : M} (h : ev G e env = .ok r) (h2 : keepR e r = .ok (m, e2)) (h3 : i < e2.length) : ex G (.asg (.v i) e) env = .ok (.nx (e2.set i (some m))) := by
  rw [ex, h]
  simp only [bind, R.bind]
  rw [h2]
  simp only
  rw [if_pos h3]
theorem evTs_nil {G : List Fn} {env : TR.Env} : evTs G [] env = .ok ([], env) := by rw [evTs]
def isSt1 : E → Bool
  | .star _ => true
  | _ => false
theorem evTs_c1 {G : List Fn} {a : E} {as : List E} {env e1 e2 : TR.Env} {m : M} {rs : List Nat} {d : D} {ds : List D} {e0 : TR.Env} (h : ev G a env = .ok (m, rs, e0)) (ht : takeR a (m, rs, e0) = .ok (d, e1)) (h2 : evTs G as e1 = .ok (ds, e2)) (hs : isSt1 a = false := by rfl) :
    evTs G (a :: as) env = .ok (d :: ds, e2) := by
  rw [evTs]
  · rw [h]
    simp only [bind, R.bind]
    rw [ht]
    simp only
    rw [h2]
  · intro b e
    rw [e] at hs
    cases hs
theorem evTs_pu {G : List Fn} {a : E} {as : List E} {env e1 e2 : TR.Env} {rs : List Nat} {d : D} {ds : List D} (h : ev G a env = .ok (.pu d, rs, e1)) (h2 : evTs G as e1 = .ok (ds, e2)) (hs : isSt1 a = false := by rfl) :
    evTs G (a :: as) env = .ok (d :: ds, e2) := evTs_c1 h rfl h2 hs
theorem ev_call_ok {G : List Fn} {k : Nat} {as : List E} {env e1 : TR.Env} {ds : List D} {f : FP} {m : M} (hf : G[k]? = some (.pr f)) (h : evTs G as env = .ok (ds, e1)) (hr : f ds = .ok m) : ev G (.call k as) env = .ok (m, [], e1) := by
  rw [ev, h]
  simp only [bind, R.bind, fpOf]
  rw [hf]
  simp only
  rw [hr]
theorem ev_callW_ok {G : List Fn} {k y : Nat} {as : List E} {env e1 : TR.Env} {ds : List D} {f : FW} {m m0 m1 mx : M} (hy : env.get y = .ok mx) (hf : G[k]? = some (.wr f)) (h : evTs G as env = .ok (ds, e1)) (h0 : e1.get y = .ok m0) (ho : m0.own = true) (hr : f m0 ds = .ok (m, m1)) (ho1 : m1.own = true) :
    ev G (.callW k y as) env = .ok (m, [], e1.set y (some m1)) := by
  rw [ev, hy]
  simp only [bind, R.bind]
  rw [h]
  simp only
  rw [h0]
  simp only
  rw [if_pos ho]
  simp only [fwOf]
  rw [hf]
  simp only
  rw [hr]
  simp only
  rw [if_pos ho1]
theorem ev_var_ok {G : List Fn} {i : Nat} {env : TR.Env} {d : D} (h : env.get i = .ok (.pu d)) : ev G (.var i) env = .ok (.pu d, [], env) := by
  rw [ev, h]
  rfl
theorem ev_sub_ok {G : List Fn} {a b : E} {env e1 e2 : TR.Env} {ma mb m : M} {ra rb : List Nat} (h : ev G a env = .ok (ma, ra, e1)) (h2 : ev G b e1 = .ok (mb, rb, e2)) (ha : apart ra (muE b) = true) (h3 : subD ma mb = .ok m) (hn : ma.isNl = false) : ev G (.sub a b) env = .ok (m, [], e2) := by
  rw [ev, h]
  simp only [bind, R.bind]
  rw [h2]
  simp only
  rw [if_pos ha, h3]
  simp only
  rw [hn]
  rfl
theorem ev_bi1_ok {G : List Fn} {b : Bi} {a : E} {env e1 : TR.Env} {ma m : M} {ra : List Nat} (h : ev G a env = .ok (ma, ra, e1)) (h3 : bi1 b ma = .ok m) : ev G (.bi b [a]) env = .ok (m, [], e1) := by
  rw [ev, evs, h]
  simp only [bind, R.bind]
  rw [evs]
  simp only [muEs, apart, List.contains_nil, Bool.not_false]
  rw [if_pos (by simp)]
  simp only [biD]
  rw [h3]
theorem ev_tup_ok {G : List Fn} {as : List E} {env e1 : TR.Env} {ds : List D} (h : evTs G as env = .ok (ds, e1)) (hb : ds.length ≤ big) : ev G (.tup as) env = .ok (.pu (.tuple ds), [], e1) := by
  rw [ev, h]
  simp only [bind, R.bind]
  rw [if_pos hb]
theorem ev_lst_ok {G : List Fn} {as : List E} {env e1 : TR.Env} {ds : List D} (h : evTs G as env = .ok (ds, e1)) (hb : ds.length ≤ big) : ev G (.lst as) env = .ok (.li ds, [], e1) := by
  rw [ev, h]
  simp only [bind, R.bind]
  rw [if_pos hb]
theorem ex_for_ok {G : List Fn} {p : P} {it : E} {body : List S} {env e1 e2 : TR.Env} {m : M} {rs : List Nat} {xs : List D} (h : ev G it env = .ok (m, rs, e1)) (hs : itR m = .ok xs) (ha : apart rs (muSs body ++ p.slots) = true) (h2 : foLoop (forB G p body) xs e1 = .ok (.nx e2)) : ex G (.for_ p it body) env = .ok (.nx e2) := by
  rw [ex_for, h]
  simp only [bind, R.bind]
  rw [hs]
  simp only
  rw [if_pos ha, h2]
theorem rngD_nat (n : Nat) : rngD 0 n = (List.range n).map fun (i : Nat) => .int (i : Int) := by
  simp [rngD]
end TR
namespace TR
open PySem
theorem ex_setI_ok {G : List Fn} {y : Nat} {i e : E} {env e1 e2 : TR.Env} {mx mi m m2 : M} {d : D} {rs ri : List Nat} (hy : env.get y = .ok mx) (h : ev G e env = .ok (.pu d, rs, e1)) (h2 : ev G i e1 = .ok (mi, ri, e2)) (h3 : e2.get y = .ok m) (h4 : putI m mi d = .ok m2) :
    ex G (.setI y i e) env = .ok (.nx (e2.set y (some m2))) := by
  rw [ex, hy]
  simp only [bind, R.bind]
  rw [h]
  simp only [takeR]
  rw [h2]
  simp only
  rw [h3]
  simp only
  rw [h4]
theorem ex_app_ok {G : List Fn} {y : Nat} {e : E} {env e1 : TR.Env} {xs zs : List D} {d : D} {rs : List Nat} (hy : env.get y = .ok (.li zs)) (h : ev G e env = .ok (.pu d, rs, e1)) (h3 : e1.get y = .ok (.li xs)) (h4 : xs.length < big) :
    ex G (.app y e) env = .ok (.nx (e1.set y (some (.li (xs ++ [d]))))) := by
  rw [ex, hy]
  simp only [bind, R.bind, M.isLi]
  rw [if_pos trivial, h]
  simp only [takeR]
  rw [h3]
  simp only [appM]
  rw [if_pos h4]
theorem ev_cst_ok {G : List Fn} {d : D} {env : TR.Env} : ev G (.cst d) env = .ok (.pu d, [], env) := by rw [ev]
theorem ev_ownvar {G : List Fn} {i : Nat} {env : TR.Env} {xs : List D} (h : env.get i = .ok (.li xs)) : ev G (.var i) env = .ok (.li xs, [i], env) := by
  rw [ev, h]
  rfl
theorem ev_bin_ok' {G : List Fn} {o : BOp} {a b : E} {ma mb m : M} {ra rb : List Nat} {env e1 e2 : TR.Env} (h : ev G a env = .ok (ma, ra, e1)) (h2 : ev G b e1 = .ok (mb, rb, e2)) (ha : apart ra (muE b) = true) (h3 : binD o ma mb = .ok m) : ev G (.bin o a b) env = .ok (m, [], e2) := by
  rw [ev, h]
  simp only [bind, R.bind]
  rw [h2]
  simp only
  rw [if_pos ha, h3]
theorem ev_neg_ok {G : List Fn} {a : E} {i : Int} {ra : List Nat} {env e1 : TR.Env} (h : ev G a env = .ok (.pu (.int i), ra, e1)) : ev G (.neg a) env = .ok (.pu (.int (-i)), [], e1) := by
  rw [ev, h]
  rfl
theorem ev_not_ok {G : List Fn} {a : E} {b : Bool} {ra : List Nat} {env e1 : TR.Env} (h : ev G a env = .ok (.pu (.bool b), ra, e1)) : ev G (.not a) env = .ok (.pu (.bool (!b)), [], e1) := by
  rw [ev, h]
  rfl
theorem ex_if_ff {G : List Fn} {c : E} {a b : List S} {rc : List Nat} {env e1 : TR.Env} {r : R Out} (h : ev G c env = .ok (.pu (.bool false), rc, e1)) (h2 : exs G b e1 = r) : ex G (.ifs c a b) env = r := by
  rw [ex, h]
  simp only [bind, R.bind, boolR]
  rw [if_neg (by decide), h2]
theorem ex_if_tt {G : List Fn} {c : E} {a b : List S} {rc : List Nat} {env e1 : TR.Env} {r : R Out} (h : ev G c env = .ok (.pu (.bool true), rc, e1)) (h2 : exs G a e1 = r) : ex G (.ifs c a b) env = r := by
  rw [ex, h]
  simp only [bind, R.bind, boolR]
  rw [if_pos trivial, h2]
theorem exs_nil {G : List Fn} {env : TR.Env} : exs G [] env = .ok (.nx env) := by rw [exs]
theorem runP_nx {G : List Fn} {n : Nat} {b : List S} {ds : List D} {e : TR.Env} (h : exs G b (ds.map (fun d => some (.pu d)) ++ List.replicate (n - ds.length) none) = .ok (.nx e)) : runP G n b ds = .ok (.pu .none) := by
  unfold runP
  rw [h]
  rfl
end TR
namespace TR
open PySem
theorem lcB_nc {G : List Fn} {vs : List Nat} {elt : E} {p : P} {x : D} {en e2 e3 : TR.Env} {d : D} {rs : List Nat} (hb : bindP p x (wipeE en vs) = .ok e2) (h : ev G elt e2 = .ok (.pu d, rs, e3)) : lcB G vs elt p [] x en = .ok (some d, e3) := by
  rw [lcB, hb]
  simp only [bind, R.bind]
  rw [evCs]
  simp only
  rw [if_pos trivial, h]
  simp only [takeR]
end TR
namespace TR
open PySem
theorem runW_ret {G : List Fn} {w n : Nat} {b : List S} {m : M} {ds : List D} {r m1 : M} {e : TR.Env} (h : exs G b ((ds.take w).map (fun d => some (.pu d)) ++ some m :: (ds.drop w).map (fun d => some (.pu d)) ++ List.replicate (n - ds.length - 1) none) = .ok (.ret r e)) (h2 : e.get w = .ok m1) : runW G w n b m ds = .ok (r, m1) := by
  unfold runW
  rw [h]
  simp only [bind, R.bind]
  rw [h2]
end TR
set_option linter.all false
/-! the equations of the evaluator, for simp -/
namespace TR
open PySem
@[simp] theorem si_ex_1 : type_of% @ex.eq_1 := @ex.eq_1
@[simp] theorem si_ex_2 : type_of% @ex.eq_2 := @ex.eq_2
@[simp] theorem si_ex_3 : type_of% @ex.eq_3 := @ex.eq_3
@[simp] theorem si_ex_4 : type_of% @ex.eq_4 := @ex.eq_4
@[simp] theorem si_ex_5 : type_of% @ex.eq_5 := @ex.eq_5
@[simp] theorem si_ex_6 : type_of% @ex.eq_6 := @ex.eq_6
@[simp] theorem si_ex_7 : type_of% @ex.eq_7 := @ex.eq_7
@[simp] theorem si_ex_8 : type_of% @ex.eq_8 := @ex.eq_8
@[simp] theorem si_ex_9 : type_of% @ex.eq_9 := @ex.eq_9
@[simp] theorem si_ex_10 : type_of% @ex.eq_10 := @ex.eq_10
@[simp] theorem si_ex_11 : type_of% @ex.eq_11 := @ex.eq_11
@[simp] theorem si_ex_12 : type_of% @ex.eq_12 := @ex.eq_12
@[simp] theorem si_ex_13 : type_of% @ex.eq_13 := @ex.eq_13
@[simp] theorem si_ex_14 : type_of% @ex.eq_14 := @ex.eq_14
@[simp] theorem si_ex_15 : type_of% @ex.eq_15 := @ex.eq_15
@[simp] theorem si_ex_16 : type_of% @ex.eq_16 := @ex.eq_16
@[simp] theorem si_ex_18 : type_of% @ex.eq_18 := @ex.eq_18
@[simp] theorem si_ex_19 : type_of% @ex.eq_19 := @ex.eq_19
@[simp] theorem si_ex_20 : type_of% @ex.eq_20 := @ex.eq_20
@[simp] theorem si_ex_21 : type_of% @ex.eq_21 := @ex.eq_21
@[simp] theorem si_ev_1 : type_of% @ev.eq_1 := @ev.eq_1
@[simp] theorem si_ev_2 : type_of% @ev.eq_2 := @ev.eq_2
@[simp] theorem si_ev_3 : type_of% @ev.eq_3 := @ev.eq_3
@[simp] theorem si_ev_4 : type_of% @ev.eq_4 := @ev.eq_4
@[simp] theorem si_ev_5 : type_of% @ev.eq_5 := @ev.eq_5
@[simp] theorem si_ev_6 : type_of% @ev.eq_6 := @ev.eq_6
@[simp] theorem si_ev_7 : type_of% @ev.eq_7 := @ev.eq_7
@[simp] theorem si_ev_8 : type_of% @ev.eq_8 := @ev.eq_8
@[simp] theorem si_ev_9 : type_of% @ev.eq_9 := @ev.eq_9
@[simp] theorem si_ev_10 : type_of% @ev.eq_10 := @ev.eq_10
@[simp] theorem si_ev_11 : type_of% @ev.eq_11 := @ev.eq_11
@[simp] theorem si_ev_12 : type_of% @ev.eq_12 := @ev.eq_12
@[simp] theorem si_ev_13 : type_of% @ev.eq_13 := @ev.eq_13
@[simp] theorem si_ev_14 : type_of% @ev.eq_14 := @ev.eq_14
@[simp] theorem si_ev_15 : type_of% @ev.eq_15 := @ev.eq_15
@[simp] theorem si_ev_16 : type_of% @ev.eq_16 := @ev.eq_16
@[simp] theorem si_ev_17 : type_of% @ev.eq_17 := @ev.eq_17
@[simp] theorem si_ev_18 : type_of% @ev.eq_18 := @ev.eq_18
@[simp] theorem si_ev_19 : type_of% @ev.eq_19 := @ev.eq_19
@[simp] theorem si_ev_20 : type_of% @ev.eq_20 := @ev.eq_20
@[simp] theorem si_ev_21 : type_of% @ev.eq_21 := @ev.eq_21
@[simp] theorem si_ev_22 : type_of% @ev.eq_22 := @ev.eq_22
@[simp] theorem si_ev_23 : type_of% @ev.eq_23 := @ev.eq_23
@[simp] theorem si_ev_24 : type_of% @ev.eq_24 := @ev.eq_24
@[simp] theorem si_ev_28 : type_of% @ev.eq_28 := @ev.eq_28
@[simp] theorem si_ev_31 : type_of% @ev.eq_31 := @ev.eq_31
@[simp] theorem si_ev_32 : type_of% @ev.eq_32 := @ev.eq_32
@[simp] theorem si_ev_33 : type_of% @ev.eq_33 := @ev.eq_33
@[simp] theorem si_ev_34 : type_of% @ev.eq_34 := @ev.eq_34
@[simp] theorem si_ev_35 : type_of% @ev.eq_35 := @ev.eq_35
@[simp 999] theorem si_fpOf_1 : type_of% @fpOf.eq_1 := @fpOf.eq_1
@[simp 999] theorem si_exs_1 : type_of% @exs.eq_1 := @exs.eq_1
@[simp 998] theorem si_exs_2 : type_of% @exs.eq_2 := @exs.eq_2
@[simp 999] theorem si_evs_1 : type_of% @evs.eq_1 := @evs.eq_1
@[simp 998] theorem si_evs_2 : type_of% @evs.eq_2 := @evs.eq_2
@[simp 999] theorem si_evTs_1 : type_of% @evTs.eq_1 := @evTs.eq_1
@[simp 998] theorem si_evTs_2 : type_of% @evTs.eq_2 := @evTs.eq_2
@[simp 997] theorem si_evTs_3 : type_of% @evTs.eq_3 := @evTs.eq_3
@[simp 999] theorem si_evKs_1 : type_of% @evKs.eq_1 := @evKs.eq_1
@[simp 998] theorem si_evKs_2 : type_of% @evKs.eq_2 := @evKs.eq_2
@[simp 997] theorem si_evKs_3 : type_of% @evKs.eq_3 := @evKs.eq_3
@[simp 999] theorem si_evO_1 : type_of% @evO.eq_1 := @evO.eq_1
@[simp 998] theorem si_evO_2 : type_of% @evO.eq_2 := @evO.eq_2
@[simp 999] theorem si_evCs_1 : type_of% @evCs.eq_1 := @evCs.eq_1
@[simp 998] theorem si_evCs_2 : type_of% @evCs.eq_2 := @evCs.eq_2
@[simp 999] theorem si_runP_1 : type_of% @runP.eq_1 := @runP.eq_1
@[simp 999] theorem si_Env_get_1 : type_of% @Env.get.eq_1 := @Env.get.eq_1
@[simp 999] theorem si_biD_1 : type_of% @biD.eq_1 := @biD.eq_1
@[simp 998] theorem si_biD_2 : type_of% @biD.eq_2 := @biD.eq_2
@[simp 997] theorem si_biD_3 : type_of% @biD.eq_3 := @biD.eq_3
@[simp 999] theorem si_bi1_1 : type_of% @bi1.eq_1 := @bi1.eq_1
@[simp 998] theorem si_bi1_2 : type_of% @bi1.eq_2 := @bi1.eq_2
@[simp 997] theorem si_bi1_3 : type_of% @bi1.eq_3 := @bi1.eq_3
@[simp 996] theorem si_bi1_4 : type_of% @bi1.eq_4 := @bi1.eq_4
@[simp 995] theorem si_bi1_5 : type_of% @bi1.eq_5 := @bi1.eq_5
@[simp 994] theorem si_bi1_6 : type_of% @bi1.eq_6 := @bi1.eq_6
@[simp 993] theorem si_bi1_7 : type_of% @bi1.eq_7 := @bi1.eq_7
@[simp 992] theorem si_bi1_8 : type_of% @bi1.eq_8 := @bi1.eq_8
@[simp 991] theorem si_bi1_9 : type_of% @bi1.eq_9 := @bi1.eq_9
@[simp 990] theorem si_bi1_10 : type_of% @bi1.eq_10 := @bi1.eq_10
@[simp 989] theorem si_bi1_11 : type_of% @bi1.eq_11 := @bi1.eq_11
@[simp 988] theorem si_bi1_12 : type_of% @bi1.eq_12 := @bi1.eq_12
@[simp 987] theorem si_bi1_13 : type_of% @bi1.eq_13 := @bi1.eq_13
@[simp 986] theorem si_bi1_14 : type_of% @bi1.eq_14 := @bi1.eq_14
@[simp 985] theorem si_bi1_15 : type_of% @bi1.eq_15 := @bi1.eq_15
@[simp 984] theorem si_bi1_16 : type_of% @bi1.eq_16 := @bi1.eq_16
@[simp 983] theorem si_bi1_17 : type_of% @bi1.eq_17 := @bi1.eq_17
@[simp 982] theorem si_bi1_18 : type_of% @bi1.eq_18 := @bi1.eq_18
@[simp 981] theorem si_bi1_19 : type_of% @bi1.eq_19 := @bi1.eq_19
@[simp 980] theorem si_bi1_20 : type_of% @bi1.eq_20 := @bi1.eq_20
@[simp 979] theorem si_bi1_21 : type_of% @bi1.eq_21 := @bi1.eq_21
@[simp 978] theorem si_bi1_22 : type_of% @bi1.eq_22 := @bi1.eq_22
@[simp 977] theorem si_bi1_23 : type_of% @bi1.eq_23 := @bi1.eq_23
@[simp 999] theorem si_isM_1 : type_of% @isM.eq_1 := @isM.eq_1
@[simp 998] theorem si_isM_2 : type_of% @isM.eq_2 := @isM.eq_2
@[simp 997] theorem si_isM_3 : type_of% @isM.eq_3 := @isM.eq_3
@[simp 999] theorem si_tyD_1 : type_of% @tyD.eq_1 := @tyD.eq_1
@[simp 998] theorem si_tyD_2 : type_of% @tyD.eq_2 := @tyD.eq_2
@[simp 997] theorem si_tyD_3 : type_of% @tyD.eq_3 := @tyD.eq_3
@[simp 996] theorem si_tyD_4 : type_of% @tyD.eq_4 := @tyD.eq_4
@[simp 995] theorem si_tyD_5 : type_of% @tyD.eq_5 := @tyD.eq_5
@[simp 994] theorem si_tyD_6 : type_of% @tyD.eq_6 := @tyD.eq_6
@[simp 993] theorem si_tyD_7 : type_of% @tyD.eq_7 := @tyD.eq_7
@[simp 992] theorem si_tyD_8 : type_of% @tyD.eq_8 := @tyD.eq_8
@[simp 999] theorem si_boolR_1 : type_of% @boolR.eq_1 := @boolR.eq_1
@[simp 998] theorem si_boolR_2 : type_of% @boolR.eq_2 := @boolR.eq_2
@[simp 999] theorem si_retR_1 : type_of% @retR.eq_1 := @retR.eq_1
@[simp 998] theorem si_retR_2 : type_of% @retR.eq_2 := @retR.eq_2
@[simp 997] theorem si_retR_3 : type_of% @retR.eq_3 := @retR.eq_3
@[simp 996] theorem si_retR_4 : type_of% @retR.eq_4 := @retR.eq_4
@[simp 999] theorem si_takeR_1 : type_of% @takeR.eq_1 := @takeR.eq_1
@[simp 998] theorem si_takeR_2 : type_of% @takeR.eq_2 := @takeR.eq_2
@[simp 997] theorem si_takeR_3 : type_of% @takeR.eq_3 := @takeR.eq_3
@[simp 996] theorem si_takeR_4 : type_of% @takeR.eq_4 := @takeR.eq_4
@[simp 999] theorem si_keepR_1 : type_of% @keepR.eq_1 := @keepR.eq_1
@[simp 998] theorem si_keepR_2 : type_of% @keepR.eq_2 := @keepR.eq_2
@[simp 997] theorem si_keepR_3 : type_of% @keepR.eq_3 := @keepR.eq_3
@[simp 996] theorem si_keepR_4 : type_of% @keepR.eq_4 := @keepR.eq_4
@[simp 999] theorem si_lenD_1 : type_of% @lenD.eq_1 := @lenD.eq_1
@[simp 998] theorem si_lenD_2 : type_of% @lenD.eq_2 := @lenD.eq_2
@[simp 997] theorem si_lenD_3 : type_of% @lenD.eq_3 := @lenD.eq_3
@[simp 996] theorem si_lenD_4 : type_of% @lenD.eq_4 := @lenD.eq_4
@[simp 995] theorem si_lenD_5 : type_of% @lenD.eq_5 := @lenD.eq_5
@[simp 994] theorem si_lenD_6 : type_of% @lenD.eq_6 := @lenD.eq_6
@[simp 993] theorem si_lenD_7 : type_of% @lenD.eq_7 := @lenD.eq_7
@[simp 992] theorem si_lenD_8 : type_of% @lenD.eq_8 := @lenD.eq_8
@[simp 999] theorem si_M_isLi_1 : type_of% @M.isLi.eq_1 := @M.isLi.eq_1
@[simp 998] theorem si_M_isLi_2 : type_of% @M.isLi.eq_2 := @M.isLi.eq_2
@[simp 999] theorem si_apart_1 : type_of% @apart.eq_1 := @apart.eq_1
@[simp 999] theorem si_muE_1 : type_of% @muE.eq_1 := @muE.eq_1
@[simp 998] theorem si_muE_2 : type_of% @muE.eq_2 := @muE.eq_2
@[simp 997] theorem si_muE_3 : type_of% @muE.eq_3 := @muE.eq_3
@[simp 996] theorem si_muE_4 : type_of% @muE.eq_4 := @muE.eq_4
@[simp 995] theorem si_muE_5 : type_of% @muE.eq_5 := @muE.eq_5
@[simp 994] theorem si_muE_6 : type_of% @muE.eq_6 := @muE.eq_6
@[simp 993] theorem si_muE_7 : type_of% @muE.eq_7 := @muE.eq_7
@[simp 992] theorem si_muE_8 : type_of% @muE.eq_8 := @muE.eq_8
@[simp 991] theorem si_muE_9 : type_of% @muE.eq_9 := @muE.eq_9
@[simp 990] theorem si_muE_10 : type_of% @muE.eq_10 := @muE.eq_10
@[simp 989] theorem si_muE_11 : type_of% @muE.eq_11 := @muE.eq_11
@[simp 988] theorem si_muE_12 : type_of% @muE.eq_12 := @muE.eq_12
@[simp 987] theorem si_muE_13 : type_of% @muE.eq_13 := @muE.eq_13
@[simp 986] theorem si_muE_14 : type_of% @muE.eq_14 := @muE.eq_14
@[simp 985] theorem si_muE_15 : type_of% @muE.eq_15 := @muE.eq_15
@[simp 984] theorem si_muE_16 : type_of% @muE.eq_16 := @muE.eq_16
@[simp 983] theorem si_muE_17 : type_of% @muE.eq_17 := @muE.eq_17
@[simp 982] theorem si_muE_18 : type_of% @muE.eq_18 := @muE.eq_18
@[simp 981] theorem si_muE_19 : type_of% @muE.eq_19 := @muE.eq_19
@[simp 980] theorem si_muE_20 : type_of% @muE.eq_20 := @muE.eq_20
@[simp 979] theorem si_muE_21 : type_of% @muE.eq_21 := @muE.eq_21
@[simp 978] theorem si_muE_22 : type_of% @muE.eq_22 := @muE.eq_22
@[simp 977] theorem si_muE_23 : type_of% @muE.eq_23 := @muE.eq_23
@[simp 976] theorem si_muE_24 : type_of% @muE.eq_24 := @muE.eq_24
@[simp 975] theorem si_muE_25 : type_of% @muE.eq_25 := @muE.eq_25
@[simp 974] theorem si_muE_26 : type_of% @muE.eq_26 := @muE.eq_26
@[simp 973] theorem si_muE_27 : type_of% @muE.eq_27 := @muE.eq_27
@[simp 972] theorem si_muE_28 : type_of% @muE.eq_28 := @muE.eq_28
@[simp 971] theorem si_muE_29 : type_of% @muE.eq_29 := @muE.eq_29
@[simp 970] theorem si_muE_30 : type_of% @muE.eq_30 := @muE.eq_30
@[simp 969] theorem si_muE_31 : type_of% @muE.eq_31 := @muE.eq_31
@[simp 968] theorem si_muE_32 : type_of% @muE.eq_32 := @muE.eq_32
@[simp 967] theorem si_muE_33 : type_of% @muE.eq_33 := @muE.eq_33
@[simp 966] theorem si_muE_34 : type_of% @muE.eq_34 := @muE.eq_34
@[simp 965] theorem si_muE_35 : type_of% @muE.eq_35 := @muE.eq_35
@[simp 999] theorem si_muT_1 : type_of% @muT.eq_1 := @muT.eq_1
@[simp 998] theorem si_muT_2 : type_of% @muT.eq_2 := @muT.eq_2
@[simp 999] theorem si_muEs_1 : type_of% @muEs.eq_1 := @muEs.eq_1
@[simp 998] theorem si_muEs_2 : type_of% @muEs.eq_2 := @muEs.eq_2
@[simp 999] theorem si_muTs_1 : type_of% @muTs.eq_1 := @muTs.eq_1
@[simp 998] theorem si_muTs_2 : type_of% @muTs.eq_2 := @muTs.eq_2
@[simp 999] theorem si_cmpD_1 : type_of% @cmpD.eq_1 := @cmpD.eq_1
@[simp 998] theorem si_cmpD_2 : type_of% @cmpD.eq_2 := @cmpD.eq_2
@[simp 997] theorem si_cmpD_3 : type_of% @cmpD.eq_3 := @cmpD.eq_3
@[simp 996] theorem si_cmpD_4 : type_of% @cmpD.eq_4 := @cmpD.eq_4
@[simp 995] theorem si_cmpD_5 : type_of% @cmpD.eq_5 := @cmpD.eq_5
@[simp 994] theorem si_cmpD_6 : type_of% @cmpD.eq_6 := @cmpD.eq_6
@[simp 993] theorem si_cmpD_7 : type_of% @cmpD.eq_7 := @cmpD.eq_7
@[simp 992] theorem si_cmpD_8 : type_of% @cmpD.eq_8 := @cmpD.eq_8
@[simp 991] theorem si_cmpD_9 : type_of% @cmpD.eq_9 := @cmpD.eq_9
@[simp 990] theorem si_cmpD_10 : type_of% @cmpD.eq_10 := @cmpD.eq_10
@[simp 989] theorem si_cmpD_11 : type_of% @cmpD.eq_11 := @cmpD.eq_11
@[simp 988] theorem si_cmpD_12 : type_of% @cmpD.eq_12 := @cmpD.eq_12
@[simp 987] theorem si_cmpD_13 : type_of% @cmpD.eq_13 := @cmpD.eq_13
@[simp 986] theorem si_cmpD_14 : type_of% @cmpD.eq_14 := @cmpD.eq_14
@[simp 999] theorem si_forB_1 : type_of% @forB.eq_1 := @forB.eq_1
@[simp 999] theorem si_lcB_1 : type_of% @lcB.eq_1 := @lcB.eq_1
@[simp 999] theorem si_nlB_1 : type_of% @nlB.eq_1 := @nlB.eq_1
@[simp 999] theorem si_foLoop_1 : type_of% @foLoop.eq_1 := @foLoop.eq_1
@[simp 998] theorem si_foLoop_2 : type_of% @foLoop.eq_2 := @foLoop.eq_2
@[simp 999] theorem si_lcLoop_1 : type_of% @lcLoop.eq_1 := @lcLoop.eq_1
@[simp 998] theorem si_lcLoop_2 : type_of% @lcLoop.eq_2 := @lcLoop.eq_2
@[simp 999] theorem si_nlLoop_1 : type_of% @nlLoop.eq_1 := @nlLoop.eq_1
@[simp 998] theorem si_nlLoop_2 : type_of% @nlLoop.eq_2 := @nlLoop.eq_2
@[simp 999] theorem si_bindP_1 : type_of% @bindP.eq_1 := @bindP.eq_1
@[simp 998] theorem si_bindP_2 : type_of% @bindP.eq_2 := @bindP.eq_2
@[simp 997] theorem si_bindP_3 : type_of% @bindP.eq_3 := @bindP.eq_3
@[simp 999] theorem si_bindPs_1 : type_of% @bindPs.eq_1 := @bindPs.eq_1
@[simp 998] theorem si_bindPs_2 : type_of% @bindPs.eq_2 := @bindPs.eq_2
@[simp 997] theorem si_bindPs_3 : type_of% @bindPs.eq_3 := @bindPs.eq_3
@[simp 999] theorem si_itR_1 : type_of% @itR.eq_1 := @itR.eq_1
@[simp 998] theorem si_itR_2 : type_of% @itR.eq_2 := @itR.eq_2
@[simp 997] theorem si_itR_3 : type_of% @itR.eq_3 := @itR.eq_3
@[simp 999] theorem si_putI_1 : type_of% @putI.eq_1 := @putI.eq_1
@[simp 998] theorem si_putI_2 : type_of% @putI.eq_2 := @putI.eq_2
@[simp 997] theorem si_putI_3 : type_of% @putI.eq_3 := @putI.eq_3
@[simp 999] theorem si_P_slots_1 : type_of% @P.slots.eq_1 := @P.slots.eq_1
@[simp 998] theorem si_P_slots_2 : type_of% @P.slots.eq_2 := @P.slots.eq_2
@[simp 999] theorem si_P_slotsL_1 : type_of% @P.slotsL.eq_1 := @P.slotsL.eq_1
@[simp 998] theorem si_P_slotsL_2 : type_of% @P.slotsL.eq_2 := @P.slotsL.eq_2
@[simp 999] theorem si_muS_1 : type_of% @muS.eq_1 := @muS.eq_1
@[simp 998] theorem si_muS_2 : type_of% @muS.eq_2 := @muS.eq_2
@[simp 997] theorem si_muS_3 : type_of% @muS.eq_3 := @muS.eq_3
@[simp 996] theorem si_muS_4 : type_of% @muS.eq_4 := @muS.eq_4
@[simp 995] theorem si_muS_5 : type_of% @muS.eq_5 := @muS.eq_5
@[simp 994] theorem si_muS_6 : type_of% @muS.eq_6 := @muS.eq_6
@[simp 993] theorem si_muS_7 : type_of% @muS.eq_7 := @muS.eq_7
@[simp 992] theorem si_muS_8 : type_of% @muS.eq_8 := @muS.eq_8
@[simp 991] theorem si_muS_9 : type_of% @muS.eq_9 := @muS.eq_9
@[simp 990] theorem si_muS_10 : type_of% @muS.eq_10 := @muS.eq_10
@[simp 989] theorem si_muS_11 : type_of% @muS.eq_11 := @muS.eq_11
@[simp 988] theorem si_muS_12 : type_of% @muS.eq_12 := @muS.eq_12
@[simp 987] theorem si_muS_13 : type_of% @muS.eq_13 := @muS.eq_13
@[simp 986] theorem si_muS_14 : type_of% @muS.eq_14 := @muS.eq_14
@[simp 985] theorem si_muS_15 : type_of% @muS.eq_15 := @muS.eq_15
@[simp 984] theorem si_muS_16 : type_of% @muS.eq_16 := @muS.eq_16
@[simp 983] theorem si_muS_17 : type_of% @muS.eq_17 := @muS.eq_17
@[simp 982] theorem si_muS_18 : type_of% @muS.eq_18 := @muS.eq_18
@[simp 981] theorem si_muS_19 : type_of% @muS.eq_19 := @muS.eq_19
@[simp 980] theorem si_muS_20 : type_of% @muS.eq_20 := @muS.eq_20
@[simp 979] theorem si_muS_21 : type_of% @muS.eq_21 := @muS.eq_21
@[simp 999] theorem si_muSs_1 : type_of% @muSs.eq_1 := @muSs.eq_1
@[simp 998] theorem si_muSs_2 : type_of% @muSs.eq_2 := @muSs.eq_2
@[simp 999] theorem si_muO_1 : type_of% @muO.eq_1 := @muO.eq_1
@[simp 998] theorem si_muO_2 : type_of% @muO.eq_2 := @muO.eq_2
@[simp 999] theorem si_asS_1 : type_of% @asS.eq_1 := @asS.eq_1
@[simp 998] theorem si_asS_2 : type_of% @asS.eq_2 := @asS.eq_2
@[simp 997] theorem si_asS_3 : type_of% @asS.eq_3 := @asS.eq_3
@[simp 996] theorem si_asS_4 : type_of% @asS.eq_4 := @asS.eq_4
@[simp 995] theorem si_asS_5 : type_of% @asS.eq_5 := @asS.eq_5
@[simp 994] theorem si_asS_6 : type_of% @asS.eq_6 := @asS.eq_6
@[simp 993] theorem si_asS_7 : type_of% @asS.eq_7 := @asS.eq_7
@[simp 992] theorem si_asS_8 : type_of% @asS.eq_8 := @asS.eq_8
@[simp 991] theorem si_asS_9 : type_of% @asS.eq_9 := @asS.eq_9
@[simp 990] theorem si_asS_10 : type_of% @asS.eq_10 := @asS.eq_10
@[simp 989] theorem si_asS_11 : type_of% @asS.eq_11 := @asS.eq_11
@[simp 988] theorem si_asS_12 : type_of% @asS.eq_12 := @asS.eq_12
@[simp 987] theorem si_asS_13 : type_of% @asS.eq_13 := @asS.eq_13
@[simp 986] theorem si_asS_14 : type_of% @asS.eq_14 := @asS.eq_14
@[simp 985] theorem si_asS_15 : type_of% @asS.eq_15 := @asS.eq_15
@[simp 984] theorem si_asS_16 : type_of% @asS.eq_16 := @asS.eq_16
@[simp 983] theorem si_asS_17 : type_of% @asS.eq_17 := @asS.eq_17
@[simp 982] theorem si_asS_18 : type_of% @asS.eq_18 := @asS.eq_18
@[simp 981] theorem si_asS_19 : type_of% @asS.eq_19 := @asS.eq_19
@[simp 980] theorem si_asS_20 : type_of% @asS.eq_20 := @asS.eq_20
@[simp 979] theorem si_asS_21 : type_of% @asS.eq_21 := @asS.eq_21
@[simp 999] theorem si_asSs_1 : type_of% @asSs.eq_1 := @asSs.eq_1
@[simp 998] theorem si_asSs_2 : type_of% @asSs.eq_2 := @asSs.eq_2
@[simp 999] theorem si_subD_1 : type_of% @subD.eq_1 := @subD.eq_1
@[simp 998] theorem si_subD_2 : type_of% @subD.eq_2 := @subD.eq_2
@[simp 997] theorem si_subD_3 : type_of% @subD.eq_3 := @subD.eq_3
@[simp 996] theorem si_subD_4 : type_of% @subD.eq_4 := @subD.eq_4
@[simp 995] theorem si_subD_5 : type_of% @subD.eq_5 := @subD.eq_5
@[simp 999] theorem si_atD_1 : type_of% @atD.eq_1 := @atD.eq_1
@[simp 999] theorem si_ixOf_1 : type_of% @ixOf.eq_1 := @ixOf.eq_1
@[simp 999] theorem si_R_ofOpt_1 : type_of% @R.ofOpt.eq_1 := @R.ofOpt.eq_1
@[simp 998] theorem si_R_ofOpt_2 : type_of% @R.ofOpt.eq_2 := @R.ofOpt.eq_2
@[simp 999] theorem si_binD_1 : type_of% @binD.eq_1 := @binD.eq_1
@[simp 998] theorem si_binD_2 : type_of% @binD.eq_2 := @binD.eq_2
@[simp 997] theorem si_binD_3 : type_of% @binD.eq_3 := @binD.eq_3
@[simp 996] theorem si_binD_4 : type_of% @binD.eq_4 := @binD.eq_4
@[simp 995] theorem si_binD_5 : type_of% @binD.eq_5 := @binD.eq_5
@[simp 994] theorem si_binD_6 : type_of% @binD.eq_6 := @binD.eq_6
@[simp 993] theorem si_binD_7 : type_of% @binD.eq_7 := @binD.eq_7
@[simp 992] theorem si_binD_8 : type_of% @binD.eq_8 := @binD.eq_8
@[simp 991] theorem si_binD_9 : type_of% @binD.eq_9 := @binD.eq_9
@[simp 990] theorem si_binD_10 : type_of% @binD.eq_10 := @binD.eq_10
@[simp 989] theorem si_binD_11 : type_of% @binD.eq_11 := @binD.eq_11
@[simp 988] theorem si_binD_12 : type_of% @binD.eq_12 := @binD.eq_12
@[simp 999] theorem si_intR_1 : type_of% @intR.eq_1 := @intR.eq_1
@[simp 998] theorem si_intR_2 : type_of% @intR.eq_2 := @intR.eq_2
@[simp 999] theorem si_M_seq_1 : type_of% @M.seq.eq_1 := @M.seq.eq_1
@[simp 998] theorem si_M_seq_2 : type_of% @M.seq.eq_2 := @M.seq.eq_2
@[simp 997] theorem si_M_seq_3 : type_of% @M.seq.eq_3 := @M.seq.eq_3
@[simp] theorem si_ex_for : type_of% @ex_for := @ex_for
@[simp] theorem si_ev_lc : type_of% @ev_lc := @ev_lc
@[simp] theorem si_ev_nl : type_of% @ev_nl := @ev_nl
end TR
set_option linter.all false
namespace LB
open PySem TR
theorem is_integer_int (v : Int) : d_f_is_integer [.int v] = .ok (.pu (.bool true)) := by rfl
@[simp] theorem ord_ii (a b : Int) (f : D → D → Bool) : ordC (.pu (.int a)) (.pu (.int b)) f = .ok (f (.int a) (.int b)) := by
  simp [ordC, okD, W.alike, notNon, PyData.plain, PyData.depth]
@[simp] theorem lt_ii (a b : Int) : W.dataLt (.int a) (.int b) = decide (a < b) := by
  simp [W.dataLt, W.keyToks, PyProof.Rows.lexLt, PyProof.Rows.itemOrd, PyProof.Rows.itemLt]
@[simp] theorem eqv_ii (a b : Int) : PyData.eqv (.int a) (.int b) = decide (a = b) := by simp [PyData.eqv]; first | done | rfl | skip
theorem is_in_int (v a b : Int) (h : a ≤ v) (h2 : v ≤ b) : d_f_is_in [.int v, .int a, .int b] = .ok (.pu (.bool true)) := by
  simp [d_f_is_in, b_f_is_in, g_f_is_in, is_integer_int, h, h2, Int.not_lt]
theorem is_list_tup (xs : List D) (a b : Int) (h : a ≤ xs.length) (h2 : (xs.length : Int) ≤ b) : d_f_is_list [.tuple xs, .int a, .int b] = .ok (.pu (.bool true)) := by
  simp [d_f_is_list, b_f_is_list, g_f_is_list, h, h2, Int.not_lt]
theorem need_yard_ok (c s : Int) (h1 : 1 ≤ c) (h2 : c ≤ 7) (h3 : 2 ≤ s) (h4 : s ≤ 8) : d_f_need_yard [.tuple [.int c, .int s]] = .ok (.pu .none) := by
  simp [d_f_need_yard, b_f_need_yard, g_f_need_yard, is_in_int, is_list_tup, h1, h2, h3, h4, subD, atD, ixOf, R.ofOpt]
end LB
set_option linter.all false
namespace LB
open PySem TR
def trD (t : List Nat) : D := .tuple (t.map fun c => .int (c : Nat))
def stD (st : List (List Nat)) : D := .tuple (st.map trD)
structure Good (c s : Nat) (st : List (List Nat)) : Prop where
  hs : st.length = s
  hc : st.flatten.Perm (List.range c)
def metD (xs : List Nat) : List (D × D) := xs.map fun (c : Nat) => (.int c, .bool true)
theorem metD_fit (xs : List Nat) (c : Nat) : keyFit (metD xs) (.int c) = true := by
  simp [keyFit, atomKey, metD]
theorem metD_look (xs : List Nat) (c : Nat) (h : c ∉ xs) : dLook (metD xs) (.int c) = none := by
  simp only [dLook, metD, Option.map_eq_none_iff, List.find?_eq_none, List.mem_map]
  rintro x ⟨a, ha, rfl⟩
  simp
  intro e; exact h (Int.ofNat.inj e ▸ ha)
theorem metD_put (xs : List Nat) (c : Nat) (h : c ∉ xs) : dPut (metD xs) (.int c) (.bool true) = metD (xs ++ [c]) := by
  have : ((metD xs).any fun kv => PyData.eqv kv.1 (.int c)) = false := by
    simp only [metD, List.any_map, List.any_eq_false, Function.comp]
    intro a ha
    simp
    intro e; exact h (Int.ofNat.inj e ▸ ha)
  simp only [dPut, this]
  simp [metD]
def bIn : List S := [(.ifs (.or (.not (.call 1 [(.var 7), (.cst (.int 0)), (.bin .sub (.var 2) (.cst (.int 1)))])) (.cmp .inn (.var 7) (.var 4))) [(.do_ (.star (.cst .none)))] []), (.setI 4 (.var 7) (.cst (.bool true)))]
theorem met_all (t : List Nat) (c : Nat) (a0 a1 a2 a5 a6 : Option M) (hc : ∀ k ∈ t, k < c) : ∀ (seen : List Nat) (a4 : Option M) , (seen ++ t).Nodup → seen.length + t.length < big →
    ∃ e, foLoop (forB g_f_need_trains (.v 7) bIn) (t.map fun (c : Nat) => .int c)
      [a0, a1, some (.pu (.int c)), a2, some (.di (metD seen)), a5, a6, a4] = .ok (.nx [a0, a1, some (.pu (.int c)), a2, some (.di (metD (seen ++ t))), a5, a6, e]) := by
  induction t with
  | nil => intro seen a4 _ _; exact ⟨a4, by simp⟩
  | cons k t ih =>
    intro seen a4 hn hb
    have hk : k ∉ seen := by
      intro h; simp [List.nodup_append] at hn; exact (hn.2.2 k h).1 rfl
    have hlt := hc k (by simp)
    have h1 : (k : Int) ≤ c - 1 := by omega
    obtain ⟨e, he⟩ := ih (fun j hj => hc j (by simp [hj])) (seen ++ [k]) (some (.pu (.int k))) (by simpa using hn) (by simp at hb ⊢; omega)
    refine ⟨e, ?_⟩
    rw [List.append_assoc, List.singleton_append] at he
    rw [← he]
    have hl : (metD seen).length < big := by simp [metD]; simp at hb; omega
    simp [bIn, g_f_need_trains, is_in_int, h1, metD_fit, metD_look _ _ hk, metD_put _ _ hk, hl]
end LB
set_option linter.all false
namespace LB
open PySem TR
def bOut : List S := [(.ifs (.not (.call 0 [(.var 6), (.cst (.int 0)), (.var 2)])) [(.do_ (.star (.cst .none)))] []), (.for_ (.v 7) (.var 6) bIn)]
theorem out_all (c : Nat) (hc7 : c ≤ 7) (a0 a1 a3 : Option M) (st : List (List Nat)) (hc : ∀ t ∈ st, ∀ k ∈ t, k < c) (hl : ∀ t ∈ st, t.length ≤ c) : ∀ (n : Nat) (seen : List Nat) (a5 a6 a7 : Option M),
    (seen ++ st.flatten).Nodup → seen.length + st.flatten.length ≤ c →
    ∃ e5 e6 e7, foLoop (forB g_f_need_trains (.t [(.v 5), (.v 6)]) bOut) (enmD (st.map trD) n)
      [a0, a1, some (.pu (.int c)), a3, some (.di (metD seen)), a5, a6, a7] = .ok (.nx [a0, a1, some (.pu (.int c)), a3, some (.di (metD (seen ++ st.flatten))), e5, e6, e7]) := by
  induction st with
  | nil => intro n seen a5 a6 a7 _ _; exact ⟨a5, a6, a7, by simp [enmD]⟩
  | cons t st ih =>
    intro n seen a5 a6 a7 hn hb
    have ht := hl t (by simp)
    have hlt : (t.length : Int) ≤ c := by omega
    obtain ⟨e, he⟩ := met_all t c a0 a1 a3 (some (.pu (.int n))) (some (.pu (trD t))) (hc t (by simp)) seen a7 (by simp at hn ⊢; exact hn.sublist (by simp)) (by simp [big] at hb ⊢; omega)
    obtain ⟨e5, e6, e7, h7⟩ := ih (fun t ht => hc t (by simp [ht])) (fun t ht => hl t (by simp [ht])) (n + 1) (seen ++ t) (some (.pu (.int n))) (some (.pu (trD t))) e (by simpa using hn) (by simp at hb ⊢; omega)
    refine ⟨e5, e6, e7, ?_⟩
    simp only [List.flatten_cons, ← List.append_assoc]
    rw [← h7]
    have hf : g_f_need_trains[0]? = some (.pr d_f_is_list) := rfl
    have hL : d_f_is_list [trD t, .int 0, .int c] = .ok (.pu (.bool true)) := is_list_tup _ _ _ (by simp) (by simpa using hlt)
    have hs : itR (.pu (trD t)) = .ok (t.map fun (c : Nat) => .int c) := rfl
    simp [enmD, bOut, hf, hL, -si_itR_1, hs, he]
end LB
set_option linter.all false
namespace LB
open PySem TR
def ydD (c s : Nat) : D := .tuple [.int c, .int s]
theorem need_trains_ok (c s : Nat) (st : List (List Nat)) (h7 : c ≤ 7) (h : Good c s st) : d_f_need_trains [ydD c s, stD st] = .ok (.pu .none) := by
  have hn : st.flatten.Nodup := h.hc.nodup_iff.2 List.nodup_range
  have hlen : st.flatten.length = c := by rw [h.hc.length_eq, List.length_range]
  have hlt : ∀ t ∈ st, ∀ k ∈ t, k < c := fun t ht k hk => by
    have := (h.hc.mem_iff (a := k)).1 (List.mem_flatten.2 ⟨t, ht, hk⟩)
    simpa using this
  have hl : ∀ t ∈ st, t.length ≤ c := fun t ht => by
    rw [← hlen]; exact (List.sublist_flatten_of_mem ht).length_le
  obtain ⟨e5, e6, e7, h8⟩ := out_all c h7 (some (.pu (ydD c s))) (some (.pu (stD st))) (some (.pu (.int s))) st hlt hl 0 [] none none none (by simpa using hn) (by simp [hlen])
  have hL : d_f_is_list [stD st, .int s, .int s] = .ok (.pu (.bool true)) := is_list_tup _ _ _ (by simp [h.hs]) (by simp [h.hs])
  have hf : g_f_need_trains[0]? = some (.pr d_f_is_list) := rfl
  have hs : M.seq (.pu (stD st)) = .ok (st.map trD) := rfl
  have hm : metD [] = [] := rfl
  have hm2 : (metD st.flatten).length = c := by simp only [metD, List.length_map, hlen]
  simp only [ydD, List.nil_append, hm] at h8
  have hb : b_f_need_trains.getD 3 .pass = .for_ (.t [(.v 5), (.v 6)]) (.enm (.var 1)) bOut := rfl
  simp only [bOut, bIn] at h8
  simp [d_f_need_trains, b_f_need_trains, ydD, hf, hL, hs, itR, h8, hm2]
end LB
set_option linter.all false
namespace LB
open PySem TR
structure GoodY (c s : Nat) : Prop where
  c1 : 1 ≤ c
  c7 : c ≤ 7
  s2 : 2 ≤ s
  s8 : s ≤ 8
theorem need_state_ok (c s : Nat) (st : List (List Nat)) (hy : GoodY c s) (h : Good c s st) : d_f_need_state [ydD c s, stD st] = .ok (.pu .none) := by
  have h1 : d_f_need_yard [ydD c s] = .ok (.pu .none) := need_yard_ok c s (by have := hy.c1; omega) (by have := hy.c7; omega) (by have := hy.s2; omega) (by have := hy.s8; omega)
  have h2 := need_trains_ok c s st hy.c7 h
  simp [d_f_need_state, b_f_need_state, g_f_need_state, h1, h2]
theorem lcLoop_f {f : D → TR.Env → R (Option D × TR.Env)} (g : D → Option D) (I : TR.Env → Prop) (xs : List D)
    (h : ∀ x ∈ xs, ∀ en, I en → ∃ e2, f x en = .ok (g x, e2) ∧ I e2) : ∀ env, I env → ∃ e2, lcLoop f xs env = .ok (xs.filterMap g, e2) ∧ I e2 := by
  induction xs with
  | nil => intro env h0; exact ⟨env, by simp, h0⟩
  | cons x xs ih =>
    intro env h0
    obtain ⟨e2, h1, h2⟩ := h x (by simp) env h0
    obtain ⟨e3, h3, h4⟩ := ih (fun y hy => h y (by simp [hy])) e2 h2
    refine ⟨e3, ?_, h4⟩
    cases hg : g x <;> simp [h1, h3, hg]
end LB
set_option linter.all false
namespace LB
open PySem TR
def hasT (k : Nat) (t : List Nat) : Bool := decide (k ∈ t)
def keepSt (k : Nat) : D → Option D
  | .tuple [i, .tuple cs] => if cs.any (fun z => PyData.eqv z (.int k)) then some i else none
  | _ => none
theorem any_trD (t : List Nat) (k : Nat) : ((t.map fun (c : Nat) => PyData.int c).any fun z => PyData.eqv z (.int k)) = decide (k ∈ t) := by
  induction t with
  | nil => simp
  | cons a t ih =>
    simp only [List.map_cons, List.any_cons, ih, eqv_ii]
    rw [Bool.eq_iff_iff]
    simp
    constructor
    · rintro (h | h)
      · exact .inl (Int.ofNat.inj h).symm
      · exact .inr h
    · rintro (h | h)
      · exact .inl (by rw [h])
      · exact .inr h
theorem keep_head (k : Nat) (st : List (List Nat)) (n : Nat) (h : ∃ t ∈ st, k ∈ t) :
    ((enmD (st.map trD) n).filterMap (keepSt k))[0]? = some (.int ((n + st.findIdx (hasT k) : Nat) : Int)) := by
  induction st generalizing n with
  | nil => simp at h
  | cons t st ih =>
    simp only [List.map_cons, enmD]
    by_cases hk : k ∈ t
    · simp [keepSt, trD, any_trD, hk, List.findIdx_cons, hasT, -List.any_map]
    · have := ih (n + 1) (by simpa [hk] using h)
      simp [keepSt, trD, any_trD, hk, List.findIdx_cons, hasT, -List.any_map] at this ⊢
      rw [this]; congr 2; omega
end LB
set_option linter.all false
namespace LB
open PySem TR
theorem plainAll_of (xs : List D) (h : ∀ x ∈ xs, x.plain = true) : PyData.plainAll xs = true := by
  induction xs with
  | nil => simp [PyData.plainAll]
  | cons x xs ih => simp [PyData.plainAll, h x (by simp), ih (fun y hy => h y (by simp [hy]))]
theorem depthAll_of (n : Nat) (xs : List D) (h : ∀ x ∈ xs, x.depth ≤ n) : PyData.depthAll xs ≤ n := by
  induction xs with
  | nil => simp [PyData.depthAll]
  | cons x xs ih => 
    have h1 := h x (by simp)
    have h2 := ih (fun y hy => h y (by simp [hy]))
    simp only [PyData.depthAll]; omega
theorem okD_int (i : Int) : okD (.int i) = true := by simp [okD, PyData.plain, PyData.depth]
theorem trD_plain (t : List Nat) : (trD t).plain = true := by
  simp only [trD, PyData.plain]
  exact plainAll_of _ (by simp [PyData.plain])
theorem trD_depth (t : List Nat) : (trD t).depth ≤ 3 := by
  have := depthAll_of 2 (t.map fun (c : Nat) => PyData.int c) (by simp [PyData.depth])
  simp only [trD, PyData.depth]; omega
theorem okD_trD (t : List Nat) : okD (trD t) = true := by
  have := trD_depth t
  simp [okD, trD_plain]; omega
theorem okD_stD (st : List (List Nat)) : okD (stD st) = true := by
  have h1 := depthAll_of 3 (st.map trD) (by simp [trD_depth])
  have h2 := plainAll_of (st.map trD) (by simp [trD_plain])
  simp only [okD, stD, PyData.plain, PyData.depth, h2]; simp; omega
theorem keep_step (st : List (List Nat)) (k : Nat) (a0 : Option M) : ∀ n : Nat, ∀ x ∈ enmD (st.map trD) n, ∀ en, (∃ a2 a3, en = [a0, some (.pu (.int k)), a2, a3]) →
    ∃ e2, lcB g_f_station_in [2, 3] (.var 2) (.t [(.v 2), (.v 3)]) [(.cmp .inn (.var 1) (.var 3))] x en = .ok (keepSt k x, e2) ∧ (∃ a2 a3, e2 = [a0, some (.pu (.int k)), a2, a3]) := by
  induction st with
  | nil => intro n x hx; simp [enmD] at hx
  | cons t st ih =>
    intro n x hx en hen
    simp only [List.map_cons, enmD, List.mem_cons] at hx
    rcases hx with rfl | hx
    · obtain ⟨a2, a3, rfl⟩ := hen
      have h1 := okD_trD t
      simp only [trD] at h1
      by_cases hk : k ∈ t <;> simp [wipeE, trD, keepSt, any_trD, hk, -List.any_map, okD_int, h1]
    · exact ih (n + 1) x hx en hen
end LB
set_option linter.all false
namespace LB
open PySem TR
theorem enmD_len (xs : List D) : ∀ n, (enmD xs n).length = xs.length := by
  induction xs with
  | nil => intro n; simp [enmD]
  | cons x xs ih => intro n; simp [enmD, ih]
theorem station_in_ok (st : List (List Nat)) (k : Nat) (h : ∃ t ∈ st, k ∈ t) (hb : st.length ≤ 1000) :
    d_f_station_in [stD st, .int k] = .ok (.pu (.int (st.findIdx (hasT k) : Nat))) := by
  obtain ⟨e2, h1, a2, a3, rfl⟩ := lcLoop_f (keepSt k) _ _ (fun x hx en hen => keep_step st k (some (.pu (stD st))) 0 x hx en hen) [some (.pu (stD st)), some (.pu (.int k)), none, none] ⟨_, _, rfl⟩
  have h0 := keep_head k st 0 h
  have hs : M.seq (.pu (stD st)) = .ok (st.map trD) := rfl
  have hl : ((enmD (st.map trD) 0).filterMap (keepSt k)).length ≤ big := by
    refine Nat.le_trans (List.length_filterMap_le _ _) ?_
    rw [enmD_len, List.length_map, big]; omega
  have hn : nlAt (.li (enmD (st.map trD) 0)) (.enm (.var 0)) = none := rfl
  simp only [Nat.zero_add] at h0
  have hp : 0 < ((enmD (st.map trD) 0).filterMap (keepSt k)).length := by
    rcases Nat.eq_zero_or_pos ((enmD (st.map trD) 0).filterMap (keepSt k)).length with h | h
    · rw [List.length_eq_zero_iff] at h; rw [h] at h0; simp at h0
    · exact h
  simp [d_f_station_in, b_f_station_in, den, subs, hn, hs, h1, hl, backE, M.isNl]
  rw [if_pos hp]; simp [h0]
end LB
set_option linter.all false
namespace LB
open PySem TR
theorem findIdx_lt (c s k : Nat) (st : List (List Nat)) (h : Good c s st) (hk : k < c) : st.findIdx (hasT k) < st.length := by
  have := (h.hc.mem_iff (a := k)).2 (by simpa using hk)
  rw [List.findIdx_lt_length]
  simpa [List.mem_flatten, hasT] using this
theorem sub_stD (st : List (List Nat)) (i : Nat) (h : i < st.length) : subD (.pu (stD st)) (.pu (.int i)) = .ok (.pu (trD (st.getD i []))) := by
  simp [stD, h, List.getD]
end LB
set_option linter.all false
namespace LB
open PySem TR
end LB
set_option linter.all false
namespace LB
open PySem TR
theorem rgB_ok (c : Nat) (h : c ≤ 1000) : rgB 0 (c : Int) = true := by
  simp only [rgB, rgC, Bool.and_eq_true, decide_eq_true_eq]; omega
theorem rgC_ok (c : Nat) (h : c ≤ 1000) : rgC 0 (c : Int) = true := by
  simp only [rgC, decide_eq_true_eq]; omega
theorem mul_ok (x : D) (s : Nat) (h2 : 2 ≤ s) (h8 : s ≤ 8) : binD .mul (.pu (.tuple [x])) (.pu (.int ((s : Int) - 1))) = .ok (.pu (.tuple (List.replicate ((s : Int) - 1).toNat [x]).flatten)) := by
  simp only [binD]; rw [if_pos]; refine ⟨by omega, by omega, by simp⟩
theorem add_ok (x : D) (xs : List D) (h : xs.length ≤ 1000) : binD .add (.pu (.tuple [x])) (.pu (.tuple xs)) = .ok (.pu (.tuple (x :: xs))) := by
  simp only [binD]; rw [if_pos]; rfl; simp only [big, List.length_singleton]; omega
theorem mul_ok' (x : D) (s : Nat) (h2 : 2 ≤ s) (h8 : s ≤ 8) : binD .mul (.pu (.tuple [x])) (.pu (.int ((s : Int) - 1))) = .ok (.pu (.tuple (List.replicate (s - 1) x))) := by
  rw [mul_ok x s h2 h8]; simp
theorem e1_ev (c s : Nat) (hy : GoodY c s) : ev g_f_first_state (.rgl true [(.sub (.var 0) (.cst (.int 0)))]) [some (.pu (ydD c s))] = .ok (.pu (.tuple (rngD 0 c)), [], [some (.pu (ydD c s))]) := by
  have h2 := rgB_ok c (by have := hy.c7; omega)
  have h := ev_rgl_ok (G := g_f_first_state) (t := true) (as := [(.sub (.var 0) (.cst (.int 0)))]) (env := [some (.pu (ydD c s))]) (ms := [.pu (.int c)]) (rs := []) (e1 := [some (.pu (ydD c s))]) (a := 0) (b := c) (by simp [ydD]) rfl h2
  exact h
theorem e5_ev (c s : Nat) (hy : GoodY c s) : ev g_f_first_state (.tup [(.rgl true [(.sub (.var 0) (.cst (.int 0)))])]) [some (.pu (ydD c s))] = .ok (.pu (.tuple [.tuple (rngD 0 c)]), [], [some (.pu (ydD c s))]) := by
  apply ev_tup1
  have h2 := e1_ev c s hy
  simp [h2]
theorem e6_ev (c s : Nat) (hy : GoodY c s) : ev g_f_first_state (.bin .mul (.tup [(.tup [])]) (.bin .sub (.sub (.var 0) (.cst (.int 1))) (.cst (.int 1)))) [some (.pu (ydD c s))] = .ok (.pu (.tuple (List.replicate (s - 1) (.tuple []))), [], [some (.pu (ydD c s))]) := by
  refine ev_bin_ok (e1 := [some (.pu (ydD c s))]) (ev_tup1 (d := .tuple []) (by simp)) (mb := .pu (.int ((s : Int) - 1))) (rb := []) (by simp [ydD]) (mul_ok' _ _ hy.s2 hy.s8)
theorem len_rep (s : Nat) (x : D) (h : s ≤ 8) : (List.replicate (s - 1) x).length ≤ 1000 := by
  rw [List.length_replicate]; omega
theorem add_fs (c s : Nat) (hy : GoodY c s) : binD .add (.pu (.tuple [.tuple (rngD 0 c)])) (.pu (.tuple (List.replicate (s - 1) (.tuple [])))) = .ok (.pu (.tuple (.tuple (rngD 0 c) :: List.replicate (s - 1) (.tuple [])))) :=
  add_ok _ _ (len_rep s _ hy.s8)
def eA : E := (.tup [(.rgl true [(.sub (.var 0) (.cst (.int 0)))])])
def eB : E := (.bin .mul (.tup [(.tup [])]) (.bin .sub (.sub (.var 0) (.cst (.int 1))) (.cst (.int 1))))
theorem q5 (c s : Nat) (hy : GoodY c s) : ev g_f_first_state eA [some (.pu (ydD c s))] = .ok (.pu (.tuple [.tuple (rngD 0 c)]), [], [some (.pu (ydD c s))]) := e5_ev c s hy
theorem q6 (c s : Nat) (hy : GoodY c s) : ev g_f_first_state eB [some (.pu (ydD c s))] = .ok (.pu (.tuple (List.replicate (s - 1) (.tuple []))), [], [some (.pu (ydD c s))]) := e6_ev c s hy
theorem q7 (c s : Nat) (hy : GoodY c s) : ev g_f_first_state (.bin .add eA eB) [some (.pu (ydD c s))] = .ok (.pu (.tuple (.tuple (rngD 0 c) :: List.replicate (s - 1) (.tuple []))), [], [some (.pu (ydD c s))]) := 
  ev_bin_ok (q5 c s hy) (q6 c s hy) (add_fs c s hy)
theorem q8 (c s : Nat) (hy : GoodY c s) : ev g_f_first_state (.bin .add (.tup [(.rgl true [(.sub (.var 0) (.cst (.int 0)))])]) (.bin .mul (.tup [(.tup [])]) (.bin .sub (.sub (.var 0) (.cst (.int 1))) (.cst (.int 1))))) [some (.pu (ydD c s))] = .ok (.pu (.tuple (.tuple (rngD 0 c) :: List.replicate (s - 1) (.tuple []))), [], [some (.pu (ydD c s))]) := q7 c s hy
theorem first_state_ok (c s : Nat) (hy : GoodY c s) : d_f_first_state [ydD c s] = .ok (.pu (.tuple (.tuple (rngD 0 c) :: List.replicate (s - 1) (.tuple [])))) := by
  have h1 : d_f_need_yard [ydD c s] = .ok (.pu .none) := need_yard_ok c s (by have := hy.c1; omega) (by have := hy.c7; omega) (by have := hy.s2; omega) (by have := hy.s8; omega)
  have hf : g_f_first_state[0]? = some (.pr d_f_need_yard) := rfl
  have h3 : ev g_f_first_state (.call 0 [(.var 0)]) [some (.pu (ydD c s))] = .ok (.pu .none, [], [some (.pu (ydD c s))]) := by simp [hf, h1]
  have h4 := ex_ret_ok (q8 c s hy) rfl
  have h5 : exs g_f_first_state b_f_first_state [some (.pu (ydD c s))] = _ := (exs_do h3).trans h4
  exact runP_ret h5
end LB
set_option linter.all false
namespace LB
open PySem TR
theorem ixOf_nat (n i : Nat) (h : i < n) : ixOf n (i : Int) = some i := by
  simp [h]
end LB
set_option linter.all false
namespace LB
open PySem TR
end LB
set_option linter.all false
namespace LB
open PySem TR
end LB
set_option linter.all false
namespace LB
open PySem TR
end LB
set_option linter.all false
namespace LB
open PySem TR
def mx (st : List (List Nat)) : Nat := (st.map List.length).foldl max 0
end LB
set_option linter.all false
namespace LB
open PySem TR
end LB
set_option linter.all false
namespace LB
open PySem TR
def rowM (ns : List Int) (i : Nat) (sd rs : Int) : M := .li [.list (ns.map .int), .int i, .int sd, .int rs]
theorem bd_add (a b : Int) : binD .add (.pu (.int a)) (.pu (.int b)) = .ok (.pu (.int (a + b))) := rfl
theorem bd_sub (a b : Int) : binD .sub (.pu (.int a)) (.pu (.int b)) = .ok (.pu (.int (a - b))) := rfl
theorem bd_mod (a b : Int) (h : b ≠ 0) : binD .mod (.pu (.int a)) (.pu (.int b)) = .ok (.pu (.int (a.fmod b))) := by
  simp only [binD]; rw [if_pos h]
theorem bd_fdiv (a b : Int) (h : 0 < b) (h2 : b < 2000000) : binD .fdiv (.pu (.int a)) (.pu (.int b)) = .ok (.pu (.int (a.fdiv b))) := by
  simp only [binD]; rw [if_pos]; omega
theorem bd_mul (a : Int) : binD .mul (.pu (.int a)) (.pu (.int 48271)) = .ok (.pu (.int (a * 48271))) := by
  simp only [binD]; rw [if_pos]
  have : okBits 48271 = true := by decide
  rw [this, Bool.or_true]
theorem bd_pow : binD .pow (.pu (.int 10)) (.pu (.int 18)) = .ok (.pu (.int 1000000000000000000)) := by
  simp only [binD]; rw [if_pos (by decide)]; rfl
theorem fmod_b (a k : Int) (h : 0 < k) : 0 ≤ a.fmod k ∧ a.fmod k < k := ⟨Int.fmod_nonneg_of_pos _ h, Int.fmod_lt_of_pos _ h⟩
theorem ord_gt (a b : Int) : cmpD .gt (.pu (.int a)) (.pu (.int b)) = .ok (decide (b < a)) := by
  simp
theorem ord_ge (a b : Int) : cmpD .ge (.pu (.int a)) (.pu (.int b)) = .ok (!decide (a < b)) := by
  simp
theorem taken_A (ns : List Int) (i : Nat) (sd rs k : Int) (h1 : 0 < k) (h2 : k < 2000000) (hr : 0 < rs) :
    d_L_taken (rowM ns i sd rs) [.int k] = .ok (.pu (.int (rs.fmod k)), rowM ns i sd (rs.fdiv k)) := by
  have hm := bd_mod rs k (by omega)
  have hd := bd_fdiv rs k h1 h2
  simp [d_L_taken, runW, b_L_taken, rowM, -si_binD_1, -si_binD_2, -si_binD_3, -si_binD_4, -si_binD_5, -si_binD_6, -si_binD_7, -si_binD_8, -si_binD_9, -si_binD_10, -si_binD_11, -si_binD_12, -si_cmpD_1, -si_cmpD_2, -si_cmpD_3, -si_cmpD_4, -si_cmpD_5, -si_cmpD_6, -si_cmpD_7, -si_cmpD_8, -si_cmpD_9, -si_cmpD_10, -si_cmpD_11, -si_cmpD_12, -si_cmpD_13, -si_cmpD_14, ord_gt, hr, hm, hd, intM]
theorem taken_B (ns : List Int) (i : Nat) (sd rs k : Int) (h1 : 0 < k) (h2 : k < 2000000) (hr : ¬ 0 < rs) (hi : ns.length < i + 1) :
    d_L_taken (rowM ns i sd rs) [.int k] = .ok (.pu (.int ((((sd * 48271 + 11).fmod 2147483647).fdiv 7).fmod k)), rowM ns (i + 1) ((sd * 48271 + 11).fmod 2147483647) rs) := by
  have hm := fun a => bd_mod a k (by omega)
  have hm2 := fun a => bd_mod a 2147483647 (by decide)
  have hd := fun a => bd_fdiv a 7 (by decide) (by decide)
  have hi2 : (ns.length : Int) < (i : Int) + 1 := by omega
  simp [d_L_taken, runW, b_L_taken, rowM, -si_binD_1, -si_binD_2, -si_binD_3, -si_binD_4, -si_binD_5, -si_binD_6, -si_binD_7, -si_binD_8, -si_binD_9, -si_binD_10, -si_binD_11, -si_binD_12, -si_cmpD_1, -si_cmpD_2, -si_cmpD_3, -si_cmpD_4, -si_cmpD_5, -si_cmpD_6, -si_cmpD_7, -si_cmpD_8, -si_cmpD_9, -si_cmpD_10, -si_cmpD_11, -si_cmpD_12, -si_cmpD_13, -si_cmpD_14, ord_gt, hr, hm, hm2, hd, intM, bd_add, bd_sub, bd_mul, hi2]
theorem taken_C (ns : List Int) (i : Nat) (sd rs k : Int) (h1 : 0 < k) (h2 : k < 2000000) (hr : ¬ 0 < rs) (hi : i < ns.length) (hn : ns.length ≤ 63) :
    ∃ rs', d_L_taken (rowM ns i sd rs) [.int k] = .ok (.pu (.int (ns[i].fmod k)), rowM ns (i + 1) ((sd * 48271 + ns[i] + 11).fmod 2147483647) rs') := by
  have hm := fun a => bd_mod a k (by omega)
  have hm2 := fun a => bd_mod a 2147483647 (by decide)
  have hd := fun a => bd_fdiv a k h1 h2
  have hi2 : ¬ (ns.length : Int) < (i : Int) + 1 := by omega
  have hs : (i : Int) + 1 - 1 = (i : Nat) := by omega
  by_cases hb : ns[i] < 1000000000000000000
  · refine ⟨rs, ?_⟩
    simp [d_L_taken, runW, b_L_taken, rowM, -si_binD_1, -si_binD_2, -si_binD_3, -si_binD_4, -si_binD_5, -si_binD_6, -si_binD_7, -si_binD_8, -si_binD_9, -si_binD_10, -si_binD_11, -si_binD_12, -si_cmpD_1, -si_cmpD_2, -si_cmpD_3, -si_cmpD_4, -si_cmpD_5, -si_cmpD_6, -si_cmpD_7, -si_cmpD_8, -si_cmpD_9, -si_cmpD_10, -si_cmpD_11, -si_cmpD_12, -si_cmpD_13, -si_cmpD_14, ord_gt, ord_ge, hr, hm, hm2, hd, intM, bd_add, bd_sub, bd_mul, bd_pow, hi2, hs, hb, hi]
  · refine ⟨ns[i].fdiv k, ?_⟩
    simp [d_L_taken, runW, b_L_taken, rowM, -si_binD_1, -si_binD_2, -si_binD_3, -si_binD_4, -si_binD_5, -si_binD_6, -si_binD_7, -si_binD_8, -si_binD_9, -si_binD_10, -si_binD_11, -si_binD_12, -si_cmpD_1, -si_cmpD_2, -si_cmpD_3, -si_cmpD_4, -si_cmpD_5, -si_cmpD_6, -si_cmpD_7, -si_cmpD_8, -si_cmpD_9, -si_cmpD_10, -si_cmpD_11, -si_cmpD_12, -si_cmpD_13, -si_cmpD_14, ord_gt, ord_ge, hr, hm, hm2, hd, intM, bd_add, bd_sub, bd_mul, bd_pow, hi2, hs, hb, hi]
theorem taken_ok (ns : List Int) (hn : ns.length ≤ 63) (i : Nat) (sd rs k : Int) (h1 : 0 < k) (h2 : k < 2000000) :
    ∃ (v : Nat) (i' : Nat) (sd' rs' : Int), d_L_taken (rowM ns i sd rs) [.int k] = .ok (.pu (.int v), rowM ns i' sd' rs') ∧ (v : Int) < k := by
  have key : ∀ a : Int, ∃ v : Nat, a.fmod k = v ∧ (v : Int) < k := fun a => by
    obtain ⟨h3, h4⟩ := fmod_b a k h1
    exact ⟨(a.fmod k).toNat, by omega, by omega⟩
  by_cases hr : 0 < rs
  · obtain ⟨v, e, h⟩ := key rs
    exact ⟨v, i, sd, _, by rw [← e]; exact taken_A ns i sd rs k h1 h2 hr, h⟩
  · by_cases hi : i < ns.length
    · obtain ⟨v, e, h⟩ := key ns[i]
      obtain ⟨rs', h5⟩ := taken_C ns i sd rs k h1 h2 hr hi hn
      exact ⟨v, _, _, rs', by rw [← e]; exact h5, h⟩
    · obtain ⟨v, e, h⟩ := key (((sd * 48271 + 11).fmod 2147483647).fdiv 7)
      exact ⟨v, _, _, rs, by rw [← e]; exact taken_B ns i sd rs k h1 h2 hr (by omega), h⟩
end LB
set_option linter.all false
namespace LB
open PySem TR
end LB
set_option linter.all false
namespace LB
open PySem TR
def itD (t : List Nat) : List D := t.map fun (c : Nat) => .int (c : Nat)
end LB
set_option linter.all false
namespace LB
open PySem TR
end LB
set_option linter.all false
namespace LB
open PySem TR
theorem good_len (c s : Nat) (st : List (List Nat)) (hy : GoodY c s) (h : Good c s st) : ∀ t ∈ st, t.length ≤ 7 := by
  intro t ht
  have h1 : t.length ≤ st.flatten.length := (List.sublist_flatten_of_mem ht).length_le
  rw [h.hc.length_eq, List.length_range] at h1
  have := hy.c7; omega
theorem vs1 {G : List Fn} {env : TR.Env} {i : Nat} {a : D} (h1 : env.get i = .ok (.pu a)) : evTs G [.var i] env = .ok ([a], env) :=
  evTs_pu (ev_var_ok h1) evTs_nil
theorem vs2 {G : List Fn} {env : TR.Env} {i j : Nat} {a b : D} (h1 : env.get i = .ok (.pu a)) (h2 : env.get j = .ok (.pu b)) : evTs G [.var i, .var j] env = .ok ([a, b], env) :=
  evTs_pu (ev_var_ok h1) (evTs_pu (ev_var_ok h2) evTs_nil)
theorem ev2 {G : List Fn} {a b : E} {env : TR.Env} {d e : D} {r1 r2 : List Nat} (h1 : ev G a env = .ok (.pu d, r1, env)) (h2 : ev G b env = .ok (.pu e, r2, env)) (hs1 : isSt1 a = false := by rfl) (hs2 : isSt1 b = false := by rfl) : evTs G [a, b] env = .ok ([d, e], env) :=
  evTs_pu h1 (evTs_pu h2 evTs_nil hs2) hs1
theorem bd_tr (t u : List Nat) (h : t.length + u.length ≤ 1000) : binD .add (.pu (trD t)) (.pu (trD u)) = .ok (.pu (trD (t ++ u))) := by
  simp only [binD, trD, List.length_map]
  rw [if_pos (by unfold big; omega), List.map_append]
theorem put_li (xs : List D) (i : Nat) (d : D) (h : i < xs.length) : putI (.li xs) (.pu (.int i)) d = .ok (.li (xs.set i d)) := by
  simp only [putI]
  rw [ixOf_nat _ _ h]
theorem fmod_nat (a b : Nat) : ((a : Int) + 1).fmod (b : Int) = (((a + 1) % b : Nat) : Int) := by
  rw [Int.fmod_eq_emod_of_nonneg _ (by omega)]; rfl
def nxt (st : List (List Nat)) (i : Nat) : Nat := (i + 1) % st.length
def mv (st : List (List Nat)) (i : Nat) : List (List Nat) := (st.set (nxt st i) (st.getD (nxt st i) [] ++ st.getD i [])).set i []
def cl (st : List (List Nat)) (k : Nat) : List (List Nat) := mv st (st.findIdx (hasT k))
theorem mv_D (st : List (List Nat)) (i : Nat) : ((st.map trD).set (nxt st i) (trD (st.getD (nxt st i) [] ++ st.getD i []))).set i (trD []) = (mv st i).map trD := by
  rw [mv, List.map_set, List.map_set]
theorem flat_set (st : List (List Nat)) (i : Nat) (h : i < st.length) (t : List Nat) : (st.getD i [] ++ (st.set i t).flatten).Perm (t ++ st.flatten) := by
  induction st generalizing i with
  | nil => simp at h
  | cons a st ih =>
    cases i with
    | zero =>
      simp
      exact (List.perm_append_comm_assoc _ _ _)
    | succ i =>
      simp at h ⊢
      have := ih i h
      simp at this
      exact (List.perm_append_comm_assoc _ _ _).trans ((this.append_left a).trans (List.perm_append_comm_assoc _ _ _))
theorem getD_set_ne (st : List (List Nat)) (i j : Nat) (t : List Nat) (h : j ≠ i) : (st.set j t).getD i [] = st.getD i [] := by
  simp [List.getD_eq_getElem?_getD, h]
theorem mv_good (c s : Nat) (st : List (List Nat)) (hy : GoodY c s) (h : Good c s st) (i : Nat) (hi : i < s) : Good c s (mv st i) := by
  have hs := h.hs
  have h2 := hy.s2
  have hn : nxt st i < st.length := Nat.mod_lt _ (by omega)
  have hne : nxt st i ≠ i := by
    unfold nxt
    rcases Nat.lt_or_ge (i + 1) st.length with h3 | h3
    · rw [Nat.mod_eq_of_lt h3]; omega
    · have : i + 1 = st.length := by omega
      rw [this, Nat.mod_self]; omega
  refine ⟨by simp [mv, hs], ?_⟩
  refine List.Perm.trans ?_ h.hc
  have p1 := flat_set (st.set (nxt st i) (st.getD (nxt st i) [] ++ st.getD i [])) i (by simp; omega) []
  rw [getD_set_ne _ _ _ _ hne] at p1
  have p2 := flat_set st (nxt st i) hn (st.getD (nxt st i) [] ++ st.getD i [])
  rw [List.append_assoc] at p2
  have p3 := (List.perm_append_left_iff _).1 p2
  exact (List.perm_append_left_iff (st.getD i [])).1 (p1.trans (by simpa using p3))
end LB
set_option linter.all false
namespace LB
open PySem TR
theorem good_two (c s : Nat) (st : List (List Nat)) (hy : GoodY c s) (h : Good c s st) (i j : Nat) : (st.getD i []).length + (st.getD j []).length ≤ 1000 := by
  have h1 : ∀ i, (st.getD i []).length ≤ 7 := by
    intro i
    rcases Nat.lt_or_ge i st.length with h2 | h2
    · rw [List.getD_eq_getElem?_getD, List.getElem?_eq_getElem h2]
      exact good_len c s st hy h _ (List.getElem_mem h2)
    · rw [List.getD_eq_getElem?_getD, List.getElem?_eq_none h2]; simp
  have := h1 i
  have := h1 j
  omega
theorem move_in_ok (c s i : Nat) (st : List (List Nat)) (hy : GoodY c s) (h : Good c s st) (hi : i < s) : d_f_move_in [stD st, .int i] = .ok (.pu (stD (mv st i))) := by
  have hs := h.hs
  have h2 := hy.s2
  have hn : nxt st i < st.length := Nat.mod_lt _ (by omega)
  have hil : i < st.length := by omega
  have hlen : bi1 .len (.pu (stD st)) = .ok (.pu (.int st.length)) := by simp [stD]
  have hm := bd_mod ((i : Int) + 1) (st.length : Int) (by omega)
  rw [fmod_nat] at hm
  let e0 : TR.Env := [some (.pu (stD st)), some (.pu (.int i)), none, none]
  let e1 : TR.Env := [some (.pu (stD st)), some (.pu (.int i)), some (.pu (.int (nxt st i))), none]
  let e2 (m : M) : TR.Env := [some (.pu (stD st)), some (.pu (.int i)), some (.pu (.int (nxt st i))), some m]
  have s1 : ex g_f_move_in (b_f_move_in.getD 0 .pass) e0 = .ok (.nx e1) :=
    ex_asg_v (ev_bin_ok (ev_bin_ok (ev_var_ok rfl) ev_cst_ok (bd_add _ _)) (ev_bi1_ok (b := .len) (ev_var_ok rfl) hlen) hm) rfl (by show 2 < 4; decide)
  have s2 : ex g_f_move_in (b_f_move_in.getD 1 .pass) e1 = .ok (.nx (e2 (.li (st.map trD)))) :=
    ex_asg_v (i := 3) (e2 := e1) (m := .li (st.map trD)) (ev_bi1_ok (b := .list) (e1 := e1) (ev_var_ok rfl) rfl) rfl (by show 3 < 4; decide)
  have hsum : ev g_f_move_in (.bin .add (.sub (.var 0) (.var 2)) (.sub (.var 0) (.var 1))) (e2 (.li (st.map trD))) = .ok (.pu (trD (st.getD (nxt st i) [] ++ st.getD i [])), [], e2 (.li (st.map trD))) :=
    ev_bin_ok (ev_sub_ok (ev_var_ok rfl) (ev_var_ok rfl) rfl (sub_stD st _ hn) rfl) (ev_sub_ok (ev_var_ok rfl) (ev_var_ok rfl) rfl (sub_stD st _ hil) rfl) (bd_tr _ _ (good_two c s st hy h _ _))
  have s3 : ex g_f_move_in (b_f_move_in.getD 2 .pass) (e2 (.li (st.map trD))) = .ok (.nx (e2 (.li ((st.map trD).set (nxt st i) (trD (st.getD (nxt st i) [] ++ st.getD i [])))))) :=
    ex_setI_ok rfl hsum (ev_var_ok rfl) rfl (put_li _ _ _ (by rw [List.length_map]; exact hn))
  have s4 : ex g_f_move_in (b_f_move_in.getD 3 .pass) (e2 (.li ((st.map trD).set (nxt st i) (trD (st.getD (nxt st i) [] ++ st.getD i []))))) = .ok (.nx (e2 (.li ((mv st i).map trD)))) := by
    rw [← mv_D]
    exact ex_setI_ok rfl (ev_tup_ok evTs_nil (Nat.zero_le _)) (ev_var_ok rfl) rfl (put_li _ _ _ (by rw [List.length_set, List.length_map]; exact hil))
  have s5 : exs g_f_move_in (b_f_move_in.drop 4) (e2 (.li ((mv st i).map trD))) = .ok (.ret (.pu (stD (mv st i))) (e2 (.li ((mv st i).map trD)))) :=
    ex_ret_ok (ev_bi1_ok (b := .tuple) (ev_ownvar rfl) rfl) rfl
  exact runP_ret ((exs_nx s1).trans ((exs_nx s2).trans ((exs_nx s3).trans ((exs_nx s4).trans s5))))
theorem has_car (c s k : Nat) (st : List (List Nat)) (h : Good c s st) (hk : k < c) : ∃ t ∈ st, k ∈ t := by
  have := (h.hc.mem_iff (a := k)).2 (by simpa using hk)
  simpa [List.mem_flatten] using this
theorem st_in (c s k : Nat) (st : List (List Nat)) (hy : GoodY c s) (h : Good c s st) (hk : k < c) : d_f_station_in [stD st, .int k] = .ok (.pu (.int (st.findIdx (hasT k) : Nat))) :=
  station_in_ok st k (has_car c s k st h hk) (by rw [h.hs]; have := hy.s8; omega)
theorem fi_lt (c s k : Nat) (st : List (List Nat)) (h : Good c s st) (hk : k < c) : st.findIdx (hasT k) < s := by
  have := findIdx_lt c s k st h hk
  rw [h.hs] at this; exact this
theorem cl_good (c s k : Nat) (st : List (List Nat)) (hy : GoodY c s) (h : Good c s st) (hk : k < c) : Good c s (cl st k) :=
  mv_good c s st hy h _ (fi_lt c s k st h hk)
theorem call_in_ok (c s k : Nat) (st : List (List Nat)) (hy : GoodY c s) (h : Good c s st) (hk : k < c) : d_f_call_in [stD st, .int k] = .ok (.pu (stD (cl st k))) :=
  runP_ret (ex_ret_ok (ev_call_ok (k := 0) rfl (evTs_pu (ev_var_ok rfl) (evTs_pu (ev_call_ok (k := 1) rfl (vs2 (i := 0) (j := 1) rfl rfl) (st_in c s k st hy h hk)) evTs_nil)) (move_in_ok c s _ st hy h (fi_lt c s k st h hk))) rfl)
end LB
set_option linter.all false
namespace LB
open PySem TR
theorem lcLoop_ex {f : D → TR.Env → R (Option D × TR.Env)} (P : D → Prop) (I : TR.Env → Prop) (xs : List D)
    (H : ∀ x ∈ xs, ∀ en, I en → ∃ y e2, f x en = .ok (some y, e2) ∧ P y ∧ I e2) : ∀ env, I env → ∃ ys e2, lcLoop f xs env = .ok (ys, e2) ∧ ys.length = xs.length ∧ (∀ y ∈ ys, P y) ∧ I e2 := by
  induction xs with
  | nil => intro env h0; exact ⟨[], env, by rw [lcLoop], rfl, (fun y hy => by cases hy), h0⟩
  | cons x xs ih =>
    intro env h0
    obtain ⟨y, e2, h1, h2, h3⟩ := H x (by simp) env h0
    obtain ⟨ys, e3, h4, h5, h6, h7⟩ := ih (fun y hy => H y (by simp [hy])) e2 h3
    refine ⟨y :: ys, e3, ?_, by simp [h5], ?_, h7⟩
    · rw [lcLoop, h1]
      simp only [bind, R.bind]
      rw [h4]
    · intro z hz
      rcases List.mem_cons.1 hz with rfl | hz
      · exact h2
      · exact h6 z hz
theorem ints_of (n : Nat) (ys : List D) (h : ∀ y ∈ ys, ∃ k : Nat, k < n ∧ y = .int k) : ∃ ks : List Nat, ys = itD ks ∧ ∀ k ∈ ks, k < n := by
  induction ys with
  | nil => exact ⟨[], rfl, fun k hk => by cases hk⟩
  | cons y ys ih =>
    obtain ⟨k, h1, rfl⟩ := h y (by simp)
    obtain ⟨ks, rfl, h2⟩ := ih (fun z hz => h z (by simp [hz]))
    refine ⟨k :: ks, rfl, ?_⟩
    intro z hz
    rcases List.mem_cons.1 hz with rfl | hz
    · exact h1
    · exact h2 z hz
def stry (st : List (List Nat)) : List Nat → List (List (List Nat))
  | [] => [st]
  | k :: ks => st :: stry (cl st k) ks
def fin (st : List (List Nat)) (ks : List Nat) : List (List Nat) := ks.foldl cl st
theorem stry_last (ks : List Nat) : ∀ st, ∃ pre, stry st ks = pre ++ [fin st ks] := by
  induction ks with
  | nil => intro st; exact ⟨[], rfl⟩
  | cons k ks ih => intro st; obtain ⟨pre, h⟩ := ih (cl st k); exact ⟨st :: pre, by simp [stry, h, fin]⟩
theorem stry_good (c s : Nat) (hy : GoodY c s) (ks : List Nat) (hk : ∀ k ∈ ks, k < c) : ∀ st, Good c s st → ∀ x ∈ stry st ks, Good c s x := by
  induction ks with
  | nil => intro st h x hx; simp [stry] at hx; rw [hx]; exact h
  | cons k ks ih =>
    intro st h x hx
    simp only [stry, List.mem_cons] at hx
    rcases hx with rfl | hx
    · exact h
    · exact ih (fun j hj => hk j (by simp [hj])) (cl st k) (cl_good c s k st hy h (hk k (by simp))) x hx
theorem fin_good (c s : Nat) (hy : GoodY c s) (ks : List Nat) (hk : ∀ k ∈ ks, k < c) (st : List (List Nat)) (h : Good c s st) : Good c s (fin st ks) := by
  obtain ⟨pre, h2⟩ := stry_last ks st
  exact stry_good c s hy ks hk st h _ (by rw [h2]; simp)
theorem app_loop (c s : Nat) (hy : GoodY c s) (f : D → TR.Env → R Out) (E : List D → Option M → TR.Env)
    (step : ∀ (acc : List D) cur (k : Nat) a, acc.length ≤ 500 → Good c s cur → k < c → f (.int k) (E (acc ++ [stD cur]) a) = .ok (.nx (E (acc ++ [stD cur] ++ [stD (cl cur k)]) (some (.pu (.int k)))))) (ks : List Nat) :
    ∀ (acc : List D) cur a, acc.length + ks.length ≤ 500 → Good c s cur → (∀ k ∈ ks, k < c) → ∃ a', foLoop f (itD ks) (E (acc ++ [stD cur]) a) = .ok (.nx (E (acc ++ (stry cur ks).map stD) a')) := by
  induction ks with
  | nil => intro acc cur a _ _ _; exact ⟨a, by rw [itD, List.map_nil, foLoop]; rfl⟩
  | cons k ks ih =>
    intro acc cur a hl h hk
    have hk0 := hk k (by simp)
    obtain ⟨a', h2⟩ := ih (acc ++ [stD cur]) (cl cur k) (some (.pu (.int k))) (by simp at hl ⊢; omega) (cl_good c s k cur hy h hk0) (fun j hj => hk j (by simp [hj]))
    refine ⟨a', ?_⟩
    have h3 := step acc cur k a (by simp at hl; omega) h hk0
    show foLoop f (.int k :: itD ks) _ = _
    rw [foLoop, h3]
    simp only [bind, R.bind]
    rw [h2]
    simp [stry]
theorem sub_last (acc : List D) (x : D) : subD (.li (acc ++ [x])) (.pu (.int (-1))) = .ok (.pu x) := by
  have h : ixOf (acc ++ [x]).length (-1) = some acc.length := by
    simp only [ixOf]
    rw [if_neg (by decide), if_pos (by simp; omega)]
    congr 1
    simp
    omega
  simp only [subD, M.seq, bind, R.bind, atD, h]
  simp
theorem app_big (acc : List D) (x : D) (h : acc.length ≤ 500) : (acc ++ [x]).length < big := by simp; unfold big; omega
theorem story_in_ok (c s : Nat) (st : List (List Nat)) (ks : List Nat) (hy : GoodY c s) (h : Good c s st) (hk : ∀ k ∈ ks, k < c) (hl : ks.length ≤ 60) : d_f_story_in [stD st, trD ks] = .ok (.li ((stry st ks).map stD)) := by
  let E (xs : List D) (a : Option M) : TR.Env := [some (.pu (stD st)), some (.pu (trD ks)), some (.li xs), a]
  have s1 : ex g_f_story_in (b_f_story_in.getD 0 .pass) [some (.pu (stD st)), some (.pu (trD ks)), none, none] = .ok (.nx (E [stD st] none)) :=
    ex_asg_v (i := 2) (e2 := [some (.pu (stD st)), some (.pu (trD ks)), none, none]) (m := .li [stD st]) (ev_lst_ok (vs1 rfl) one_big) rfl (by show 2 < 4; decide)
  obtain ⟨a', h2⟩ := app_loop c s hy (forB g_f_story_in (.v 3) [(.app 2 (.call 0 [(.sub (.var 2) (.neg (.cst (.int 1)))), (.var 3)]))]) E (by
    intro acc cur k a h1 h2 h3
    have h4 : ev g_f_story_in (.call 0 [(.sub (.var 2) (.neg (.cst (.int 1)))), (.var 3)]) (E (acc ++ [stD cur]) (some (.pu (.int k)))) = .ok (.pu (stD (cl cur k)), [], E (acc ++ [stD cur]) (some (.pu (.int k)))) :=
      ev_call_ok (k := 0) rfl (ev2 (ev_sub_ok (ev_ownvar rfl) (ev_neg_ok ev_cst_ok) (by simp) (sub_last _ _) rfl) (ev_var_ok rfl)) (call_in_ok c s k cur hy h2 h3)
    have h5 : ex g_f_story_in (.app 2 (.call 0 [(.sub (.var 2) (.neg (.cst (.int 1)))), (.var 3)])) (E (acc ++ [stD cur]) (some (.pu (.int k)))) = .ok (.nx (E (acc ++ [stD cur] ++ [stD (cl cur k)]) (some (.pu (.int k))))) :=
      ex_app_ok rfl h4 rfl (app_big _ _ h1)
    exact (exs_nx h5).trans exs_nil) ks [] st none (by simp; omega) h hk
  have s2 : ex g_f_story_in (b_f_story_in.getD 1 .pass) (E [stD st] none) = .ok (.nx (E ((stry st ks).map stD) a')) :=
    ex_for_ok (m := .pu (trD ks)) (rs := []) (e1 := E [stD st] none) (ev_var_ok rfl) rfl rfl h2
  have s3 : exs g_f_story_in (b_f_story_in.drop 2) (E ((stry st ks).map stD) a') = .ok (.ret (.li ((stry st ks).map stD)) [some (.pu (stD st)), some (.pu (trD ks)), none, a']) := by
    show exs _ [.ret (.var 2)] _ = _
    rw [exs, ex, ev_ownvar rfl]
    rfl
  exact runP_ret ((exs_nx s1).trans ((exs_nx s2).trans s3))
theorem need_calls_ok (c s : Nat) (ks : List Nat) (hk : ∀ k ∈ ks, k < c) (hl : ks.length ≤ 60) : d_f_need_calls [ydD c s, trD ks] = .ok (.pu .none) := by
  let E (a b : Option M) : TR.Env := [some (.pu (ydD c s)), some (.pu (trD ks)), a, b]
  have h1 : d_f_is_list [trD ks, .int 0, .int 60] = .ok (.pu (.bool true)) := is_list_tup _ _ _ (by simp) (by simp; omega)
  have s1 : ex g_f_need_calls (b_f_need_calls.getD 0 .pass) (E none none) = .ok (.nx (E none none)) :=
    ex_if_ff (ev_not_ok (ev_call_ok (k := 0) rfl (evTs_pu (d := trD ks) (ev_var_ok rfl) (evTs_pu (d := .int 0) ev_cst_ok (evTs_pu (d := .int 60) (by rw [ev]) evTs_nil))) h1)) exs_nil
  obtain ⟨e2, h2, a, b, rfl⟩ := foLoop_g (f := forB g_f_need_calls (.t [(.v 2), (.v 3)]) [(.ifs (.not (.call 1 [(.var 3), (.cst (.int 0)), (.bin .sub (.sub (.var 0) (.cst (.int 0))) (.cst (.int 1)))])) [(.do_ (.star (.cst .none)))] [])]) (fun p : Nat × Nat => .tuple [.int (p.2 : Nat), .int (p.1 : Nat)]) (fun _ en => ∃ a b, en = E a b) ks.zipIdx (by
    intro l1 p l2 he en hen
    obtain ⟨a, b, rfl⟩ := hen
    have hp : p.1 < c := by
      have : p ∈ ks.zipIdx := by rw [he]; simp
      obtain ⟨k, i⟩ := p
      rw [List.mem_zipIdx_iff_getElem?] at this
      exact hk k (List.mem_of_getElem? this)
    refine ⟨E (some (.pu (.int p.2))) (some (.pu (.int p.1))), ?_, _, _, rfl⟩
    have h3 : d_f_is_in [.int (p.1 : Nat), .int 0, .int ((c : Int) - 1)] = .ok (.pu (.bool true)) := is_in_int _ _ _ (by omega) (by omega)
    have h4 : ex g_f_need_calls (.ifs (.not (.call 1 [(.var 3), (.cst (.int 0)), (.bin .sub (.sub (.var 0) (.cst (.int 0))) (.cst (.int 1)))])) [(.do_ (.star (.cst .none)))] []) (E (some (.pu (.int p.2))) (some (.pu (.int p.1)))) = .ok (.nx (E (some (.pu (.int p.2))) (some (.pu (.int p.1))))) :=
      ex_if_ff (ev_not_ok (ev_call_ok (k := 1) rfl (evTs_pu (d := .int p.1) (ev_var_ok rfl) (evTs_pu (d := .int 0) ev_cst_ok (evTs_pu (ev_bin_ok (ev_sub_ok (m := .pu (.int c)) (ev_var_ok rfl) ev_cst_ok rfl rfl rfl) ev_cst_ok (bd_sub _ _)) evTs_nil))) h3)) exs_nil
    exact (exs_nx h4).trans exs_nil) (E none none) ⟨_, _, rfl⟩
  rw [← enmD_zip (fun (k : Nat) => PyData.int (k : Nat))] at h2
  have hen : ev g_f_need_calls (.enm (.var 1)) (E none none) = .ok (.li (enmD (itD ks) 0), [], E none none) := by
    rw [ev, ev_var_ok rfl]
    rfl
  have s2 : ex g_f_need_calls (b_f_need_calls.getD 1 .pass) (E none none) = .ok (.nx (E a b)) :=
    ex_for_ok hen rfl rfl h2
  exact runP_nx ((exs_nx s1).trans ((exs_nx s2).trans exs_nil))
end LB
set_option linter.all false
namespace LB
open PySem TR
theorem after_ok (c s : Nat) (st : List (List Nat)) (ks : List Nat) (hy : GoodY c s) (h : Good c s st) (hk : ∀ k ∈ ks, k < c) (hl : ks.length ≤ 60) : d_f_after [ydD c s, stD st, trD ks] = .ok (.pu (stD (fin st ks))) := by
  obtain ⟨pre, hp⟩ := stry_last ks st
  have h1 : subD (.li ((stry st ks).map stD)) (.pu (.int (-1))) = .ok (.pu (stD (fin st ks))) := by
    rw [hp, List.map_append]; exact sub_last _ _
  exact runP_ret ((exs_do (ev_call_ok (k := 0) rfl (vs2 (i := 0) (j := 1) rfl rfl) (need_state_ok c s st hy h))).trans ((exs_do (ev_call_ok (k := 1) rfl (vs2 (i := 0) (j := 2) rfl rfl) (need_calls_ok c s ks hk hl))).trans (ex_ret_ok (ev_sub_ok (ev_call_ok (k := 2) rfl (vs2 (i := 1) (j := 2) rfl rfl) (story_in_ok c s st ks hy h hk hl)) (ev_neg_ok ev_cst_ok) rfl h1 rfl) rfl)))
end LB
set_option linter.all false
namespace LB
open PySem TR
theorem row_ok (ns : List Int) (hn : ns.length ≤ 63) (i : Nat) (sd rs : Int) (c s m : Nat) (hy : GoodY c s) (hm : m ≤ 60) :
    ∃ (ks : List Nat) (i' : Nat) (sd' rs' : Int), d_L_row (rowM ns i sd rs) [ydD c s, .int m] = .ok (.pu (trD ks), rowM ns i' sd' rs') ∧ (∀ k ∈ ks, k < c) ∧ ks.length ≤ m := by
  have h1c := hy.c1
  have h7 := hy.c7
  let E (i : Nat) (sd rs : Int) (a : Option M) : TR.Env := [some (rowM ns i sd rs), some (.pu (ydD c s)), some (.pu (.int m)), a]
  obtain ⟨u, i1, sd1, rs1, h1, hu⟩ := taken_ok ns hn i sd rs ((m : Int) + 1) (by omega) (by omega)
  have hr : ev g_L_row (.rng [(.callW 0 0 [(.bin .add (.var 2) (.cst (.int 1)))])]) (E i sd rs none) = .ok (.li (rngD 0 u), [], E i1 sd1 rs1 none) := by
    have h2 : ev g_L_row (.callW 0 0 [(.bin .add (.var 2) (.cst (.int 1)))]) (E i sd rs none) = .ok (.pu (.int u), [], E i1 sd1 rs1 none) :=
      ev_callW_ok (mx := rowM ns i sd rs) (m0 := rowM ns i sd rs) (e1 := E i sd rs none) (ds := [.int ((m : Int) + 1)]) rfl rfl (evTs_pu (ev_bin_ok (ev_var_ok rfl) ev_cst_ok (bd_add _ _)) evTs_nil) rfl rfl h1 rfl
    refine ev_rng_ok (ms := [.pu (.int u)]) (rs := []) (e1 := E i1 sd1 rs1 none) ?_ rfl (rgC_ok _ (by omega))
    rw [evs, h2]
    simp only [bind, R.bind]
    rw [evs]
    rfl
  obtain ⟨ys, e2, h3, h4, h5, i2, sd2, rs2, a2, rfl⟩ := lcLoop_ex (f := lcB g_L_row [3] (.callW 0 0 [(.sub (.var 1) (.cst (.int 0)))]) (.v 3) []) (fun y => ∃ k : Nat, k < c ∧ y = .int k) (fun en => ∃ (i' : Nat) (sd' rs' : Int) (a : Option M), en = E i' sd' rs' a) (rngD 0 u) (by
    intro x hx en hen
    obtain ⟨i', sd', rs', a, rfl⟩ := hen
    obtain ⟨v, i2, sd2, rs2, h6, hv⟩ := taken_ok ns hn i' sd' rs' (c : Int) (by omega) (by omega)
    have h7 : ev g_L_row (.callW 0 0 [(.sub (.var 1) (.cst (.int 0)))]) (E i' sd' rs' (some (.pu x))) = .ok (.pu (.int v), [], E i2 sd2 rs2 (some (.pu x))) :=
      ev_callW_ok (mx := rowM ns i' sd' rs') (m0 := rowM ns i' sd' rs') (e1 := E i' sd' rs' (some (.pu x))) (ds := [.int c]) rfl rfl (evTs_pu (ev_sub_ok (m := .pu (.int c)) (ev_var_ok rfl) ev_cst_ok rfl rfl rfl) evTs_nil) rfl rfl h6 rfl
    exact ⟨.int v, E i2 sd2 rs2 (some (.pu x)), lcB_nc rfl h7, ⟨v, by omega, rfl⟩, i2, sd2, rs2, _, rfl⟩) (E i1 sd1 rs1 none) ⟨_, _, _, _, rfl⟩
  have hlen : (rngD 0 (u : Int)).length = u := by simp [rngD]
  rw [hlen] at h4
  have h8 : ev g_L_row (.lc false [3] (.callW 0 0 [(.sub (.var 1) (.cst (.int 0)))]) (.v 3) (.rng [(.callW 0 0 [(.bin .add (.var 2) (.cst (.int 1)))])]) []) (E i sd rs none) = .ok (.li ys, [], E i2 sd2 rs2 none) :=
    ev_lc_ok (m := .li (rngD 0 u)) (rs := []) hr rfl rfl rfl rfl h3 (by unfold big; omega)
  obtain ⟨ks, rfl, h9⟩ := ints_of c ys h5
  refine ⟨ks, i2, sd2, rs2, ?_, h9, by simp [itD] at h4; omega⟩
  have s1 : exs g_L_row b_L_row (E i sd rs none) = .ok (.ret (.pu (trD ks)) (E i2 sd2 rs2 none)) := ex_ret_ok (ev_bi1_ok (b := .tuple) h8 rfl) rfl
  exact runW_ret s1 rfl
end LB
set_option linter.all false
namespace LB
open PySem TR
theorem eqvAll_map {α : Type} [DecidableEq α] (f : α → D) (h : ∀ a b, PyData.eqv (f a) (f b) = decide (a = b)) (xs : List α) : ∀ ys : List α, PyData.eqvAll (xs.map f) (ys.map f) = decide (xs = ys) := by
  induction xs with
  | nil => intro ys; cases ys <;> simp [PyData.eqvAll]
  | cons x xs ih =>
    intro ys
    cases ys with
    | nil => simp [PyData.eqvAll]
    | cons y ys =>
      simp only [List.map_cons, PyData.eqvAll, h, ih]
      by_cases h1 : x = y <;> by_cases h2 : xs = ys <;> simp [h1, h2]
theorem eqv_nat (a b : Nat) : PyData.eqv (.int (a : Nat)) (.int (b : Nat)) = decide (a = b) := by
  rw [eqv_ii]
  by_cases h : a = b
  · simp [h]
  · rw [decide_eq_false h, decide_eq_false]
    exact fun e => h (Int.ofNat.inj e)
theorem eqv_trD (t u : List Nat) : PyData.eqv (trD t) (trD u) = decide (t = u) := by
  simp only [trD, PyData.eqv]
  exact eqvAll_map (fun c : Nat => .int (c : Nat)) eqv_nat t u
theorem eqv_stD (t u : List (List Nat)) : PyData.eqv (stD t) (stD u) = decide (t = u) := by
  simp only [stD, PyData.eqv]
  exact eqvAll_map trD eqv_trD t u
theorem cmp_eq_ok (a b : D) (h1 : okD a = true) (h2 : okD b = true) : cmpD .eq (.pu a) (.pu b) = .ok (PyData.eqv a b) := by
  simp [M.toD, h1, h2]
theorem cmp_ne_ok (a b : D) (h1 : okD a = true) (h2 : okD b = true) : cmpD .ne (.pu a) (.pu b) = .ok (!PyData.eqv a b) := by
  simp [M.toD, h1, h2]
theorem cmp_st (t u : List (List Nat)) : cmpD .eq (.pu (stD t)) (.pu (stD u)) = .ok (decide (t = u)) := by
  rw [cmp_eq_ok _ _ (okD_stD t) (okD_stD u), eqv_stD]
theorem cmp_st_ne (t u : List (List Nat)) : cmpD .ne (.pu (stD t)) (.pu (stD u)) = .ok (!decide (t = u)) := by
  rw [cmp_ne_ok _ _ (okD_stD t) (okD_stD u), eqv_stD]
theorem cmp_n (a b : Nat) : cmpD .eq (.pu (.int a)) (.pu (.int b)) = .ok (decide (a = b)) := by
  rw [cmp_eq_ok _ _ (okD_int _) (okD_int _), eqv_nat]
theorem cmp_n_ne (a b : Nat) : cmpD .ne (.pu (.int a)) (.pu (.int b)) = .ok (!decide (a = b)) := by
  rw [cmp_ne_ok _ _ (okD_int _) (okD_int _), eqv_nat]
/-! ### where the cars stand -/
def ps (st : List (List Nat)) (k : Nat) : Nat := st.findIdx (hasT k)
theorem in_ps (c s : Nat) (st : List (List Nat)) (h : Good c s st) (k : Nat) (hk : k < c) : k ∈ st.getD (ps st k) [] := by
  have h1 := findIdx_lt c s k st h hk
  have h2 := List.findIdx_getElem (xs := st) (p := hasT k) (w := h1)
  rw [List.getD_eq_getElem?_getD, ps, List.getElem?_eq_getElem h1]
  simpa [hasT] using h2
theorem ps_uniq (c s : Nat) (st : List (List Nat)) (h : Good c s st) (k j : Nat) (hk : k < c) (hj : k ∈ st.getD j []) : j = ps st k := by
  have hn : st.flatten.Nodup := h.hc.nodup_iff.2 List.nodup_range
  have h1 := in_ps c s st h k hk
  have hl := findIdx_lt c s k st h hk
  have hjl : j < st.length := by
    rcases Nat.lt_or_ge j st.length with h2 | h2
    · exact h2
    · rw [List.getD_eq_getElem?_getD, List.getElem?_eq_none h2] at hj; simp at hj
  have hp := (List.pairwise_flatten.1 hn).2
  rw [List.getD_eq_getElem?_getD, List.getElem?_eq_getElem hjl] at hj
  rw [List.getD_eq_getElem?_getD, ps, List.getElem?_eq_getElem hl] at h1
  simp only [Option.getD_some] at hj h1
  rw [List.pairwise_iff_getElem] at hp
  rcases Nat.lt_trichotomy j (ps st k) with h3 | h3 | h3
  · exact absurd rfl (hp j (ps st k) hjl hl h3 k hj k h1)
  · exact h3
  · exact absurd rfl (hp (ps st k) j hl hjl h3 k h1 k hj)
theorem st_ext (x y : List (List Nat)) (hl : x.length = y.length) (h : ∀ j < x.length, x.getD j [] = y.getD j []) : x = y := by
  apply List.ext_getElem hl
  intro j h1 h2
  have := h j h1
  simpa [List.getD_eq_getElem?_getD, h1, h2] using this
end LB
set_option linter.all false
namespace LB
open PySem TR
theorem cut_take (xs : List D) (i : Nat) (h : i ≤ xs.length) : cutD xs none (some (i : Int)) = xs.take i := by
  simp [cutD, slIx, Nat.min_eq_left h]
theorem cut_drop (xs : List D) (i : Nat) (h : i ≤ xs.length) : cutD xs (some (i : Int)) none = xs.drop i := by
  simp only [cutD, slIx]
  rw [if_pos (by omega), Int.toNat_natCast, Nat.min_eq_left h]
  exact List.take_of_length_le (by rw [List.length_drop]; exact Nat.le_refl _)
theorem last_ok (st : List (List Nat)) (ks : List Nat) : subD (.li ((stry st ks).map stD)) (.pu (.int (-1))) = .ok (.pu (stD (fin st ks))) := by
  obtain ⟨pre, hp⟩ := stry_last ks st
  rw [hp, List.map_append]; exact sub_last _ _
end LB
set_option linter.all false
namespace LB
open PySem TR
end LB
set_option linter.all false
namespace LB
open PySem TR
/-! a story by its steps -/
/-! how many trains stand -/
end LB
set_option linter.all false
namespace LB
open PySem TR
end LB
set_option linter.all false
namespace LB
open PySem TR
end LB
set_option linter.all false
namespace LB
open PySem TR
end LB
set_option linter.all false
namespace LB
open PySem TR
structure CS (cs : List Nat) (s : Nat) : Prop where
  pw : cs.Pairwise (· < ·)
  lt : ∀ x ∈ cs, x < s
  len : cs.length ≤ s
  ne : cs ≠ []
end LB
set_option linter.all false
namespace LB
open PySem TR
end LB
set_option linter.all false
namespace LB
open PySem TR
end LB
set_option linter.all false
namespace LB
open PySem TR
end LB
set_option linter.all false
namespace LB
open PySem TR
end LB
set_option linter.all false
/-! rules for the walk by goal: comprehensions, loops, typed values -/
namespace TR
open PySem
abbrev nD (n : Nat) : D := .int (n : Int)
theorem ev_cst_eq {G : List Fn} {d d2 : D} {env : TR.Env} (h : d = d2) : ev G (.cst d) env = .ok (.pu d2, [], env) := by subst h; exact ev_cst_ok
theorem ev_glb_eq {G : List Fn} {k : Nat} {d d2 : D} {env : TR.Env} (h : d = d2) : ev G (.glb k d) env = .ok (.pu d2, [], env) := by subst h; rw [ev]
theorem backG_get (old : TR.Env) (vs : List Nat) : ∀ (en : TR.Env) (i : Nat), (backE en old vs)[i]? = if i ∈ vs ∧ i < en.length then some (old[i]?.getD none) else en[i]? := by
  induction vs with
  | nil => intro en i; simp [backE]
  | cons v vs ih =>
    intro en i
    have hl : ∀ (vs : List Nat), (backE en old vs).length = en.length := by
      intro vs; induction vs with
      | nil => rfl
      | cons a vs ih => simp [backE, ih]
    rw [backE, List.getElem?_set, hl, ih]
    by_cases h : v = i
    · subst h
      by_cases h2 : v < en.length
      · simp [h2]
      · simp [h2]
    · rw [if_neg h]
      have : i ≠ v := fun e => h e.symm
      simp [this]
theorem wipeG_get (vs : List Nat) : ∀ (en : TR.Env) (i : Nat), (wipeE en vs)[i]? = if i ∈ vs ∧ i < en.length then some none else en[i]? := by
  induction vs with
  | nil => intro en i; simp [wipeE]
  | cons v vs ih =>
    intro en i
    have hl : ∀ (vs : List Nat), (wipeE en vs).length = en.length := by
      intro vs; induction vs with
      | nil => rfl
      | cons a vs ih => simp [wipeE, ih]
    rw [wipeE, List.getElem?_set, hl, ih]
    by_cases h : v = i
    · subst h
      by_cases h2 : v < en.length
      · simp [h2]
      · simp [h2]
    · rw [if_neg h]
      have : i ≠ v := fun e => h e.symm
      simp [this]
theorem wipeE_len (en : TR.Env) (vs : List Nat) : (wipeE en vs).length = en.length := by
  induction vs with
  | nil => rfl
  | cons a vs ih => simp [wipeE, ih]
theorem backE_same (en env : TR.Env) (vs : List Nat) (h : wipeE en vs = wipeE env vs) : backE en env vs = env := by
  have hl : en.length = env.length := by rw [← wipeE_len en vs, h, wipeE_len]
  apply List.ext_getElem?
  intro i
  rw [backG_get]
  by_cases hi : i ∈ vs
  · by_cases h2 : i < en.length
    · rw [if_pos ⟨hi, h2⟩]
      have h3 : i < env.length := by omega
      rw [List.getElem?_eq_getElem h3]
      rfl
    · rw [if_neg (fun z => h2 z.2), List.getElem?_eq_none (by omega), List.getElem?_eq_none (by omega)]
  · rw [if_neg (fun z => hi z.1)]
    have := congrArg (fun l : TR.Env => l[i]?) h
    simpa [wipeG_get, hi] using this
theorem wipe_0 {env : TR.Env} : wipeE env [] = env := rfl
theorem wipe_S {env e1 e2 : TR.Env} {v : Nat} {vs : List Nat} (h : wipeE env vs = e1) (h2 : List.set e1 v none = e2) : wipeE env (v :: vs) = e2 := by rw [wipeE, h, h2]
theorem ev_lc_go {α : Type} {G : List Fn} {vs : List Nat} {elt : E} {p : P} {it : E} {cs : List E} {env0 env W : TR.Env} {m : M} {rs : List Nat} {emb : α → D} {xs : List α} {q : α → Bool} {g : α → D} {B : α → TR.Env} {mf : α → M} {rf : α → List Nat}
    (hit : ev G it env0 = .ok (m, rs, env)) (hs : itR m = .ok (xs.map emb)) (hn : nlAt m it = none) (hd : (den env vs && subs p.slots vs) = true) (ha : apart rs (muT elt ++ muEs cs ++ vs) = true)
    (hW : wipeE env vs = W) (hb : ∀ x, bindP p (emb x) W = .ok (B x)) (hw : ∀ x, wipeE (B x) vs = W) (hl : xs.length ≤ 1000)
    (hc : ∀ x ∈ xs, evCs G cs (B x) = .ok (q x, B x))
    (he : ∀ x ∈ xs, q x = true → ev G elt (B x) = .ok (mf x, rf x, B x)) (ht : ∀ x, takeR elt (mf x, rf x, B x) = .ok (g x, B x)) :
    ev G (.lc false vs elt p it cs) env0 = .ok (.li ((xs.filter q).map g), [], env) := by
  subst hW
  obtain ⟨e2, h1, h2⟩ := lcLoop_g (f := lcB G vs elt p cs) emb (fun x => if q x = true then some (g x) else none) (fun en => wipeE en vs = wipeE env vs) xs (by
    intro x hx en hen
    refine ⟨B x, ?_, hw x⟩
    have hb2 : bindP p (emb x) (wipeE en vs) = .ok (B x) := by rw [hen]; exact hb x
    cases hq : q x with
    | true =>
      rw [lcB, hb2]
      simp only [bind, R.bind]
      rw [hc x hx, hq]
      simp only
      rw [if_pos trivial, he x hx hq]
      simp only
      rw [ht x]
      simp only
      rw [if_pos trivial]
    | false =>
      rw [lcB, hb2]
      simp only [bind, R.bind]
      rw [hc x hx, hq]
      simp only
      rw [if_neg (by decide), if_neg (by decide)]) env rfl
  have e3 : (xs.filterMap fun x => if q x = true then some (g x) else none) = (xs.filter q).map g := by
    clear hs hl hc he h1
    induction xs with
    | nil => rfl
    | cons a xs ih =>
      rw [List.filterMap_cons, List.filter_cons]
      cases hq : q a <;> simp [ih]
  rw [e3] at h1
  have h3 := ev_lc_ok (G := G) hit hd hn hs ha h1 (by
    have h5 := List.length_filter_le q xs
    rw [List.length_map]
    have : (1000 : Nat) ≤ big := by unfold big; omega
    omega)
  rw [backE_same e2 env vs h2] at h3
  exact h3
theorem ev_lc_go0 {α : Type} {G : List Fn} {vs : List Nat} {elt : E} {p : P} {it : E} {env0 env W : TR.Env} {m : M} {rs : List Nat} {emb : α → D} {xs : List α} {g : α → D} {B : α → TR.Env} {mf : α → M} {rf : α → List Nat}
    (hit : ev G it env0 = .ok (m, rs, env)) (hs : itR m = .ok (xs.map emb)) (hn : nlAt m it = none) (hd : (den env vs && subs p.slots vs) = true) (ha : apart rs (muT elt ++ muEs [] ++ vs) = true)
    (hW : wipeE env vs = W) (hb : ∀ x, bindP p (emb x) W = .ok (B x)) (hw : ∀ x, wipeE (B x) vs = W) (hl : xs.length ≤ 1000)
    (he : ∀ x ∈ xs, ev G elt (B x) = .ok (mf x, rf x, B x)) (ht : ∀ x, takeR elt (mf x, rf x, B x) = .ok (g x, B x)) :
    ev G (.lc false vs elt p it []) env0 = .ok (.li (xs.map g), [], env) := by
  have h := ev_lc_go (q := fun _ => true) hit hs hn hd ha hW hb hw hl (fun x _ => by rw [evCs]) (fun x hx _ => he x hx) ht
  rw [List.filter_eq_self.2 (fun _ _ => rfl)] at h
  exact h
theorem ev_and_go {G : List Fn} {a b : E} {p q : Bool} {ra rb : List Nat} {env : TR.Env} (h : ev G a env = .ok (.pu (.bool p), ra, env)) (h2 : p = true → ev G b env = .ok (.pu (.bool q), rb, env)) : ev G (.and a b) env = .ok (.pu (.bool (p && q)), [], env) := by
  rw [ev, h]
  simp only [bind, R.bind, boolR]
  cases p with
  | true => rw [if_pos rfl, h2 rfl]; rfl
  | false => rw [if_neg (by decide)]; rfl
theorem ev_or_go {G : List Fn} {a b : E} {p q : Bool} {ra rb : List Nat} {env : TR.Env} (h : ev G a env = .ok (.pu (.bool p), ra, env)) (h2 : p = false → ev G b env = .ok (.pu (.bool q), rb, env)) : ev G (.or a b) env = .ok (.pu (.bool (p || q)), [], env) := by
  rw [ev, h]
  simp only [bind, R.bind, boolR]
  cases p with
  | true => rw [if_pos rfl]; rfl
  | false => rw [if_neg (by decide), h2 rfl]; rfl
theorem ex_asg_go {G : List Fn} {i : Nat} {e : E} {env e2 E : TR.Env} {r : M × List Nat × TR.Env} {m : M} (h : ev G e env = .ok r) (h2 : keepR e r = .ok (m, e2)) (h3 : i < e2.length) (h4 : e2.set i (some m) = E) : ex G (.asg (.v i) e) env = .ok (.nx E) := by
  rw [← h4]; exact ex_asg_v h h2 h3
theorem ex_if_go {G : List Fn} {c : E} {a : List S} {b : Bool} {rc : List Nat} {env e1 : TR.Env} (h : ev G c env = .ok (.pu (.bool b), rc, e1)) (hb : b = false) : ex G (.ifs c a []) env = .ok (.nx e1) := by
  subst hb; exact ex_if_ff h exs_nil
theorem ex_do_go {G : List Fn} {e : E} {m : M} {rs : List Nat} {env e1 : TR.Env} (h : ev G e env = .ok (m, rs, e1)) : ex G (.do_ e) env = .ok (.nx e1) := by
  rw [ex, h]; rfl
theorem ex_ret_go {G : List Fn} {e : E} {m m2 : M} {rs : List Nat} {env e1 e2 : TR.Env} (h : ev G e env = .ok (m, rs, e1)) (hm : retR e (m, rs, e1) = .ok (m2, e2)) : ex G (.ret e) env = .ok (.ret m2 e2) := by
  rw [ex, h]
  simp only [bind, R.bind]
  rw [hm]
theorem exs_go {G : List Fn} {s : S} {r : List S} {env e1 : TR.Env} {o : R Out} (h : ex G s env = .ok (.nx e1)) (h2 : exs G r e1 = o) : exs G (s :: r) env = o := (exs_nx h).trans h2
theorem ev_rng1_go {G : List Fn} {a : E} {n : Nat} {ra : List Nat} {env e1 : TR.Env} (h : ev G a env = .ok (.pu (.int (n : Nat)), ra, e1)) (hn : n ≤ 1000) : ev G (.rng [a]) env = .ok (.li ((List.range n).map nD), [], e1) := by
  have h1 : evs G [a] env = .ok ([.pu (.int (n : Nat))], ra ++ [], e1) := by
    rw [evs, h]
    simp only [bind, R.bind]
    rw [evs]
    simp only [muEs]
    rw [if_pos (by simp [apart])]
  rw [ev_rng_ok h1 rfl (LB.rgC_ok n hn), rngD_nat]
theorem ev_rgl_go {G : List Fn} {t : Bool} {a : E} {n : Nat} {ra : List Nat} {env : TR.Env} (h : ev G a env = .ok (.pu (.int (n : Nat)), ra, env)) (hn : n ≤ 1000) : ev G (.rgl t [a]) env = .ok ((if t then .pu (.tuple ((List.range n).map nD)) else .li ((List.range n).map nD)), [], env) := by
  have h1 : evs G [a] env = .ok ([.pu (.int (n : Nat))], ra ++ [], env) := by
    rw [evs, h]
    simp only [bind, R.bind]
    rw [evs]
    simp only [muEs]
    rw [if_pos (by simp [apart])]
  rw [ev_rgl_ok h1 rfl (LB.rgB_ok n hn), rngD_nat]
theorem ev_enm_go {α : Type} {G : List Fn} {a : E} {m : M} {rs : List Nat} {env : TR.Env} {emb : α → D} {xs : List α} (h : ev G a env = .ok (m, rs, env)) (hs : m.seq = .ok (xs.map emb)) : ev G (.enm a) env = .ok (.li (xs.zipIdx.map fun p => .tuple [nD p.2, emb p.1]), rs, env) := by
  rw [ev, h]
  simp only [bind, R.bind]
  rw [hs]
  simp only
  rw [enmD_zip]
theorem ev_tup1n {G : List Fn} {a : E} {n : Nat} {ra : List Nat} {env e1 : TR.Env} (h : ev G a env = .ok (.pu (.int (n : Nat)), ra, e1)) (hs : isSt1 a = false) : ev G (.tup [a]) env = .ok (.pu (LB.trD [n]), [], e1) := ev_tup1 (evTs_pu h evTs_nil hs)
end TR
set_option linter.all false
/-! typed values: what the operations give -/
namespace LB
open PySem TR
def sbm (a b n : Nat) : Nat := (a + (n - b % n)) % n
theorem gb_addN (a b : Nat) : binD .add (.pu (.int (a : Int))) (.pu (.int (b : Int))) = .ok (.pu (.int ((a + b : Nat) : Int))) := bd_add _ _
theorem gb_modS (a b n : Nat) (h : 0 < n) : binD .mod (.pu (.int ((a : Int) - (b : Int)))) (.pu (.int (n : Int))) = .ok (.pu (.int ((sbm a b n : Nat) : Int))) := by
  rw [bd_mod _ _ (by omega), Int.fmod_eq_emod_of_nonneg _ (by omega)]
  congr 3
  rw [sbm]
  have h1 : b % n < n := Nat.mod_lt _ h
  have h2 := Nat.div_add_mod b n
  have h3 : (((a + (n - b % n)) % n : Nat) : Int) = ((a : Int) + (n - b % n)) % n := by
    rw [Int.natCast_emod, Int.natCast_add, Int.natCast_sub (Nat.le_of_lt h1), Int.natCast_emod]
  rw [h3]
  have h4 : (a : Int) + (n - b % n) = (a - b) + n * (1 + b / n) := by
    have h5 : (b : Int) = n * (b / n : Nat) + (b % n : Nat) := by exact_mod_cast h2.symm
    have h6 : ((b / n : Nat) : Int) = (b : Int) / n := by simp
    have h7 : ((b % n : Nat) : Int) = (b : Int) % n := by simp
    rw [h6, h7] at h5
    rw [Int.mul_add, Int.mul_one]
    omega
  rw [h4, Int.add_mul_emod_self_left]
theorem gc_eqN (a b : Nat) : cmpD .eq (.pu (.int (a : Int))) (.pu (.int (b : Int))) = .ok (decide (a = b)) := cmp_n _ _
theorem gc_neN (a b : Nat) : cmpD .ne (.pu (.int (a : Int))) (.pu (.int (b : Int))) = .ok (!decide (a = b)) := cmp_n_ne _ _
theorem gc_ord (o : COp) (a b : Int) (f : D → D → Bool) (h : cmpD o (.pu (.int a)) (.pu (.int b)) = ordC (.pu (.int a)) (.pu (.int b)) f) : cmpD o (.pu (.int a)) (.pu (.int b)) = .ok (f (.int a) (.int b)) := by
  rw [h]; exact ord_ii _ _ _
theorem gc_gtI (a b : Int) : cmpD .gt (.pu (.int a)) (.pu (.int b)) = .ok (decide (b < a)) := by
  rw [gc_ord _ _ _ (fun x y => W.dataLt y x) rfl, lt_ii]
theorem gc_gtN (a b : Nat) : cmpD .gt (.pu (.int (a : Int))) (.pu (.int (b : Int))) = .ok (decide (b < a)) := by
  rw [gc_gtI]; congr 1; rw [Bool.eq_iff_iff]; simp
theorem gl_len_tr (t : List Nat) : bi1 .len (.pu (trD t)) = .ok (.pu (.int (t.length : Nat))) := by simp [bi1, lenD, trD]
theorem gs_y0 (c s : Nat) : subD (.pu (ydD c s)) (.pu (.int ((0 : Nat) : Int))) = .ok (.pu (.int (c : Nat))) := rfl
theorem gs_y1 (c s : Nat) : subD (.pu (ydD c s)) (.pu (.int ((1 : Nat) : Int))) = .ok (.pu (.int (s : Nat))) := rfl
theorem gs_li {α : Type} (f : α → D) (l : List α) (d : α) (i : Nat) (h : i < l.length) : subD (.li (l.map f)) (.pu (.int (i : Nat))) = .ok (.pu (f (l.getD i d))) := by
  simp only [subD, M.seq, bind, R.bind, atD, List.length_map]
  rw [ixOf_nat _ _ h]
  simp [R.ofOpt, h]
theorem gk_hi_st (st : List (List Nat)) (i : Nat) (h : i ≤ st.length) : slcD (.pu (stD st)) none (some (i : Int)) = .ok (.pu (stD (st.take i))) := by
  simp only [slcD, stD]; rw [cut_take _ _ (by simpa using h), List.map_take]
theorem gk_lo_st (st : List (List Nat)) (i : Nat) (h : i ≤ st.length) : slcD (.pu (stD st)) (some (i : Int)) none = .ok (.pu (stD (st.drop i))) := by
  simp only [slcD, stD]; rw [cut_drop _ _ (by simpa using h), List.map_drop]
theorem gk_hi_tr (st : List Nat) (i : Nat) (h : i ≤ st.length) : slcD (.pu (trD st)) none (some (i : Int)) = .ok (.pu (trD (st.take i))) := by
  simp only [slcD, trD]; rw [cut_take _ _ (by simpa using h), List.map_take]
theorem gk_lo_tr (st : List Nat) (i : Nat) (h : i ≤ st.length) : slcD (.pu (trD st)) (some (i : Int)) none = .ok (.pu (trD (st.drop i))) := by
  simp only [slcD, trD]; rw [cut_drop _ _ (by simpa using h), List.map_drop]
theorem gb_addT (a b : List Nat) (h : a.length + b.length ≤ 1000) : binD .add (.pu (trD a)) (.pu (trD b)) = .ok (.pu (trD (a ++ b))) := bd_tr a b h
theorem ev_cst_nil {G : List Fn} {env : TR.Env} : ev G (.tup []) env = .ok (.pu (trD []), [], env) := ev_tup_ok evTs_nil (Nat.zero_le _)
theorem ev_slc_lo_go {G : List Fn} {a b : E} {ma m : M} {i : Int} {ra rb : List Nat} {env e1 e2 : TR.Env} (h : ev G a env = .ok (ma, ra, e1)) (h2 : ev G b e1 = .ok (.pu (.int i), rb, e2)) (ha : apart ra (muO (some b) ++ muO none) = true) (h3 : slcD ma (some i) none = .ok m) : ev G (.slc a (some b) none) env = .ok (m, [], e2) := by
  rw [ev, h]
  simp only [bind, R.bind]
  rw [evO, h2]
  simp only [bind, R.bind, intR]
  rw [evO]
  simp only
  rw [if_pos ha, h3]
theorem ev_slc_hi_go {G : List Fn} {a b : E} {ma m : M} {i : Int} {ra rb : List Nat} {env e1 e2 : TR.Env} (h : ev G a env = .ok (ma, ra, e1)) (h2 : ev G b e1 = .ok (.pu (.int i), rb, e2)) (ha : apart ra (muO none ++ muO (some b)) = true) (h3 : slcD ma none (some i) = .ok m) : ev G (.slc a none (some b)) env = .ok (m, [], e2) := by
  rw [ev, h]
  simp only [bind, R.bind]
  rw [evO]
  simp only
  rw [evO, h2]
  simp only [bind, R.bind, intR]
  rw [if_pos ha, h3]
end LB
set_option linter.all false
/-! walks of a for: a state, slots that are left over -/
namespace TR
open PySem
theorem ex_for_fold1 {α β : Type} {G : List Fn} {p : P} {it : E} {body : List S} {m : M} {rs : List Nat} {emb : α → D} {xs : List α} {f : β → α → β} (E : β → Option M → TR.Env) (I : β → Prop) (s0 : β) {a0 : Option M}
    (hit : ev G it (E s0 a0) = .ok (m, rs, E s0 a0)) (hs : itR m = .ok (xs.map emb)) (ha : apart rs (muSs body ++ p.slots) = true) (hI : I s0)
    (step : ∀ x ∈ xs, ∀ s a0, I s → I (f s x) ∧ ∃ b0, forB G p body (emb x) (E s a0) = .ok (.nx (E (f s x) b0))) :
    I (xs.foldl f s0) ∧ ∃ b0, ex G (.for_ p it body) (E s0 a0) = .ok (.nx (E (xs.foldl f s0) b0)) := by
  have H : ∀ (l : List α) s a0, (∀ x ∈ l, x ∈ xs) → I s → I (l.foldl f s) ∧ ∃ b0, foLoop (forB G p body) (l.map emb) (E s a0) = .ok (.nx (E (l.foldl f s) b0)) := by
    intro l
    induction l with
    | nil => intro s a0 _ hi; exact ⟨hi, a0, by simp [foLoop]⟩
    | cons x l ih =>
      intro s a0 hl hi
      obtain ⟨i1, c0, h1⟩ := step x (hl x (by simp)) s a0 hi
      obtain ⟨i2, d0, h2⟩ := ih (f s x) c0 (fun y hy => hl y (by simp [hy])) i1
      refine ⟨i2, d0, ?_⟩
      rw [List.map_cons, foLoop, h1]
      exact h2
  obtain ⟨i, d0, h⟩ := H xs s0 a0 (fun _ h => h) hI
  refine ⟨i, d0, ?_⟩
  exact ex_for_ok hit hs ha h
theorem forB_go {G : List Fn} {p : P} {body : List S} {x : D} {en e1 : TR.Env} {r : R Out} (h : bindP p x en = .ok e1) (h2 : exs G body e1 = r) : forB G p body x en = r := by
  rw [forB, h]; exact h2
theorem ex_par2_go {G : List Fn} {i j : Nat} {a b : E} {env e1 e2 e3 e4 E : TR.Env} {m1 m2 n1 n2 : M} {r1 r2 : List Nat} (h1 : ev G a env = .ok (m1, r1, e1)) (hk1 : keepR a (m1, r1, e1) = .ok (n1, e2)) (h2 : ev G b e2 = .ok (m2, r2, e3)) (hk2 : keepR b (m2, r2, e3) = .ok (n2, e4))
    (hi : i < e4.length) (hj : j < e4.length) (hE : (e4.set i (some n1)).set j (some n2) = E) : ex G (.par [i, j] [a, b]) env = .ok (.nx E) := by
  subst hE
  rw [ex, keepAll, h1]
  simp only [bind, R.bind]
  rw [hk1]
  simp only
  rw [keepAll, h2]
  simp only [bind, R.bind]
  rw [hk2]
  simp only [keepAll, bind, R.bind, setAll]
  rw [if_pos hi, if_pos (by rw [List.length_set]; exact hj)]
theorem ex_asgT_go {G : List Fn} {ps : List P} {e : E} {env e1 e2 E : TR.Env} {m : M} {rs : List Nat} {d : D} (h : ev G e env = .ok (m, rs, e1)) (h2 : takeR e (m, rs, e1) = .ok (d, e2)) (h3 : bindP (.t ps) d e2 = .ok E) : ex G (.asg (.t ps) e) env = .ok (.nx E) := ex_asg_t h h2 h3
theorem runP_go {G : List Fn} {n : Nat} {b : List S} {ds : List D} {m : M} {e e0 : TR.Env} (h0 : ds.map (fun d => some (M.pu d)) ++ List.replicate (n - ds.length) none = e0) (h : exs G b e0 = .ok (.ret m e)) : runP G n b ds = .ok m := by
  subst h0; exact runP_ret h
theorem runP_nx_go {G : List Fn} {n : Nat} {b : List S} {ds : List D} {e e0 : TR.Env} (h0 : ds.map (fun d => some (M.pu d)) ++ List.replicate (n - ds.length) none = e0) (h : exs G b e0 = .ok (.nx e)) : runP G n b ds = .ok (.pu .none) := by
  subst h0; exact runP_nx h
theorem exs_ret_go {G : List Fn} {e : E} {r : List S} {m m2 : M} {rs : List Nat} {env e1 e2 : TR.Env} (h : ev G e env = .ok (m, rs, e1)) (hm : retR e (m, rs, e1) = .ok (m2, e2)) : exs G (.ret e :: r) env = .ok (.ret m2 e2) := exs_ret (ex_ret_go h hm)
theorem set_0 {a x : Option M} {l : TR.Env} : List.set (a :: l) 0 x = x :: l := rfl
theorem set_S {a x : Option M} {l r : TR.Env} {n : Nat} (h : List.set l n x = r) : List.set (a :: l) (n + 1) x = a :: r := by rw [List.set_cons_succ, h]
theorem set_2 {l l1 r : TR.Env} {i j : Nat} {x y : Option M} (h1 : List.set l i x = l1) (h2 : List.set l1 j y = r) : List.set (List.set l i x) j y = r := by rw [h1, h2]
theorem bindP_v {i : Nat} {d : D} {en e1 : TR.Env} (hi : i < en.length) (h : List.set en i (some (.pu d)) = e1) : bindP (.v i) d en = .ok e1 := by
  rw [bindP, if_pos hi, h]
theorem bindP_t2 {i j : Nat} {d1 d2 : D} {en e1 e2 : TR.Env} (hi : i < en.length) (hj : j < en.length) (h : List.set en i (some (.pu d1)) = e1) (h2 : List.set e1 j (some (.pu d2)) = e2) : bindP (.t [.v i, .v j]) (.tuple [d1, d2]) en = .ok e2 := by
  subst h; subst h2
  rw [bindP, bindPs, bindP, if_pos hi]
  simp only [bind, R.bind]
  rw [bindPs, bindP, if_pos (by rw [List.length_set]; exact hj)]
  simp only [bind, R.bind]
  rw [bindPs]
theorem exs_nil_eq {G : List Fn} {env E : TR.Env} (h : env = E) : exs G [] env = .ok (.nx E) := by rw [← h]; exact exs_nil
theorem retR_pu {e : E} {d d2 : D} {rs : List Nat} {env : TR.Env} (h : d = d2) : retR e (.pu d, rs, env) = .ok (.pu d2, env) := by subst h; rfl
theorem retR_li0 {e : E} {d d2 : List D} {env : TR.Env} (h : d = d2) : retR e (.li d, [], env) = .ok (.li d2, env) := by subst h; rfl
theorem takeR_pu {e : E} {d : D} {rs : List Nat} {env : TR.Env} : takeR e (.pu d, rs, env) = .ok (d, env) := rfl
theorem takeR_li0 {e : E} {d : List D} {env : TR.Env} : takeR e (.li d, [], env) = .ok (.list d, env) := rfl
theorem keepR_pu {e : E} {d : D} {rs : List Nat} {env : TR.Env} : keepR e (.pu d, rs, env) = .ok (.pu d, env) := rfl
theorem keepR_li0 {e : E} {d : List D} {env : TR.Env} : keepR e (.li d, [], env) = .ok (.li d, env) := rfl
theorem keepR_di0 {e : E} {d : List (D × D)} {env : TR.Env} : keepR e (.di d, [], env) = .ok (.di d, env) := rfl
theorem ex_for_ex {α β : Type} {G : List Fn} {p : P} {it : E} {body : List S} {m : M} {rs : List Nat} {emb : α → D} {xs : List α} {env e1 : TR.Env} (E : β → TR.Env) (I : Nat → β → Prop) (s0 : β)
    (hit : ev G it env = .ok (m, rs, e1)) (h0 : E s0 = e1) (hs : itR m = .ok (xs.map emb)) (ha : apart rs (muSs body ++ p.slots) = true) (hI : I 0 s0)
    (step : ∀ k x, xs[k]? = some x → ∀ s, I k s → ∃ s', I (k + 1) s' ∧ forB G p body (emb x) (E s) = .ok (.nx (E s'))) :
    ∃ s', I xs.length s' ∧ ex G (.for_ p it body) env = .ok (.nx (E s')) := by
  have H : ∀ (l : List α) k s, xs.drop k = l → k ≤ xs.length → I k s → ∃ s', I xs.length s' ∧ foLoop (forB G p body) (l.map emb) (E s) = .ok (.nx (E s')) := by
    intro l
    induction l with
    | nil =>
      intro k s hd hk hi
      have : k = xs.length := by
        have := congrArg List.length hd
        simp at this
        omega
      subst this
      exact ⟨s, hi, by simp [foLoop]⟩
    | cons x l ih =>
      intro k s hd hk hi
      have hx : xs[k]? = some x := by
        have := congrArg (fun l : List α => l[0]?) hd
        simpa using this
      have hd2 : xs.drop (k + 1) = l := by
        rw [← List.drop_drop, hd]; rfl
      have hk2 : k < xs.length := by
        rcases Nat.lt_or_ge k xs.length with h | h
        · exact h
        · rw [List.getElem?_eq_none h] at hx; cases hx
      obtain ⟨s1, i1, h1⟩ := step k x hx s hi
      obtain ⟨s2, i2, h2⟩ := ih (k + 1) s1 hd2 hk2 i1
      refine ⟨s2, i2, ?_⟩
      rw [List.map_cons, foLoop, h1]
      exact h2
  obtain ⟨s', i, h⟩ := H xs 0 s0 rfl (Nat.zero_le _) hI
  subst h0
  exact ⟨s', i, ex_for_ok hit hs ha h⟩
theorem ev_lst_go {G : List Fn} {as : List E} {env e1 : TR.Env} {ds : List D} (h : evTs G as env = .ok (ds, e1)) (hb : ds.length ≤ 1000) : ev G (.lst as) env = .ok (.li ds, [], e1) := ev_lst_ok h (Nat.le_trans hb (by unfold big; omega))
theorem ev_tup_go {G : List Fn} {as : List E} {env e1 : TR.Env} {ds : List D} (h : evTs G as env = .ok (ds, e1)) (hb : ds.length ≤ 1000) : ev G (.tup as) env = .ok (.pu (.tuple ds), [], e1) := ev_tup_ok h (Nat.le_trans hb (by unfold big; omega))
theorem ev_rgl_t {G : List Fn} {a : E} {n : Nat} {ra : List Nat} {env : TR.Env} (h : ev G a env = .ok (.pu (.int (n : Nat)), ra, env)) (hn : n ≤ 1000) : ev G (.rgl true [a]) env = .ok (.pu (LB.trD (List.range n)), [], env) := ev_rgl_go h hn
theorem gu_get {G : List Fn} {k : Nat} {r : Option Fn} (h : G[k]? = r) : G[k]? = r := h
theorem gu_itR {m : M} {r : R (List D)} (h : itR m = r) : itR m = r := h
theorem gu_seq {m : M} {r : R (List D)} (h : m.seq = r) : m.seq = r := h
theorem gu_nlAt {m : M} {e : E} {r : Option (Nat × List D)} (h : nlAt m e = r) : nlAt m e = r := h
theorem gu_den {env : TR.Env} {vs : List Nat} {b r : Bool} (h : (den env vs && b) = r) : (den env vs && b) = r := h
theorem gu_bind {p : P} {d : D} {e : TR.Env} {r : R TR.Env} (h : bindP p d e = r) : bindP p d e = r := h
theorem gu_eget {e : TR.Env} {i : Nat} {r : R M} (h : e.get i = r) : e.get i = r := h
theorem gu_nl {m : M} {r : Bool} (h : m.isNl = r) : m.isNl = r := h
theorem gu_st1 {e : E} {r : Bool} (h : isSt1 e = r) : isSt1 e = r := h
theorem gu_b {a b : Bool} (h : a = b) : a = b := h
theorem gl_int (i : Int) : bi1 .int (.pu (.int i)) = .ok (.pu (.int i)) := rfl
theorem apart_nil {mu : List Nat} : apart [] mu = true := rfl
theorem gd_ev {G : List Fn} {e : E} {env : TR.Env} {r : R (M × List Nat × TR.Env)} (h : ev G e env = r) : ev G e env = r := h
theorem gd_ex {G : List Fn} {e : S} {env : TR.Env} {r : R Out} (h : ex G e env = r) : ex G e env = r := h
theorem gd_exs {G : List Fn} {e : List S} {env : TR.Env} {r : R Out} (h : exs G e env = r) : exs G e env = r := h
theorem gd_forB {G : List Fn} {p : P} {body : List S} {x : D} {env : TR.Env} {r : R Out} (h : forB G p body x env = r) : forB G p body x env = r := h
theorem gd_evTs {G : List Fn} {e : List E} {env : TR.Env} {r : R (List D × TR.Env)} (h : evTs G e env = r) : evTs G e env = r := h
theorem gd_bin {o : BOp} {a b : M} {r : R M} (h : binD o a b = r) : binD o a b = r := h
theorem gd_cmp {o : COp} {a b : M} {r : R Bool} (h : cmpD o a b = r) : cmpD o a b = r := h
theorem gd_bi1 {o : Bi} {a : M} {r : R M} (h : bi1 o a = r) : bi1 o a = r := h
theorem gd_sub {a b : M} {r : R M} (h : subD a b = r) : subD a b = r := h
theorem gd_slc {a : M} {x y : Option Int} {r : R M} (h : slcD a x y = r) : slcD a x y = r := h
theorem gd_lt {a b : Nat} (h : a < b) : a < b := h
theorem gd_le {a b : Nat} (h : a ≤ b) : a ≤ b := h
end TR
set_option linter.all false
set_option maxRecDepth 20000
namespace LB
open PySem TR
structure SS (cs : List Nat) (s : Nat) : Prop where
  pw : cs.Pairwise (· < ·)
  lt : ∀ x ∈ cs, x < s
  len : cs.length ≤ s
end LB
set_option linter.all false
set_option maxRecDepth 20000
/-! draws, with the row's state hidden -/
namespace LB
open PySem TR
def RW (w : M) : Prop := ∃ (ns : List Int) (i : Nat) (sd rs : Int), ns.length ≤ 63 ∧ w = rowM ns i sd rs
theorem rw_own {w : M} (h : RW w) : w.own = true := by obtain ⟨ns, i, sd, rs, _, rfl⟩ := h; rfl
theorem taken_any (w : M) (hw : RW w) (k : Nat) (h1 : 0 < k) (h2 : k < 2000000) : ∃ (v : Nat) (w' : M), RW w' ∧ d_L_taken w [.int (k : Nat)] = .ok (.pu (.int (v : Nat)), w') ∧ v < k := by
  obtain ⟨ns, i, sd, rs, hn, rfl⟩ := hw
  obtain ⟨v, i2, sd2, rs2, h3, h4⟩ := taken_ok ns hn i sd rs k (by omega) (by omega)
  exact ⟨v, _, ⟨ns, i2, sd2, rs2, hn, rfl⟩, h3, by omega⟩
theorem row_any (w : M) (hw : RW w) (c s m : Nat) (hy : GoodY c s) (hm : m ≤ 60) : ∃ (ks : List Nat) (w' : M), RW w' ∧ d_L_row w [ydD c s, .int (m : Nat)] = .ok (.pu (trD ks), w') ∧ (∀ k ∈ ks, k < c) ∧ ks.length ≤ m := by
  obtain ⟨ns, i, sd, rs, hn, rfl⟩ := hw
  obtain ⟨ks, i2, sd2, rs2, h3, h4⟩ := row_ok ns hn i sd rs c s m hy hm
  exact ⟨ks, _, ⟨ns, i2, sd2, rs2, hn, rfl⟩, h3, h4⟩
theorem rw_init (ns : List Int) (hn : ns.length ≤ 63) (k : Int) : RW (.li [.list (ns.map .int), .int 0, .int k, .int 0]) := ⟨ns, 0, k, 0, hn, rfl⟩
theorem ev_callW_go {G : List Fn} {k y : Nat} {as : List E} {env e1 E : TR.Env} {ds : List D} {f : FW} {m m0 m1 mx : M} (hy : env.get y = .ok mx) (hf : G[k]? = some (.wr f)) (h : evTs G as env = .ok (ds, e1)) (h0 : e1.get y = .ok m0) (ho : m0.own = true) (hr : f m0 ds = .ok (m, m1)) (ho1 : m1.own = true) (hE : e1.set y (some m1) = E) :
    ev G (.callW k y as) env = .ok (m, [], E) := by
  subst hE; exact ev_callW_ok hy hf h h0 ho hr ho1
end LB
set_option linter.all false
set_option maxRecDepth 20000
/-! moves at once: the ring word stays; turns -/
namespace LB
open PySem TR
end LB
set_option linter.all false
set_option maxRecDepth 20000
/-! small facts for the walk by goal -/
namespace LB
open PySem TR
theorem lit_of (n : Nat) : PyData.int (@OfNat.ofNat Int n instOfNat) = PyData.int ((@OfNat.ofNat Nat n (instOfNatNat n) : Nat) : Int) := rfl
theorem gb_mulN2 (a b : Nat) (h : b ≤ 1000000) : binD .mul (.pu (.int (a : Int))) (.pu (.int (b : Int))) = .ok (.pu (.int ((a * b : Nat) : Int))) := by
  have h2 : okBits (b : Int) = true := by unfold okBits; rw [decide_eq_true_eq]; omega
  show (if (okBits (a : Int) || okBits (b : Int)) = true then R.ok (M.pu (.int ((a : Int) * b))) else R.bad) = _
  rw [h2, Bool.or_true, if_pos rfl]
  simp
theorem evTs_st {G : List Fn} {a : E} {es : List E} {env e1 e2 : TR.Env} {m : M} {ra : List Nat} {xs ds : List D} (h : ev G a env = .ok (m, ra, e1)) (hs : m.seq = .ok xs) (h2 : evTs G es e1 = .ok (ds, e2)) : evTs G (.star a :: es) env = .ok (xs ++ ds, e2) := by
  rw [evTs, h]
  simp only [bind, R.bind]
  rw [hs]
  simp only []
  rw [h2]
theorem need_yardN (c s : Nat) (hy : GoodY c s) : d_f_need_yard [ydD c s] = .ok (.pu .none) := by
  have h1 := hy.c1
  have h7 := hy.c7
  have h2 := hy.s2
  have h8 := hy.s8
  exact need_yard_ok c s (by omega) (by omega) (by omega) (by omega)
theorem alike_nD : ∀ (a b : List Nat), W.alikeAll (a.map nD) (b.map nD) = true
  | [], [] => by simp [W.alikeAll]
  | [], y :: b => by simp [W.alikeAll]
  | x :: a, [] => by simp [W.alikeAll]
  | x :: a, y :: b => by
    have := alike_nD a b
    simp [W.alikeAll, W.alike, this]
end LB
set_option linter.all false
set_option maxRecDepth 20000
set_option maxHeartbeats 4000000
/-! names and turns of states; counts -/
namespace LB
open PySem TR
-- GO
local macro_rules | `(tactic| lt_chain) => `(tactic| (first | with_reducible assumption | (with_reducible first | apply aon_good | apply gfin_good | apply turn_good | apply ss_one | apply mv_good | apply cl_good | apply fin_good | apply ren_good) <;> lt_chain | with_reducible exact ps_ltL (by with_reducible assumption) (by with_reducible assumption) | with_reducible exact ps_ltS (by with_reducible assumption) (by with_reducible assumption) | omega | with_reducible exact sbm_lt' (by omega) (by omega) | with_reducible exact fi_le _ _ | with_reducible exact of_decide_eq_true (by with_reducible assumption) | with_reducible exact trP_pos (by with_reducible assumption) | with_reducible exact fi_leF _ _ _ | with_reducible exact all_lt (by with_reducible assumption) (by with_reducible assumption) | with_reducible exact perm_lt (by with_reducible assumption) (by with_reducible assumption) | with_reducible exact mem_lt (by with_reducible assumption) (by with_reducible assumption) (by with_reducible assumption) | with_reducible exact mem_len (by with_reducible assumption) (by with_reducible assumption) (by with_reducible assumption) | (have hmr := all_lt (by with_reducible assumption) (by with_reducible assumption); omega) | (have hmr := perm_lt (by with_reducible assumption) (by with_reducible assumption); omega) | (have hmr := mem_lt (by with_reducible assumption) (by with_reducible assumption) (by with_reducible assumption); omega) | with_reducible exact List.mem_range.1 (by with_reducible assumption) | (have hmr := List.mem_range.1 (by with_reducible assumption); omega) | (simp only [List.length_map, List.length_range, List.length_range', List.mem_range, List.length_append, List.length_drop, List.length_take, List.length_reverse, List.length_replicate, List.length_set, List.length_nil, List.length_cons]; omega)))
local macro_rules | `(tactic| k_mem) => `(tactic| with_reducible first
  | (apply is_in_int <;> lt_chain) | (apply is_list_tup <;> lt_chain) | (apply need_yard_ok <;> lt_chain) | (apply need_car_ok <;> lt_chain) | (apply need_trains_ok <;> lt_chain) | (apply need_state_ok <;> lt_chain) | (apply station_of_ok <;> lt_chain) | (apply train_of_ok <;> lt_chain) | (apply count_trains_ok <;> lt_chain) | (apply first_state_ok <;> lt_chain) | (apply is_full_ok <;> lt_chain) | (apply longest_ok <;> lt_chain) | (apply need_station_ok <;> lt_chain) | (apply move_in_ok <;> lt_chain) | (apply L_move_ok <;> lt_chain) | (apply st_in <;> lt_chain) | (apply call_in_ok <;> lt_chain) | (apply L_call_ok <;> lt_chain) | (apply call_ok <;> lt_chain) | (apply move_ok <;> lt_chain) | (apply story_in_ok <;> lt_chain) | (apply need_calls_ok <;> lt_chain) | (apply after_ok <;> lt_chain) | (apply story_ok <;> lt_chain) | (apply trains_left_ok <;> lt_chain) | (apply after_moves_ok <;> lt_chain) | (apply taken_stations_ok <;> lt_chain) | (apply without_ok <;> lt_chain) | (apply needless_ok <;> lt_chain) | (apply exchanges_ok <;> lt_chain) | (apply couplings_ok <;> lt_chain) | (apply steps_of_ok <;> lt_chain) | (apply first_coupling_ok <;> lt_chain) | (apply is_set_ok <;> lt_chain) | (apply need_closed_ok <;> lt_chain) | (apply closed_move_ok <;> lt_chain) | (apply closed_call_ok <;> lt_chain) | (apply closed_after_ok <;> lt_chain) | (apply room_in_ok <;> lt_chain) | (apply rooms_ok <;> lt_chain) | (apply car_rooms_ok <;> lt_chain) | (apply is_shut_ok <;> lt_chain) | (apply word_in_ok <;> lt_chain) | (apply L_word_ok <;> lt_chain) | (apply ring_word_ok <;> lt_chain) | (apply same_ring_ok <;> lt_chain) | (apply L_done_ok <;> lt_chain) | (apply heads_ok <;> lt_chain) | (apply cuts_ok <;> lt_chain) | (apply is_setS_ok <;> lt_chain) | (apply at_once_in_ok <;> lt_chain) | (apply at_once_inL_ok <;> lt_chain) | (apply at_once_ok <;> lt_chain) | (apply all_at_once_ok <;> lt_chain) | (apply L_at_once_ok <;> lt_chain) | (apply L_at_onceL_ok <;> lt_chain) | (apply is_list_st <;> lt_chain) | (apply need_groups_ok <;> lt_chain) | (apply after_groups_ok <;> lt_chain) | (apply alternating_ok <;> lt_chain) | (apply is_list_tr <;> lt_chain) | (apply need_yardN <;> lt_chain) | (apply arcs_in_go <;> lt_chain) | (apply trains_in_go <;> lt_chain) | (apply need_names_ok <;> lt_chain) | (apply renamed_ok <;> lt_chain) | (apply renamed_calls_ok <;> lt_chain) | (apply turned_ok <;> lt_chain) | (apply renamed_word_ok <;> lt_chain) | (apply number_of_states_ok <;> lt_chain) | (apply count_states_ok <;> lt_chain) | (apply count_turns_ok <;> lt_chain) | (apply choose_ok <;> lt_chain) | (apply count_on_word_ok <;> lt_chain) | (apply count_shapes_ok <;> lt_chain) | (apply is_turn_true <;> lt_chain) | (apply can_be_train_ok <;> lt_chain) | (apply can_be_row <;> lt_chain) | (apply last_orders_go <;> lt_chain) | (apply arcs_go <;> lt_chain) | (apply renamed_row <;> lt_chain) | (apply station_in_go <;> lt_chain) | (apply heights_in_ok <;> lt_chain) | (apply heights_ok <;> lt_chain) | (apply need_word_ok <;> lt_chain) | (apply need_heights_ok <;> lt_chain) | (apply build_ok <;> lt_chain) | (apply from_heights_ok <;> lt_chain) | (apply from_heights_st <;> lt_chain) | (apply is_stuck_ok <;> lt_chain) | (apply rises_in_ok <;> lt_chain) | (apply rises_none <;> lt_chain) | (apply ron_ok <;> lt_chain) | (apply ron_stuck <;> lt_chain) | (apply ron_none <;> lt_chain) | (apply can_come_ok <;> lt_chain) | (apply can_come_no <;> lt_chain) | (apply need_rises_ok <;> lt_chain) | (apply fewest_in_ok <;> lt_chain) | (apply fewest_calls_ok <;> lt_chain) | (apply rises_ok <;> lt_chain) | (apply can_come_at_once_ok <;> lt_chain) | (apply need_rises_g_ok <;> lt_chain) | (apply fewest_groups_ok <;> lt_chain) | (apply ris_no <;> lt_chain) | (apply gap_in_ok <;> lt_chain) | (apply all_gaps_ok <;> lt_chain) | (apply mean_calls_ok <;> lt_chain) | (apply count_by_left_ok <;> lt_chain) | (apply count_reached_ok <;> lt_chain) | (apply distance_ok <;> lt_chain) | (apply wasted_ok <;> lt_chain) | (apply still_ok <;> lt_chain))
local macro_rules | `(tactic| infer_instance) => `(tactic| first
  | with_reducible assumption
  | (intro _ ; infer_instance)
  | ((with_reducible first | apply gd_lt | apply gd_le | apply gd_lti | apply gd_lei); lt_chain)
  | ((with_reducible apply gd_ev); first
    | with_reducible exact ev_cst_nil
    | (with_reducible apply ev_cst_eq) <;> first | exact lit_of _ | exact lit_nat _ | exact rfl
    | (with_reducible apply ev_glb_eq) <;> first | exact lit_of _ | exact lit_nat _ | exact rfl
    | (with_reducible apply ev_var_ok) <;> exact rfl
    | (with_reducible apply ev_ownvar) <;> exact rfl
    | (with_reducible apply ev_diown) <;> exact rfl
    | with_reducible exact ev_dct0
    | ((with_reducible apply ev_tup1n); (next => (infer_instance; done)); (next => exact rfl))
    | ((with_reducible apply ev_alike_go); (next => exact rfl); (next => with_reducible rfl); all_goals infer_instance)
    | ((with_reducible apply ev_nalike_go); (next => exact rfl); (next => with_reducible rfl); all_goals infer_instance)
    | (with_reducible apply ev_sub_ok) <;> infer_instance
    | (with_reducible apply ev_bin_ok') <;> infer_instance
    | (with_reducible apply ev_cmp_ok) <;> infer_instance
    | (with_reducible apply ev_call_ok) <;> infer_instance
    | (with_reducible apply ev_not_ok) <;> infer_instance
    | (with_reducible apply ev_lenset) <;> infer_instance
    | (with_reducible apply ev_bi1_ok) <;> infer_instance
    | (with_reducible apply ev_mt1_ok) <;> infer_instance
    | (with_reducible apply ev_rng1_go) <;> infer_instance
    | (with_reducible apply ev_rng2_go) <;> infer_instance
    | (with_reducible apply ev_rgl_t) <;> infer_instance
    | (with_reducible apply ev_rgl_f) <;> infer_instance
    | (with_reducible apply ev_enm_go) <;> infer_instance
    | (with_reducible apply ev_zip_same) <;> infer_instance
    | (with_reducible apply ev_zip_go) <;> infer_instance
    | (with_reducible apply ev_rvd_go) <;> infer_instance
    | (with_reducible apply ev_iscB) <;> infer_instance
    | (with_reducible apply ev_isc_g) <;> infer_instance
    | (with_reducible apply ev_slc_lo_go) <;> infer_instance
    | (with_reducible apply ev_slc_hi_go) <;> infer_instance
    | (with_reducible apply ev_neg_ok) <;> infer_instance
    | (with_reducible apply ev_and_go) <;> infer_instance
    | (with_reducible apply ev_or_go) <;> infer_instance
    | (with_reducible apply ev_ite_g) <;> infer_instance
    | (with_reducible apply ev_lst_star2) <;> infer_instance
    | (with_reducible apply ev_lst_go) <;> infer_instance
    | (with_reducible apply ev_tup_starV) <;> infer_instance
    | (with_reducible apply ev_tup_star2) <;> infer_instance
    | (with_reducible apply ev_tup_go) <;> infer_instance
    | (with_reducible apply ev_lc_go0) <;> infer_instance
    | (with_reducible apply ev_lc_go) <;> infer_instance
    | (with_reducible apply ev_callW_go) <;> infer_instance
    | with_reducible apply hold_ev
    | skip)
  | ((with_reducible apply gd_evTs); first
    | with_reducible exact evTs_nil
    | with_reducible exact evCs_go0
    | (with_reducible apply evTs_c1) <;> infer_instance
    | (with_reducible apply evCs1) <;> infer_instance
    | with_reducible apply hold_evTs
    | with_reducible apply hold_evCs
    | skip)
  | ((with_reducible apply gd_evCs); first
    | with_reducible exact evTs_nil
    | with_reducible exact evCs_go0
    | (with_reducible apply evTs_c1) <;> infer_instance
    | (with_reducible apply evCs1) <;> infer_instance
    | with_reducible apply hold_evTs
    | with_reducible apply hold_evCs
    | skip)
  | ((with_reducible apply gd_exs); first
    | (with_reducible apply exs_nil_eq) <;> exact rfl
    | with_reducible apply exs_nil_eq
    | (with_reducible apply exs_ret_go) <;> infer_instance
    | (with_reducible apply exs_go) <;> infer_instance
    | (with_reducible apply ex_ret_go) <;> infer_instance
    | (with_reducible apply ex_do_go) <;> infer_instance
    | (with_reducible apply ex_asg_go) <;> infer_instance
    | (with_reducible apply ex_asgT_go) <;> infer_instance
    | (with_reducible apply ex_app_go) <;> infer_instance
    | (with_reducible apply ex_setI_go) <;> infer_instance
    | (with_reducible apply ex_par2_go) <;> infer_instance
    | (with_reducible apply ex_par3_go) <;> infer_instance
    | (with_reducible apply ex_if_go) <;> infer_instance
    | (with_reducible apply forB_go) <;> infer_instance
    | with_reducible apply hold_ex
    | with_reducible apply hold_exs
    | skip)
  | ((with_reducible apply gd_ex); first
    | (with_reducible apply exs_nil_eq) <;> exact rfl
    | with_reducible apply exs_nil_eq
    | (with_reducible apply exs_ret_go) <;> infer_instance
    | (with_reducible apply exs_go) <;> infer_instance
    | (with_reducible apply ex_ret_go) <;> infer_instance
    | (with_reducible apply ex_do_go) <;> infer_instance
    | (with_reducible apply ex_asg_go) <;> infer_instance
    | (with_reducible apply ex_asgT_go) <;> infer_instance
    | (with_reducible apply ex_app_go) <;> infer_instance
    | (with_reducible apply ex_setI_go) <;> infer_instance
    | (with_reducible apply ex_par2_go) <;> infer_instance
    | (with_reducible apply ex_par3_go) <;> infer_instance
    | (with_reducible apply ex_if_go) <;> infer_instance
    | (with_reducible apply forB_go) <;> infer_instance
    | with_reducible apply hold_ex
    | with_reducible apply hold_exs
    | skip)
  | ((with_reducible apply gd_forB); first
    | (with_reducible apply exs_nil_eq) <;> exact rfl
    | with_reducible apply exs_nil_eq
    | (with_reducible apply exs_ret_go) <;> infer_instance
    | (with_reducible apply exs_go) <;> infer_instance
    | (with_reducible apply ex_ret_go) <;> infer_instance
    | (with_reducible apply ex_do_go) <;> infer_instance
    | (with_reducible apply ex_asg_go) <;> infer_instance
    | (with_reducible apply ex_asgT_go) <;> infer_instance
    | (with_reducible apply ex_app_go) <;> infer_instance
    | (with_reducible apply ex_setI_go) <;> infer_instance
    | (with_reducible apply ex_par2_go) <;> infer_instance
    | (with_reducible apply ex_par3_go) <;> infer_instance
    | (with_reducible apply ex_if_go) <;> infer_instance
    | (with_reducible apply forB_go) <;> infer_instance
    | with_reducible apply hold_ex
    | with_reducible apply hold_exs
    | skip)
  | ((with_reducible apply gd_bin); first
    | (with_reducible first
      | apply gb_addN
      | (apply gb_subN <;> lt_chain)
      | (apply gb_modN <;> lt_chain)
      | (apply gb_modS <;> lt_chain)
      | (apply gb_addS <;> lt_chain)
      | (apply gb_addT <;> lt_chain)
      | (apply gb_addL <;> lt_chain)
      | (apply gb_mulN <;> lt_chain)
      | (apply gb_fdivN <;> lt_chain)
      | (apply gb_repT <;> lt_chain)
      | (apply gb_rep1 <;> lt_chain)
      | (apply gx_modI <;> lt_chain)
      | (apply gx_modII <;> lt_chain)
      | (apply gb_mulN2 <;> lt_chain)
      | (apply gx_fdivI <;> lt_chain)
      | (apply gb_mulI <;> lt_chain)
      | apply bd_add
      | apply bd_sub
      | fail)
    | k_mem
    | with_reducible exact rfl
    | skip)
  | ((with_reducible apply gd_cmp); first
    | (with_reducible first
      | apply gc_eqN
      | apply gc_neN
      | apply gc_ltN
      | apply gc_gtN
      | apply gc_leN
      | apply gc_geN
      | apply in_cs
      | apply nin_cs
      | apply gc_in_it
      | apply gc_nin_it
      | apply gc_in_lst
      | apply gc_nin_lst
      | apply cmp_st
      | apply cmp_st_ne
      | apply cmp_tr
      | apply cmp_tr_ne
      | apply gc_neL
      | apply gc_eqL
      | apply gc_neL0
      | apply gc_eqL0
      | apply gc_neS
      | apply gc_in_itF
      | apply gc_neS0
      | apply gc_neB
      | apply gc_ltI
      | apply gc_leI
      | apply gc_gtI
      | apply gc_geI
      | apply gc_eqI
      | apply gc_neI
      | fail)
    | k_mem
    | with_reducible exact rfl
    | skip)
  | ((with_reducible apply gd_sub); first
    | (with_reducible first
      | apply gs_y0
      | apply gs_y1
      | (apply gx_rngP <;> lt_chain)
      | (apply gx_rngL <;> lt_chain)
      | (apply gx_rng <;> lt_chain)
      | (apply sub_stD <;> lt_chain)
      | (apply sub_trD <;> lt_chain)
      | (apply gs_li <;> lt_chain)
      | (apply gs_tu <;> lt_chain)
      | (apply gs_st_neg <;> lt_chain)
      | (apply gs_neg <;> lt_chain)
      | (apply nm_sub <;> lt_chain)
      | fail)
    | k_mem
    | with_reducible exact rfl
    | skip)
  | ((with_reducible apply gd_bi1); first
    | (with_reducible first
      | apply gx_sum
      | apply gl_len_st
      | apply gl_len_tr
      | apply gl_len_li
      | apply gl_len_tu
      | apply gl_tup_st
      | apply gl_tup_tr
      | apply gl_tup_it
      | apply gl_list_st
      | apply gl_list_tr
      | apply gl_list_it
      | apply gl_list_li
      | apply gx_all
      | apply gx_any
      | apply gx_allB
      | apply gl_ist
      | apply gl_intB
      | (apply gx_maxN <;> lt_chain)
      | (apply gx_maxR <;> lt_chain)
      | (apply sort_tr <;> lt_chain)
      | (apply sort_trsF <;> lt_chain)
      | (apply sort_itF <;> lt_chain)
      | apply gl_int
      | apply gl_tupA
      | apply gl_tupB
      | apply gl_tupC
      | apply gl_lisA
      | apply gl_lisB
      | apply gl_lisC
      | fail)
    | k_mem
    | with_reducible exact rfl
    | skip)
  | ((with_reducible apply gd_mt); first
    | (with_reducible first
      | (apply gx_tidx <;> lt_chain)
      | (apply gx_idx <;> lt_chain)
      | (apply gx_idxF <;> lt_chain)
      | fail)
    | k_mem
    | with_reducible exact rfl
    | skip)
  | ((with_reducible apply gd_slc); first
    | (with_reducible first
      | (apply gk_hi_st <;> lt_chain)
      | (apply gk_lo_st <;> lt_chain)
      | (apply gk_hi_tr <;> lt_chain)
      | (apply gk_lo_tr <;> lt_chain)
      | (apply gk_hi_li <;> lt_chain)
      | (apply gk_lo_li <;> lt_chain)
      | fail)
    | k_mem
    | with_reducible exact rfl
    | skip)
  | (with_reducible exact rw_own (by assumption))
  | (with_reducible first | apply isNon_ls | apply isNon_li | apply isNon_no | apply isNon_int | apply cond_tr | apply cond_st | apply cond_n | apply tup_int | apply tup_bool | apply gx_turn | (apply tup_st8 <;> lt_chain) | (apply tup_tr8 <;> lt_chain) | (apply tup_lst8 <;> lt_chain) | (apply tup_tus8 <;> lt_chain) | (apply tup_pairs8 <;> lt_chain) | (apply is_list_tr <;> lt_chain))
  | (with_reducible first | apply retR_pu | apply retR_li0 | apply retR_li1) <;> infer_instance
  | (with_reducible first | exact takeR_pu | exact takeR_li0 | exact takeR_nl0 | exact takeR_di0 | exact keepR_pu | exact keepR_li0 | exact keepR_nl0 | exact keepR_di0)
  | (with_reducible first | apply takeR_li1 | apply keepR_li1) <;> infer_instance
  | with_reducible exact wipe_0
  | (with_reducible apply wipe_S) <;> infer_instance
  | with_reducible exact set_0
  | (with_reducible apply set_S) <;> infer_instance
  | (with_reducible apply set_2) <;> infer_instance
  | (with_reducible apply bindP_v) <;> infer_instance
  | (with_reducible apply bindP_yd) <;> infer_instance
  | (with_reducible apply bindP_t2) <;> infer_instance
  | (with_reducible apply bindP_t3) <;> infer_instance
  | k_mem
  | (with_reducible first | apply hold_fn | apply hold_fw)
  | with_reducible exact apart_nil
  | (with_reducible apply apart_of) <;> simp [apart, muE, muEs, muT, muTs, muO, muS, muSs, P.slots, P.slotsL]
  | (with_reducible first | apply gu_get | apply gu_itR | apply gu_seq | apply gu_nlAt | apply gu_den | apply gu_take | apply gu_keep | apply gu_ret | apply gu_bind | apply gu_eget | apply gu_nl | apply gu_st1 | apply gu_own | apply gu_wipe | apply gu_set) <;> exact rfl
  | with_reducible exact rfl
  | ((with_reducible apply gu_b); simp only [Bool.not_true, Bool.not_false, Bool.and_true, Bool.true_and, Bool.or_false, Bool.false_or, Bool.or_self, Bool.and_self, Bool.not_not, Bool.or_true, Bool.true_or, Bool.and_false, Bool.false_and]; done)
  | lt_chain
  | skip)
-- OG
local macro_rules | `(tactic| k_mem) => `(tactic| with_reducible (apply need_names_ok <;> lt_chain))
theorem number_of_states_ok (c s : Nat) (hy : GoodY c s) : d_f_number_of_states [ydD c s] = .ok (.pu (.int ((List.range c).foldl (fun a i => a * (s + i)) 1 : Nat))) := by
  have h7 := hy.c7
  have h8 := hy.s8
  obtain ⟨_, a, hf⟩ := ex_for_fold1 (G := g_f_number_of_states) (p := .v 4) (it := .rng [(.var 1)]) (body := [(.asg (.v 3) (.bin .mul (.var 3) (.bin .add (.var 2) (.var 4))))])
    (fun (x : Nat) a => [some (.pu (ydD c s)), some (.pu (.int (c : Nat))), some (.pu (.int (s : Nat))), some (.pu (.int (x : Nat))), a]) (fun _ => True) 1 (f := fun a i => a * (s + i)) (xs := List.range c) (emb := nD) (a0 := none) (by infer_instance) rfl rfl trivial (by
    intro x hx cur a hc
    refine ⟨trivial, ?_⟩
    apply Exists.intro
    infer_instance)
  unfold d_f_number_of_states
  apply runP_go (e0 := [some (.pu (ydD c s)), none, none, none, none]) rfl
  unfold b_f_number_of_states
  infer_instance
local macro_rules | `(tactic| k_mem) => `(tactic| with_reducible (apply number_of_states_ok <;> lt_chain))
local macro_rules | `(tactic| k_mem) => `(tactic| with_reducible (apply choose_ok <;> lt_chain))
local macro_rules | `(tactic| k_mem) => `(tactic| with_reducible (apply is_turn_true <;> lt_chain))
end LB
set_option linter.all false
set_option maxRecDepth 20000
/-! names and turns: what stays -/
namespace LB
open PySem TR
/-! names -/
end LB
set_option linter.all false
set_option maxRecDepth 20000
/-! heights: the ring word, station by station -/
namespace LB
open PySem TR
structure Cut (c s : Nat) (st : List (List Nat)) (p : Nat) (A B : List Nat) : Prop where
  hp : p < s
  e : st.getD p [] = A ++ 0 :: B
end LB
set_option linter.all false
set_option maxRecDepth 20000
set_option maxHeartbeats 4000000
/-! heights of the cars: the walk -/
namespace LB
open PySem TR
end LB
set_option linter.all false
set_option maxRecDepth 20000
set_option maxHeartbeats 4000000
/-! heights, there and back -/
namespace LB
open PySem TR
theorem bindP_yd {i j c s : Nat} {en e1 e2 : TR.Env} (hi : i < en.length) (hj : j < en.length) (h : List.set en i (some (.pu (.int (c : Nat)))) = e1) (h2 : List.set e1 j (some (.pu (.int (s : Nat)))) = e2) : bindP (.t [.v i, .v j]) (ydD c s) en = .ok e2 := bindP_t2 hi hj h h2
end LB
set_option linter.all false
set_option maxRecDepth 20000
set_option maxHeartbeats 4000000
/-! the state of a word and heights -/
namespace LB
open PySem TR
end LB
set_option linter.all false
set_option maxRecDepth 20000
set_option maxHeartbeats 4000000
/-! build, from_heights -/
namespace LB
open PySem TR
end LB
set_option linter.all false
set_option maxRecDepth 20000
/-! heights, there and back: the plain law -/
namespace LB
open PySem TR
theorem flat_none (n : Nat) (g : Nat → List Nat) (h : ∀ j, j < n → g j = []) : ((List.range n).map g).flatten = [] := by
  rw [List.flatten_eq_nil_iff]
  intro t ht
  obtain ⟨j, hj, rfl⟩ := List.mem_map.1 ht
  exact h j (List.mem_range.1 hj)
theorem flat_pick (n j0 : Nat) (g : Nat → List Nat) (hj : j0 < n) (h : ∀ j, j < n → j ≠ j0 → g j = []) : ((List.range n).map g).flatten = g j0 := by
  induction n with
  | zero => omega
  | succ n ih =>
    rw [List.range_succ, List.map_append, List.flatten_append]
    by_cases e : j0 = n
    · subst e
      rw [flat_none j0 g fun j hj2 => h j (by omega) (by omega)]
      simp
    · rw [ih (by omega) fun j hj2 => h j (by omega)]
      simp [h n (by omega) (fun z => e z.symm)]
end LB
set_option linter.all false
set_option maxRecDepth 20000
/-! heights: a call lifts a train by one -/
namespace LB
open PySem TR
end LB
set_option linter.all false
set_option maxRecDepth 20000
/-! neighbours in a word and in a train -/
namespace LB
open PySem TR
end LB
set_option linter.all false
set_option maxRecDepth 20000
set_option maxHeartbeats 400000
/-! how far each car goes on by a row, and by rises -/
namespace LB
open PySem TR
end LB
set_option linter.all false
set_option maxRecDepth 20000
set_option maxHeartbeats 400000
/-! heights fall along the word; there and back -/
namespace LB
open PySem TR
end LB
set_option linter.all false
set_option maxRecDepth 20000
set_option maxHeartbeats 1000000
/-! rules: loops that may end early, lists of numbers, greatest, sums -/
namespace LB
open PySem TR
theorem ex_for_hit {G : List Fn} {p : P} {it : E} {body : List S} {env e1 e2 : TR.Env} {m mr : M} {rs : List Nat} {xs : List D} (h : ev G it env = .ok (m, rs, e1)) (hs : itR m = .ok xs) (ha : apart rs (muSs body ++ p.slots) = true) (h2 : foLoop (forB G p body) xs e1 = .ok (.ret mr e2)) : ex G (.for_ p it body) env = .ok (.ret mr e2) := by
  rw [ex_for, h]
  simp only [bind, R.bind]
  rw [hs]
  simp only
  rw [if_pos ha, h2]
theorem ex_for_first {α γ : Type} {G : List Fn} {p : P} {it c e : E} {m : M} {rs rc : List Nat} {emb : α → D} {xs : List α} {q : α → Bool} (E : γ → TR.Env) (bd : α → γ) (g0 : γ) {f : α → M} {re : α → List Nat} {f2 : α → M} {E2 : α → TR.Env}
    (hit : ev G it (E g0) = .ok (m, rs, E g0)) (hs : itR m = .ok (xs.map emb)) (ha : apart rs (muSs [.ifs c [.ret e] []] ++ p.slots) = true)
    (hb : ∀ x ∈ xs, ∀ g, bindP p (emb x) (E g) = .ok (E (bd x)))
    (hc : ∀ x ∈ xs, ev G c (E (bd x)) = .ok (.pu (.bool (q x)), rc, E (bd x)))
    (he : ∀ x ∈ xs, q x = true → ev G e (E (bd x)) = .ok (f x, re x, E (bd x)))
    (ht : ∀ x ∈ xs, q x = true → retR e (f x, re x, E (bd x)) = .ok (f2 x, E2 x)) :
    (∀ x ∈ xs, q x = true → xs.find? q = some x → ex G (.for_ p it [.ifs c [.ret e] []]) (E g0) = .ok (.ret (f2 x) (E2 x))) ∧ (xs.find? q = none → ∃ g, ex G (.for_ p it [.ifs c [.ret e] []]) (E g0) = .ok (.nx (E g))) := by
  have H : ∀ (l : List α) g, (∀ x ∈ l, x ∈ xs) → (∀ x, l.find? q = some x → foLoop (forB G p [.ifs c [.ret e] []]) (l.map emb) (E g) = .ok (.ret (f2 x) (E2 x))) ∧ (l.find? q = none → ∃ g2, foLoop (forB G p [.ifs c [.ret e] []]) (l.map emb) (E g) = .ok (.nx (E g2))) := by
    intro l
    induction l with
    | nil => intro g _; exact ⟨fun x hx => (by cases hx), fun _ => ⟨g, rfl⟩⟩
    | cons a l ih =>
      intro g hl
      have ham := hl a (List.mem_cons_self ..)
      by_cases hq : q a = true
      · have h1 : forB G p [.ifs c [.ret e] []] (emb a) (E g) = .ok (.ret (f2 a) (E2 a)) := by
          rw [forB, hb a ham g]
          have h3 := hc a ham
          rw [hq] at h3
          exact exs_ret (ex_if_tt h3 (exs_ret (ex_ret_go (he a ham hq) (ht a ham hq))))
        refine ⟨fun x hx => ?_, fun hx => ?_⟩
        · rw [List.find?_cons, hq] at hx
          cases hx
          rw [List.map_cons, foLoop, h1]
          rfl
        · rw [List.find?_cons, hq] at hx
          cases hx
      · have hq2 : q a = false := by simpa using hq
        have h1 : forB G p [.ifs c [.ret e] []] (emb a) (E g) = .ok (.nx (E (bd a))) := by
          rw [forB, hb a ham g]
          have h3 := hc a ham
          rw [hq2] at h3
          exact (exs_nx (ex_if_ff h3 exs_nil)).trans exs_nil
        obtain ⟨i1, i2⟩ := ih (bd a) fun x hx => hl x (List.mem_cons_of_mem _ hx)
        refine ⟨fun x hx => ?_, fun hx => ?_⟩
        · rw [List.find?_cons, hq2] at hx
          rw [List.map_cons, foLoop, h1]
          exact i1 x hx
        · rw [List.find?_cons, hq2] at hx
          rw [List.map_cons, foLoop, h1]
          exact i2 hx
  obtain ⟨h1, h2⟩ := H xs g0 fun _ h => h
  exact ⟨fun x hx hq hf => ex_for_hit hit hs ha (h1 x hf), fun hf => (h2 hf).elim fun g h => ⟨g, ex_for_ok hit hs ha h⟩⟩
theorem gx_allB {α : Type} (p : α → Bool) (l : List α) : bi1 .all (.li (l.map fun x => PyData.bool (p x))) = .ok (.pu (.bool (l.all p))) := by
  have h : boolsD (l.map fun x => PyData.bool (p x)) = .ok (l.map p) := by
    induction l with
    | nil => rfl
    | cons a l ih => rw [List.map_cons, boolsD, ih]; rfl
  show quaM (·.all id) (.li (l.map fun x => PyData.bool (p x))) = _
  simp only [quaM, M.lst, M.seq, bind, R.bind, h]
  simp
theorem ev_isc_g {G : List Fn} {n b : Bool} {a : E} {m : M} {ra : List Nat} {env : TR.Env} (h : ev G a env = .ok (m, ra, env)) (hm : isNon m = b) : ev G (.isc n a .none) env = .ok (.pu (.bool (b != n)), [], env) := by
  rw [ev, h]
  simp only [bind, R.bind, hm]
theorem isNon_no : isNon (.pu .none) = true := rfl
theorem exs_hit {G : List Fn} {s : S} {r : List S} {m : M} {env e1 : TR.Env} (h : ex G s env = .ok (.ret m e1)) : exs G (s :: r) env = .ok (.ret m e1) := exs_ret h
end LB
set_option linter.all false
set_option maxRecDepth 20000
set_option maxHeartbeats 1000000
/-! rises -/
namespace LB
open PySem TR
end LB
set_option linter.all false
set_option maxRecDepth 20000
set_option maxHeartbeats 1000000
/-! rises: what rests on them -/
namespace LB
open PySem TR
end LB
set_option linter.all false
set_option maxRecDepth 20000
set_option maxHeartbeats 1000000
/-! rises along a row -/
namespace LB
open PySem TR
end LB
set_option linter.all false
set_option maxRecDepth 20000
set_option maxHeartbeats 1000000
/-! calls under turns and names -/
namespace LB
open PySem TR
end LB
set_option linter.all false
set_option maxRecDepth 20000
set_option maxHeartbeats 1000000
/-! gaps -/
namespace LB
open PySem TR
end LB
set_option linter.all false
set_option maxRecDepth 20000
set_option maxHeartbeats 1000000
/-! gaps under turns and names -/
namespace LB
open PySem TR
end LB
set_option linter.all false
set_option maxRecDepth 20000
set_option maxHeartbeats 1000000
/-! rows one after another, and back -/
namespace LB
open PySem TR
theorem fin_app (a b : List Nat) (st : List (List Nat)) : fin st (a ++ b) = fin (fin st a) b := List.foldl_append ..
end LB
set_option linter.all false
set_option maxRecDepth 20000
set_option maxHeartbeats 1000000
/-! from the end of a row to its begin -/
namespace LB
open PySem TR
end LB
set_option linter.all false
set_option maxRecDepth 20000
set_option maxHeartbeats 1000000
/-! even and odd stations in turn -/
namespace LB
open PySem TR
end LB
set_option linter.all false
set_option maxRecDepth 20000
set_option maxHeartbeats 1000000
/-! goals turned; full yards -/
namespace LB
open PySem TR
end LB
set_option linter.all false
set_option maxRecDepth 20000
set_option maxHeartbeats 1000000
/-! how many states come -/
namespace LB
open PySem TR
end LB
set_option linter.all false
set_option maxRecDepth 20000
set_option maxHeartbeats 1000000
/-! one train in the end: its rises -/
namespace LB
open PySem TR
def oneT (s t : Nat) (W : List Nat) : List (List Nat) := (List.replicate s []).set t W
theorem oneT_len (s t : Nat) (W : List Nat) : (oneT s t W).length = s := by simp [oneT]
theorem oneT_get (s t : Nat) (W : List Nat) (ht : t < s) (j : Nat) (hj : j < s) : (oneT s t W).getD j [] = if j = t then W else [] := by
  rw [oneT, List.getD_eq_getElem?_getD, List.getElem?_set]
  by_cases e : t = j
  · subst e
    simp [ht]
  · rw [if_neg e, if_neg (Ne.symm e), List.getElem?_replicate, if_pos hj]; rfl
theorem oneT_flat (s t : Nat) (W : List Nat) (ht : t < s) : (oneT s t W).flatten = W := by
  have h : oneT s t W = (List.range s).map fun i => (oneT s t W).getD i [] := by
    apply st_ext
    · simp [oneT_len]
    · intro j hj
      rw [oneT_len] at hj
      simp [hj]
  rw [h, flat_pick s t _ ht fun j hj hne => by rw [oneT_get s t W ht j hj, if_neg hne]]
  rw [oneT_get s t W ht t ht, if_pos rfl]
theorem oneT_good (c s t : Nat) (W : List Nat) (ht : t < s) (hw : W.Perm (List.range c)) : Good c s (oneT s t W) := ⟨oneT_len s t W, by rw [oneT_flat s t W ht]; exact hw⟩
theorem oneT_ps (c s t : Nat) (W : List Nat) (ht : t < s) (hw : W.Perm (List.range c)) (y : Nat) (hy : y < c) : ps (oneT s t W) y = t :=
  (ps_uniq c s _ (oneT_good c s t W ht hw) y t hy (by rw [oneT_get s t W ht t ht, if_pos rfl]; exact hw.mem_iff.2 (by simpa using hy))).symm
end LB
set_option linter.all false
set_option maxRecDepth 20000
set_option maxHeartbeats 1000000
/-! a first car can lead, another one can not -/
namespace LB
open PySem TR
end LB
set_option linter.all false
set_option maxRecDepth 20000
set_option maxHeartbeats 1000000
/-! steps, rows, wasted calls -/
namespace LB
open PySem TR
end LB
set_option linter.all false
set_option maxRecDepth 20000
set_option maxHeartbeats 1000000
/-! a dict of cars that grows -/
namespace LB
open PySem TR
end LB
set_option linter.all false
set_option maxRecDepth 20000
set_option maxHeartbeats 1000000
/-! cars that never go on -/
namespace LB
open PySem TR
theorem ev_dct0 {G : List Fn} {env : TR.Env} : ev G (.dct []) env = .ok (.di [], [], env) := by
  rw [ev, evKs]; rfl
theorem ev_diown {G : List Fn} {i : Nat} {env : TR.Env} {kvs : List (D × D)} (h : env.get i = .ok (.di kvs)) : ev G (.var i) env = .ok (.di kvs, [i], env) := by
  rw [ev, h]
  rfl
theorem ev_iscB {G : List Fn} {n b t : Bool} {a : E} {ra : List Nat} {env e1 : TR.Env} (h : ev G a env = .ok (.pu (.bool b), ra, e1)) : ev G (.isc n a (.bool t)) env = .ok (.pu (.bool ((b == t) != n)), [], e1) := by
  rw [ev, h]
  rfl
end LB
set_option linter.all false
set_option maxRecDepth 20000
set_option maxHeartbeats 1000000
/-! one train: who can lead it, and how far each car goes -/
namespace LB
open PySem TR
/-! gaps -/
end LB
set_option linter.all false
set_option maxRecDepth 20000
set_option maxHeartbeats 1000000
/-! rows with a number ahead: sorting them, dicts of them -/
namespace LB
open PySem TR
/-! dicts from numbers to numbers -/
end LB
set_option linter.all false
set_option maxRecDepth 20000
set_option maxHeartbeats 4000000
/-! who can lead: the walks -/
namespace LB
open PySem TR
end LB
set_option linter.all false
set_option maxRecDepth 20000
set_option maxHeartbeats 4000000
/-! groups to one train -/
namespace LB
open PySem TR
end LB
set_option linter.all false
set_option maxRecDepth 20000
set_option maxHeartbeats 4000000
/-! dicts built by a walk; sorted parts -/
namespace LB
open PySem TR
/-! sets of dict keys -/
end LB
set_option linter.all false
set_option maxRecDepth 20000
set_option maxHeartbeats 1000000
/-! all states of a yard -/
namespace LB
open PySem TR
def insC (st : List (List Nat)) (k j p : Nat) : List (List Nat) := st.set j ((st.getD j []).take p ++ k :: (st.getD j []).drop p)
def grow (s k : Nat) (st : List (List Nat)) : List (List (List Nat)) := (List.range s).flatMap fun j => (List.range ((st.getD j []).length + 1)).map fun p => insC st k j p
def asN (s : Nat) : Nat → List (List (List Nat))
  | 0 => [List.replicate s []]
  | k + 1 => (asN s k).flatMap (grow s k)
theorem insC_len (st : List (List Nat)) (k j p : Nat) : (insC st k j p).length = st.length := by simp [insC]
theorem insC_perm (st : List (List Nat)) (k j p : Nat) (hj : j < st.length) : (insC st k j p).flatten.Perm (k :: st.flatten) := by
  have e : st = st.take j ++ st.getD j [] :: st.drop (j + 1) := by
    rw [List.getD_eq_getElem?_getD, List.getElem?_eq_getElem hj]
    simp
  have e2 : insC st k j p = st.take j ++ ((st.getD j []).take p ++ k :: (st.getD j []).drop p) :: st.drop (j + 1) := by
    rw [insC, List.set_eq_take_append_cons_drop, if_pos hj]
  have e3 : st.flatten = (st.take j).flatten ++ (st.getD j [] ++ (st.drop (j + 1)).flatten) := by
    conv => lhs; rw [e]
    simp
  rw [e2, e3]
  simp only [List.flatten_append, List.flatten_cons]
  have h1 : ((st.getD j []).take p ++ k :: (st.getD j []).drop p).Perm (k :: st.getD j []) := by
    refine List.perm_middle.trans ?_
    rw [List.take_append_drop]
  refine (List.Perm.append_left _ (h1.append_right _)).trans ?_
  exact List.perm_middle
theorem mem_grow {s k : Nat} {st x : List (List Nat)} (h : x ∈ grow s k st) : ∃ j p, j < s ∧ p ≤ (st.getD j []).length ∧ x = insC st k j p := by
  obtain ⟨j, hj, h1⟩ := List.mem_flatMap.1 h
  obtain ⟨p, hp, rfl⟩ := List.mem_map.1 h1
  exact ⟨j, p, by simpa using hj, by rw [List.mem_range] at hp; omega, rfl⟩
theorem asN_good (s : Nat) : ∀ k, ∀ st ∈ asN s k, st.length = s ∧ st.flatten.Perm (List.range k) := by
  intro k
  induction k with
  | zero =>
    intro st h
    rw [asN, List.mem_singleton] at h
    subst h
    simp
  | succ k ih =>
    intro x h
    obtain ⟨st, h1, h2⟩ := List.mem_flatMap.1 h
    obtain ⟨j, p, hj, hp, rfl⟩ := mem_grow h2
    obtain ⟨i1, i2⟩ := ih st h1
    refine ⟨by rw [insC_len, i1], (insC_perm st k j p (by omega)).trans ?_⟩
    rw [List.range_succ]
    exact (List.Perm.cons k i2).trans (List.perm_append_singleton k _).symm
theorem asN_lt (s k : Nat) (st : List (List Nat)) (h : st ∈ asN s k) (t : List Nat) (ht : t ∈ st) (x : Nat) (hx : x ∈ t) : x < k := by
  have := (asN_good s k st h).2.mem_iff.1 (List.mem_flatten.2 ⟨t, ht, hx⟩)
  simpa using this
theorem insC_era (st : List (List Nat)) (k j p : Nat) (hl : ∀ t ∈ st, k ∉ t) : (insC st k j p).map (fun t => t.filter (· != k)) = st := by
  have fe : ∀ t : List Nat, k ∉ t → t.filter (· != k) = t := fun t ht => List.filter_eq_self.2 fun x hx => by
    simp only [bne_iff_ne, ne_eq]
    intro e; exact ht (e ▸ hx)
  apply List.ext_getElem
  · simp [insC]
  · intro i h1 h2
    rw [List.getElem_map]
    simp only [insC, List.getElem_set]
    split
    · rename_i e
      subst e
      have hg : st.getD j [] = st[j] := by
        rw [List.getD_eq_getElem?_getD, List.getElem?_eq_getElem h2]; rfl
      have hk : k ∉ st[j] := hl _ (List.getElem_mem _)
      rw [hg, List.filter_append, List.filter_cons]
      simp only [bne_self_eq_false, Bool.false_eq_true, if_false]
      rw [← List.filter_append, List.take_append_drop]
      exact fe _ hk
    · exact fe _ (hl _ (List.getElem_mem _))
theorem insC_at (st : List (List Nat)) (k j p i : Nat) (hj : j < st.length) (hl : ∀ t ∈ st, k ∉ t) : k ∈ (insC st k j p).getD i [] ↔ i = j := by
  rw [insC, List.getD_eq_getElem?_getD, List.getElem?_set]
  split
  · rename_i e
    subst e
    simp [hj]
  · rename_i e
    constructor
    · intro h
      cases h2 : st[i]? with
      | none => rw [h2] at h; cases h
      | some t =>
        rw [h2] at h
        exact absurd h (hl t (List.mem_of_getElem? h2))
    · intro h; exact absurd h.symm e
theorem insC_pos (st : List (List Nat)) (k j p q : Nat) (hj : j < st.length) (hl : ∀ t ∈ st, k ∉ t) (hp : p ≤ (st.getD j []).length) (hq : q ≤ (st.getD j []).length) (e : insC st k j p = insC st k j q) : p = q := by
  have h1 := congrArg (fun l : List (List Nat) => l.getD j []) e
  simp only [insC] at h1
  have gs : ∀ t : List Nat, (st.set j t).getD j [] = t := fun t => by
    rw [List.getD_eq_getElem?_getD, List.getElem?_set, if_pos rfl, if_pos hj]; rfl
  rw [gs, gs] at h1
  have hk : k ∉ st.getD j [] := by
    rw [List.getD_eq_getElem?_getD, List.getElem?_eq_getElem hj]
    exact hl _ (List.getElem_mem _)
  have key : ∀ r, r ≤ (st.getD j []).length → ((st.getD j []).take r ++ k :: (st.getD j []).drop r).idxOf k = r := by
    intro r hr
    rw [List.idxOf_append, if_neg (fun z => hk (List.mem_of_mem_take z)), List.idxOf_cons_self, List.length_take]
    omega
  have h2 := key p hp
  rw [h1, key q hq] at h2
  exact h2.symm
theorem asN_nodup (s : Nat) : ∀ k, (asN s k).Nodup := by
  intro k
  induction k with
  | zero => rw [asN]; simp
  | succ k ih =>
    have hno : ∀ st ∈ asN s k, ∀ t ∈ st, k ∉ t := fun st h t ht z => by
      have := asN_lt s k st h t ht k z; omega
    rw [asN, List.Nodup, List.pairwise_flatMap]
    refine ⟨fun st h => ?_, ih.imp_of_mem fun {a b} ha hb hne x hx y hy e => ?_⟩
    · have hs := (asN_good s k st h).1
      rw [grow, List.pairwise_flatMap]
      refine ⟨fun j hj => ?_, List.nodup_range.imp_of_mem fun {a b} ha hb hne x hx y hy e => ?_⟩
      · rw [List.pairwise_map]
        refine List.nodup_range.imp_of_mem fun {p q} hp hq hne e => ?_
        rw [List.mem_range] at hj hp hq
        exact hne (insC_pos st k j p q (by omega) (hno st h) (by omega) (by omega) e)
      · obtain ⟨p, _, rfl⟩ := List.mem_map.1 hx
        obtain ⟨q, _, rfl⟩ := List.mem_map.1 hy
        rw [List.mem_range] at ha hb
        have h1 := (insC_at st k a p a (by omega) (hno st h)).2 rfl
        rw [e] at h1
        exact hne ((insC_at st k b q a (by omega) (hno st h)).1 h1)
    · obtain ⟨j, p, _, _, rfl⟩ := mem_grow hx
      obtain ⟨i, q, _, _, rfl⟩ := mem_grow hy
      have h1 := insC_era a k j p (hno a ha)
      have h2 := insC_era b k i q (hno b hb)
      rw [e, h2] at h1
      exact hne h1.symm
theorem asN_len (s : Nat) : ∀ k, (asN s (k + 1)).length = (asN s k).length * (s + k) := by
  intro k
  rw [asN, List.length_flatMap]
  have : (asN s k).map (fun st => (grow s k st).length) = (asN s k).map fun _ => s + k := by
    apply List.map_congr_left
    intro st h
    obtain ⟨h1, h2⟩ := asN_good s k st h
    rw [grow, List.length_flatMap]
    have h3 : ((List.range s).map fun j => ((List.range ((st.getD j []).length + 1)).map fun p => insC st k j p).length) = (List.range s).map fun j => (st.getD j []).length + 1 := by
      apply List.map_congr_left; intro j _; simp
    rw [h3]
    have h4 : ∀ (l : List (List Nat)), ((List.range l.length).map fun j => (l.getD j []).length + 1).sum = l.flatten.length + l.length := by
      intro l
      have e : ((List.range l.length).map fun j => (l.getD j []).length + 1) = l.map fun t => t.length + 1 := by
        apply List.ext_getElem
        · simp
        · intro i q1 q2
          simp at q1 q2
          simp [q1]
      rw [e]
      clear e
      induction l with
      | nil => rfl
      | cons a l ih => simp [ih]; omega
    rw [← h1, h4, h2.length_eq, List.length_range]
    omega
  rw [this]
  simp [List.map_const', List.sum_replicate_nat]
end LB
set_option linter.all false
set_option maxRecDepth 20000
set_option maxHeartbeats 4000000
/-! all states: the walks -/
namespace LB
open PySem TR
theorem ex_for_grow {α β γ : Type} {G : List Fn} {p : P} {it : E} {body : List S} {m : M} {rs : List Nat} {emb : α → D} {xs : List α} {env e1 : TR.Env} (E : List γ → β → TR.Env) (f : α → List γ) (acc : List γ) (b0 : β)
    (hit : ev G it env = .ok (m, rs, e1)) (h0 : E acc b0 = e1) (hs : itR m = .ok (xs.map emb)) (ha : apart rs (muSs body ++ p.slots) = true)
    (step : ∀ x ∈ xs, ∀ l b, (l ++ f x) <+: (acc ++ xs.flatMap f) → ∃ b', forB G p body (emb x) (E l b) = .ok (.nx (E (l ++ f x) b'))) :
    ∃ b', ex G (.for_ p it body) env = .ok (.nx (E (acc ++ xs.flatMap f) b')) := by
  obtain ⟨⟨l, b⟩, hI, hF⟩ := ex_for_ex (E := fun q : List γ × β => E q.1 q.2) (I := fun k q => q.1 = acc ++ (xs.take k).flatMap f) (acc, b0) hit h0 hs ha (by simp) (by
    rintro k x hx ⟨l, b⟩ hl
    dsimp only at hl
    subst hl
    have e : acc ++ (xs.take (k + 1)).flatMap f = acc ++ (xs.take k).flatMap f ++ f x := by
      rw [List.take_succ, hx]; simp
    obtain ⟨b', h⟩ := step x (List.mem_of_getElem? hx) (acc ++ (xs.take k).flatMap f) b (by
      rw [← e]
      refine ⟨(xs.drop (k + 1)).flatMap f, ?_⟩
      rw [List.append_assoc, ← List.flatMap_append, List.take_append_drop])
    exact ⟨(acc ++ (xs.take k).flatMap f ++ f x, b'), e.symm, h⟩)
  dsimp only at hI
  subst hI
  rw [List.take_length] at hF
  exact ⟨b, hF⟩
theorem insC_eq (st : List (List Nat)) (k j p : Nat) (hj : j < st.length) : st.take j ++ [(st.getD j []).take p ++ [k] ++ (st.getD j []).drop p] ++ st.drop (j + 1) = insC st k j p := by
  rw [insC, List.set_eq_take_append_cons_drop, if_pos hj]
  simp
theorem flatMap_one {α β : Type} (f : α → β) (l : List α) : l.flatMap (fun x => [f x]) = l.map f := by
  induction l with
  | nil => rfl
  | cons a l ih => simp [ih]
end LB
set_option linter.all false
set_option maxRecDepth 20000
set_option maxHeartbeats 4000000
/-! all states: sorted -/
namespace LB
open PySem TR
def srtS (l : List (List (List Nat))) : List (List (List Nat)) := l.mergeSort fun a b => W.dataLe false id (stD a) (stD b)
theorem srtS_pm (l : List (List (List Nat))) : (srtS l).Perm l := List.mergeSort_perm ..
theorem srtS_len (l : List (List (List Nat))) : (srtS l).length = l.length := List.length_mergeSort _
theorem sortD_sts (l : List (List (List Nat))) : sortD (l.map stD) = (srtS l).map stD := by
  rw [sortD, srtS]
  exact (List.map_mergeSort (f := stD) (r := fun a b => W.dataLe false id (stD a) (stD b)) (s := W.dataLe false id) fun a _ b _ => rfl).symm
theorem alike_trs : ∀ (a b : List (List Nat)), W.alikeAll (a.map trD) (b.map trD) = true
  | [], [] => by simp [W.alikeAll]
  | [], y :: b => by simp [W.alikeAll]
  | x :: a, [] => by simp [W.alikeAll]
  | x :: a, y :: b => by
    have h := alike_trs a b
    have h1 : W.alike (trD x) (trD y) = true := by
      have := alike_nD x y
      simpa [trD, W.alike] using this
    simp [W.alikeAll, h1, h]
theorem cmpAll_sts (l : List (List (List Nat))) : cmpAll (l.map stD) = true := by
  have h1 : ∀ p q, W.alike (stD p) (stD q) = true := fun p q => by have := alike_trs p q; simpa [stD, W.alike] using this
  have h2 : ∀ p, notNon (stD p) = true := fun p => rfl
  have h5 : ∀ t : List Nat, PyData.plainAll (t.map nD) = true := fun t => plainAll_of _ (by
    intro x hx
    obtain ⟨p, _, rfl⟩ := List.mem_map.1 hx
    simp [PyData.plain])
  have h6 : ∀ t : List Nat, PyData.depthAll (t.map nD) ≤ 1 := fun t => depthAll_of 1 _ (by
    intro x hx
    obtain ⟨p, _, rfl⟩ := List.mem_map.1 hx
    simp [PyData.depth])
  have g3 : ∀ t : List (List Nat), PyData.plainAll (t.map trD) = true := fun t => plainAll_of _ (by
    intro x hx
    obtain ⟨p, _, rfl⟩ := List.mem_map.1 hx
    have := h5 p
    simpa [trD, PyData.plain] using this)
  have g4 : ∀ t : List (List Nat), PyData.depthAll (t.map trD) ≤ 3 := fun t => depthAll_of 3 _ (by
    intro x hx
    obtain ⟨p, _, rfl⟩ := List.mem_map.1 hx
    have := h6 p
    simp only [trD, PyData.depth]
    have e : (p.map fun (c : Nat) => PyData.int (c : Int)) = p.map nD := rfl
    rw [e]; omega)
  have h3 : PyData.plainAll (l.map stD) = true := plainAll_of _ (by
    intro x hx
    obtain ⟨p, _, rfl⟩ := List.mem_map.1 hx
    have := g3 p
    simpa [stD, PyData.plain] using this)
  have h4 : PyData.depthAll (l.map stD) ≤ 6 := depthAll_of 6 _ (by
    intro x hx
    obtain ⟨p, _, rfl⟩ := List.mem_map.1 hx
    have := g4 p
    simp only [stD, PyData.depth]
    omega)
  simp [cmpAll, h1, h2, okD, PyData.plain, h3, PyData.depth]
  omega
theorem sortAll_sts (l : List (List (List Nat))) (hne : ∀ t ∈ l, t ≠ []) (h : l.length ≤ 1000) : sortAll (l.map stD) = true := by
  have h1 := cmpAll_sts l
  have h3 : ((l.map stD).all fullTup) = true := by
    rw [List.all_eq_true]; intro x hx; obtain ⟨p, hp, rfl⟩ := List.mem_map.1 hx
    have := hne p hp
    cases p with
    | nil => exact absurd rfl this
    | cons a p => rfl
  rw [sortAll, h1, h3]
  simp; omega
theorem sort_sts (l : List (List (List Nat))) (hne : ∀ t ∈ l, t ≠ []) (h : l.length ≤ 1000) : bi1 .sorted (.li (l.map stD)) = .ok (.li ((srtS l).map stD)) := by
  show (if sortAll (l.map stD) = true then R.ok (M.li (sortD (l.map stD))) else .bad) = _
  rw [if_pos (sortAll_sts l hne h), sortD_sts]
theorem sort_stsP (l : List (List (List Nat))) (hne : ∀ t ∈ l, t ≠ []) (h : l.length ≤ 1000) : bi1 .sorted (.pu (.list (l.map stD))) = .ok (.li ((srtS l).map stD)) := by
  show (if sortAll (l.map stD) = true then R.ok (M.li (sortD (l.map stD))) else .bad) = _
  rw [if_pos (sortAll_sts l hne h), sortD_sts]
theorem asN_mono (s : Nat) (hs : 1 ≤ s) (k : Nat) : ∀ d, (asN s k).length ≤ (asN s (k + d)).length := by
  intro d
  induction d with
  | zero => exact Nat.le_refl _
  | succ d ih =>
    refine Nat.le_trans ih ?_
    rw [← Nat.add_assoc, asN_len]
    exact Nat.le_mul_of_pos_right _ (by omega)
theorem asN_short (s k : Nat) (hk : k ≤ 7) (st : List (List Nat)) (h : st ∈ asN s k) (j : Nat) : (st.getD j []).length ≤ 7 := by
  rw [List.getD_eq_getElem?_getD]
  cases e : st[j]? with
  | none => simp
  | some t =>
    have h1 := (List.sublist_flatten_of_mem (List.mem_of_getElem? e)).length_le
    rw [(asN_good s k st h).2.length_eq, List.length_range] at h1
    show t.length ≤ 7
    omega
end LB
set_option linter.all false
set_option maxRecDepth 20000
set_option maxHeartbeats 4000000
/-! all states: by way of a dict -/
namespace LB
open PySem TR
-- GO
local macro_rules | `(tactic| lt_chain) => `(tactic| (first | with_reducible assumption | (with_reducible first | apply aon_good | apply gfin_good | apply turn_good | apply ss_one | apply mv_good | apply cl_good | apply fin_good | apply ren_good) <;> lt_chain | with_reducible exact ps_ltL (by with_reducible assumption) (by with_reducible assumption) | with_reducible exact ps_ltS (by with_reducible assumption) (by with_reducible assumption) | omega | with_reducible exact sbm_lt' (by omega) (by omega) | with_reducible exact fi_le _ _ | with_reducible exact of_decide_eq_true (by with_reducible assumption) | with_reducible exact trP_pos (by with_reducible assumption) | with_reducible exact fi_leF _ _ _ | with_reducible exact all_lt (by with_reducible assumption) (by with_reducible assumption) | with_reducible exact perm_lt (by with_reducible assumption) (by with_reducible assumption) | with_reducible exact mem_lt (by with_reducible assumption) (by with_reducible assumption) (by with_reducible assumption) | with_reducible exact mem_len (by with_reducible assumption) (by with_reducible assumption) (by with_reducible assumption) | (have hmr := all_lt (by with_reducible assumption) (by with_reducible assumption); omega) | (have hmr := perm_lt (by with_reducible assumption) (by with_reducible assumption); omega) | (have hmr := mem_lt (by with_reducible assumption) (by with_reducible assumption) (by with_reducible assumption); omega) | with_reducible exact List.mem_range.1 (by with_reducible assumption) | (have hmr := List.mem_range.1 (by with_reducible assumption); omega) | (simp only [List.length_map, List.length_range, List.length_range', List.mem_range, List.length_append, List.length_drop, List.length_take, List.length_reverse, List.length_replicate, List.length_set, List.length_nil, List.length_cons]; omega)))
local macro_rules | `(tactic| k_mem) => `(tactic| with_reducible first
  | (apply is_in_int <;> lt_chain) | (apply is_list_tup <;> lt_chain) | (apply need_yard_ok <;> lt_chain) | (apply need_car_ok <;> lt_chain) | (apply need_trains_ok <;> lt_chain) | (apply need_state_ok <;> lt_chain) | (apply station_of_ok <;> lt_chain) | (apply train_of_ok <;> lt_chain) | (apply count_trains_ok <;> lt_chain) | (apply first_state_ok <;> lt_chain) | (apply is_full_ok <;> lt_chain) | (apply longest_ok <;> lt_chain) | (apply need_station_ok <;> lt_chain) | (apply move_in_ok <;> lt_chain) | (apply L_move_ok <;> lt_chain) | (apply st_in <;> lt_chain) | (apply call_in_ok <;> lt_chain) | (apply L_call_ok <;> lt_chain) | (apply call_ok <;> lt_chain) | (apply move_ok <;> lt_chain) | (apply story_in_ok <;> lt_chain) | (apply need_calls_ok <;> lt_chain) | (apply after_ok <;> lt_chain) | (apply story_ok <;> lt_chain) | (apply trains_left_ok <;> lt_chain) | (apply after_moves_ok <;> lt_chain) | (apply taken_stations_ok <;> lt_chain) | (apply without_ok <;> lt_chain) | (apply needless_ok <;> lt_chain) | (apply exchanges_ok <;> lt_chain) | (apply couplings_ok <;> lt_chain) | (apply steps_of_ok <;> lt_chain) | (apply first_coupling_ok <;> lt_chain) | (apply is_set_ok <;> lt_chain) | (apply need_closed_ok <;> lt_chain) | (apply closed_move_ok <;> lt_chain) | (apply closed_call_ok <;> lt_chain) | (apply closed_after_ok <;> lt_chain) | (apply room_in_ok <;> lt_chain) | (apply rooms_ok <;> lt_chain) | (apply car_rooms_ok <;> lt_chain) | (apply is_shut_ok <;> lt_chain) | (apply word_in_ok <;> lt_chain) | (apply L_word_ok <;> lt_chain) | (apply ring_word_ok <;> lt_chain) | (apply same_ring_ok <;> lt_chain) | (apply L_done_ok <;> lt_chain) | (apply heads_ok <;> lt_chain) | (apply cuts_ok <;> lt_chain) | (apply is_setS_ok <;> lt_chain) | (apply at_once_in_ok <;> lt_chain) | (apply at_once_inL_ok <;> lt_chain) | (apply at_once_ok <;> lt_chain) | (apply all_at_once_ok <;> lt_chain) | (apply L_at_once_ok <;> lt_chain) | (apply L_at_onceL_ok <;> lt_chain) | (apply is_list_st <;> lt_chain) | (apply need_groups_ok <;> lt_chain) | (apply after_groups_ok <;> lt_chain) | (apply alternating_ok <;> lt_chain) | (apply is_list_tr <;> lt_chain) | (apply need_yardN <;> lt_chain) | (apply arcs_in_go <;> lt_chain) | (apply trains_in_go <;> lt_chain) | (apply need_names_ok <;> lt_chain) | (apply renamed_ok <;> lt_chain) | (apply renamed_calls_ok <;> lt_chain) | (apply turned_ok <;> lt_chain) | (apply renamed_word_ok <;> lt_chain) | (apply number_of_states_ok <;> lt_chain) | (apply count_states_ok <;> lt_chain) | (apply count_turns_ok <;> lt_chain) | (apply choose_ok <;> lt_chain) | (apply count_on_word_ok <;> lt_chain) | (apply count_shapes_ok <;> lt_chain) | (apply is_turn_true <;> lt_chain) | (apply can_be_train_ok <;> lt_chain) | (apply can_be_row <;> lt_chain) | (apply last_orders_go <;> lt_chain) | (apply arcs_go <;> lt_chain) | (apply renamed_row <;> lt_chain) | (apply station_in_go <;> lt_chain) | (apply heights_in_ok <;> lt_chain) | (apply heights_ok <;> lt_chain) | (apply need_word_ok <;> lt_chain) | (apply need_heights_ok <;> lt_chain) | (apply build_ok <;> lt_chain) | (apply from_heights_ok <;> lt_chain) | (apply from_heights_st <;> lt_chain) | (apply is_stuck_ok <;> lt_chain) | (apply rises_in_ok <;> lt_chain) | (apply rises_none <;> lt_chain) | (apply ron_ok <;> lt_chain) | (apply ron_stuck <;> lt_chain) | (apply ron_none <;> lt_chain) | (apply can_come_ok <;> lt_chain) | (apply can_come_no <;> lt_chain) | (apply need_rises_ok <;> lt_chain) | (apply fewest_in_ok <;> lt_chain) | (apply fewest_calls_ok <;> lt_chain) | (apply rises_ok <;> lt_chain) | (apply can_come_at_once_ok <;> lt_chain) | (apply need_rises_g_ok <;> lt_chain) | (apply fewest_groups_ok <;> lt_chain) | (apply ris_no <;> lt_chain) | (apply gap_in_ok <;> lt_chain) | (apply all_gaps_ok <;> lt_chain) | (apply mean_calls_ok <;> lt_chain) | (apply count_by_left_ok <;> lt_chain) | (apply count_reached_ok <;> lt_chain) | (apply distance_ok <;> lt_chain) | (apply wasted_ok <;> lt_chain) | (apply still_ok <;> lt_chain) | (apply lead_no <;> lt_chain) | (apply lead_come_no <;> lt_chain) | (apply all_gapsH <;> lt_chain) | (apply gaps_ok <;> lt_chain) | (apply one_train_ok <;> lt_chain) | (apply lead_state_ok <;> lt_chain) | (apply need_head_ok <;> lt_chain) | (apply calls_to_lead_ok <;> lt_chain) | (apply calls_to_lead_at_ok <;> lt_chain) | (apply calls_to_one_ok <;> lt_chain) | (apply numbers_to_one_ok <;> lt_chain) | (apply leads_to_one_ok <;> lt_chain) | (apply lead_table_ok <;> lt_chain) | (apply groups_to_one_ok <;> lt_chain) | (apply L_states_ok <;> lt_chain) | (apply all_states_ok <;> lt_chain) | (apply need_two_ok <;> lt_chain) | (apply does_same_ok <;> lt_chain) | (apply telling_ok <;> lt_chain))
local macro_rules | `(tactic| infer_instance) => `(tactic| first
  | with_reducible assumption
  | (intro _ ; infer_instance)
  | ((with_reducible first | apply gd_lt | apply gd_le | apply gd_lti | apply gd_lei); lt_chain)
  | ((with_reducible apply gd_ev); first
    | with_reducible exact ev_cst_nil
    | (with_reducible apply ev_cst_eq) <;> first | exact lit_of _ | exact lit_nat _ | exact rfl
    | (with_reducible apply ev_glb_eq) <;> first | exact lit_of _ | exact lit_nat _ | exact rfl
    | (with_reducible apply ev_var_ok) <;> exact rfl
    | (with_reducible apply ev_ownvar) <;> exact rfl
    | (with_reducible apply ev_diown) <;> exact rfl
    | with_reducible exact ev_dct0
    | ((with_reducible apply ev_tup1n); (next => (infer_instance; done)); (next => exact rfl))
    | ((with_reducible apply ev_alike_go); (next => exact rfl); (next => with_reducible rfl); all_goals infer_instance)
    | ((with_reducible apply ev_nalike_go); (next => exact rfl); (next => with_reducible rfl); all_goals infer_instance)
    | (with_reducible apply ev_sub_ok) <;> infer_instance
    | (with_reducible apply ev_bin_ok') <;> infer_instance
    | (with_reducible apply ev_cmp_ok) <;> infer_instance
    | (with_reducible apply ev_call_ok) <;> infer_instance
    | (with_reducible apply ev_not_ok) <;> infer_instance
    | (with_reducible apply ev_lenset) <;> infer_instance
    | (with_reducible apply ev_max2) <;> infer_instance
    | (with_reducible apply ev_bi1_ok) <;> infer_instance
    | (with_reducible apply ev_mt1_ok) <;> infer_instance
    | (with_reducible apply ev_rng1_go) <;> infer_instance
    | (with_reducible apply ev_rng2_go) <;> infer_instance
    | (with_reducible apply ev_rgl_t) <;> infer_instance
    | (with_reducible apply ev_rgl_f) <;> infer_instance
    | (with_reducible apply ev_enm_go) <;> infer_instance
    | (with_reducible apply ev_zip_same) <;> infer_instance
    | (with_reducible apply ev_zip_go) <;> infer_instance
    | (with_reducible apply ev_rvd_go) <;> infer_instance
    | (with_reducible apply ev_iscB) <;> infer_instance
    | (with_reducible apply ev_isc_g) <;> infer_instance
    | (with_reducible apply ev_slc_lo_go) <;> infer_instance
    | (with_reducible apply ev_slc_hi_go) <;> infer_instance
    | (with_reducible apply ev_neg_ok) <;> infer_instance
    | (with_reducible apply ev_and_go) <;> infer_instance
    | (with_reducible apply ev_or_go) <;> infer_instance
    | (with_reducible apply ev_ite_g) <;> infer_instance
    | (with_reducible apply ev_lst_star2) <;> infer_instance
    | (with_reducible apply ev_lst_go) <;> infer_instance
    | (with_reducible apply ev_tup_starV) <;> infer_instance
    | (with_reducible apply ev_tup_star2) <;> infer_instance
    | (with_reducible apply ev_tup_go) <;> infer_instance
    | (with_reducible apply ev_lc_go0) <;> infer_instance
    | (with_reducible apply ev_lc_go) <;> infer_instance
    | (with_reducible apply ev_callW_go) <;> infer_instance
    | with_reducible apply hold_ev
    | skip)
  | ((with_reducible apply gd_evTs); first
    | with_reducible exact evTs_nil
    | with_reducible exact evCs_go0
    | (with_reducible apply evTs_c1) <;> infer_instance
    | (with_reducible apply evCs1) <;> infer_instance
    | with_reducible apply hold_evTs
    | with_reducible apply hold_evCs
    | skip)
  | ((with_reducible apply gd_evCs); first
    | with_reducible exact evTs_nil
    | with_reducible exact evCs_go0
    | (with_reducible apply evTs_c1) <;> infer_instance
    | (with_reducible apply evCs1) <;> infer_instance
    | with_reducible apply hold_evTs
    | with_reducible apply hold_evCs
    | skip)
  | ((with_reducible apply gd_exs); first
    | (with_reducible apply exs_nil_eq) <;> exact rfl
    | with_reducible apply exs_nil_eq
    | (with_reducible apply exs_ret_go) <;> infer_instance
    | (with_reducible apply exs_go) <;> infer_instance
    | (with_reducible apply ex_ret_go) <;> infer_instance
    | (with_reducible apply ex_do_go) <;> infer_instance
    | (with_reducible apply ex_asg_go) <;> infer_instance
    | (with_reducible apply ex_asgT_go) <;> infer_instance
    | (with_reducible apply ex_app_go) <;> infer_instance
    | (with_reducible apply ex_setI_go) <;> infer_instance
    | (with_reducible apply ex_par2_go) <;> infer_instance
    | (with_reducible apply ex_par3_go) <;> infer_instance
    | (with_reducible apply ex_if_go) <;> infer_instance
    | (with_reducible apply forB_go) <;> infer_instance
    | with_reducible apply hold_ex
    | with_reducible apply hold_exs
    | skip)
  | ((with_reducible apply gd_ex); first
    | (with_reducible apply exs_nil_eq) <;> exact rfl
    | with_reducible apply exs_nil_eq
    | (with_reducible apply exs_ret_go) <;> infer_instance
    | (with_reducible apply exs_go) <;> infer_instance
    | (with_reducible apply ex_ret_go) <;> infer_instance
    | (with_reducible apply ex_do_go) <;> infer_instance
    | (with_reducible apply ex_asg_go) <;> infer_instance
    | (with_reducible apply ex_asgT_go) <;> infer_instance
    | (with_reducible apply ex_app_go) <;> infer_instance
    | (with_reducible apply ex_setI_go) <;> infer_instance
    | (with_reducible apply ex_par2_go) <;> infer_instance
    | (with_reducible apply ex_par3_go) <;> infer_instance
    | (with_reducible apply ex_if_go) <;> infer_instance
    | (with_reducible apply forB_go) <;> infer_instance
    | with_reducible apply hold_ex
    | with_reducible apply hold_exs
    | skip)
  | ((with_reducible apply gd_forB); first
    | (with_reducible apply exs_nil_eq) <;> exact rfl
    | with_reducible apply exs_nil_eq
    | (with_reducible apply exs_ret_go) <;> infer_instance
    | (with_reducible apply exs_go) <;> infer_instance
    | (with_reducible apply ex_ret_go) <;> infer_instance
    | (with_reducible apply ex_do_go) <;> infer_instance
    | (with_reducible apply ex_asg_go) <;> infer_instance
    | (with_reducible apply ex_asgT_go) <;> infer_instance
    | (with_reducible apply ex_app_go) <;> infer_instance
    | (with_reducible apply ex_setI_go) <;> infer_instance
    | (with_reducible apply ex_par2_go) <;> infer_instance
    | (with_reducible apply ex_par3_go) <;> infer_instance
    | (with_reducible apply ex_if_go) <;> infer_instance
    | (with_reducible apply forB_go) <;> infer_instance
    | with_reducible apply hold_ex
    | with_reducible apply hold_exs
    | skip)
  | ((with_reducible apply gd_bin); first
    | (with_reducible first
      | apply gb_addN
      | (apply gb_subN <;> lt_chain)
      | (apply gb_modN <;> lt_chain)
      | (apply gb_modS <;> lt_chain)
      | (apply gb_addS <;> lt_chain)
      | (apply gb_addT <;> lt_chain)
      | (apply gb_addL <;> lt_chain)
      | (apply gb_mulN <;> lt_chain)
      | (apply gb_fdivN <;> lt_chain)
      | (apply gb_repT <;> lt_chain)
      | (apply gb_rep1 <;> lt_chain)
      | (apply gx_modI <;> lt_chain)
      | (apply gx_modII <;> lt_chain)
      | (apply gb_mulN2 <;> lt_chain)
      | (apply gx_fdivI <;> lt_chain)
      | (apply gb_mulI <;> lt_chain)
      | apply bd_add
      | apply bd_sub
      | fail)
    | k_mem
    | with_reducible exact rfl
    | skip)
  | ((with_reducible apply gd_cmp); first
    | (with_reducible first
      | apply gc_eqN
      | apply gc_neN
      | apply gc_ltN
      | apply gc_gtN
      | apply gc_leN
      | apply gc_geN
      | apply in_cs
      | apply nin_cs
      | apply gc_in_it
      | apply gc_nin_it
      | apply gc_in_lst
      | apply gc_nin_lst
      | apply cmp_st
      | apply cmp_st_ne
      | apply cmp_tr
      | apply cmp_tr_ne
      | apply gc_neL
      | apply gc_eqL
      | apply gc_neL0
      | apply gc_eqL0
      | apply gc_neS
      | apply gc_in_itF
      | apply gc_neS0
      | apply gc_neB
      | apply gc_ltI
      | apply gc_leI
      | apply gc_gtI
      | apply gc_geI
      | apply gc_eqI
      | apply gc_neI
      | fail)
    | k_mem
    | with_reducible exact rfl
    | skip)
  | ((with_reducible apply gd_sub); first
    | (with_reducible first
      | apply gs_y0
      | apply gs_y1
      | (apply gx_rngP <;> lt_chain)
      | (apply gx_rngL <;> lt_chain)
      | (apply gx_rng <;> lt_chain)
      | (apply sub_stD <;> lt_chain)
      | (apply sub_trD <;> lt_chain)
      | (apply gs_li <;> lt_chain)
      | (apply gs_tu <;> lt_chain)
      | (apply gs_st_neg <;> lt_chain)
      | (apply gs_neg <;> lt_chain)
      | (apply nm_sub <;> lt_chain)
      | fail)
    | k_mem
    | with_reducible exact rfl
    | skip)
  | ((with_reducible apply gd_bi1); first
    | (with_reducible first
      | apply gx_sum
      | apply gl_len_st
      | apply gl_len_tr
      | apply gl_len_li
      | apply gl_len_tu
      | apply gl_tup_st
      | apply gl_tup_tr
      | apply gl_tup_it
      | apply gl_list_st
      | apply gl_list_tr
      | apply gl_list_it
      | apply gl_list_li
      | apply gx_all
      | apply gx_any
      | apply gx_allB
      | apply gl_ist
      | apply gl_intB
      | (apply gx_maxN <;> lt_chain)
      | (apply gx_maxR <;> lt_chain)
      | (apply sort_tr <;> lt_chain)
      | (apply sort_trsF <;> lt_chain)
      | (apply sort_itF <;> lt_chain)
      | apply gl_int
      | apply gl_tupA
      | apply gl_tupB
      | apply gl_tupC
      | apply gl_lisA
      | apply gl_lisB
      | apply gl_lisC
      | fail)
    | k_mem
    | with_reducible exact rfl
    | skip)
  | ((with_reducible apply gd_mt); first
    | (with_reducible first
      | (apply gx_tidx <;> lt_chain)
      | (apply gx_idx <;> lt_chain)
      | (apply gx_idxF <;> lt_chain)
      | fail)
    | k_mem
    | with_reducible exact rfl
    | skip)
  | ((with_reducible apply gd_slc); first
    | (with_reducible first
      | (apply gk_hi_st <;> lt_chain)
      | (apply gk_lo_st <;> lt_chain)
      | (apply gk_hi_tr <;> lt_chain)
      | (apply gk_lo_tr <;> lt_chain)
      | (apply gk_hi_li <;> lt_chain)
      | (apply gk_lo_li <;> lt_chain)
      | fail)
    | k_mem
    | with_reducible exact rfl
    | skip)
  | (with_reducible exact rw_own (by assumption))
  | (with_reducible first | apply isNon_ls | apply isNon_li | apply isNon_no | apply isNon_int | apply cond_tr | apply cond_st | apply cond_n | apply tup_int | apply tup_bool | apply gx_turn | (apply tup_st8 <;> lt_chain) | (apply tup_tr8 <;> lt_chain) | (apply tup_lst8 <;> lt_chain) | (apply tup_tus8 <;> lt_chain) | (apply tup_pairs8 <;> lt_chain) | (apply is_list_tr <;> lt_chain))
  | (with_reducible first | apply retR_pu | apply retR_li0 | apply retR_li1) <;> infer_instance
  | (with_reducible first | exact takeR_pu | exact takeR_li0 | exact takeR_nl0 | exact takeR_di0 | exact keepR_pu | exact keepR_li0 | exact keepR_nl0 | exact keepR_di0)
  | (with_reducible first | apply takeR_li1 | apply keepR_li1) <;> infer_instance
  | with_reducible exact wipe_0
  | (with_reducible apply wipe_S) <;> infer_instance
  | with_reducible exact set_0
  | (with_reducible apply set_S) <;> infer_instance
  | (with_reducible apply set_2) <;> infer_instance
  | (with_reducible apply bindP_v) <;> infer_instance
  | (with_reducible apply bindP_yd) <;> infer_instance
  | (with_reducible apply bindP_t2) <;> infer_instance
  | (with_reducible apply bindP_t3) <;> infer_instance
  | k_mem
  | (with_reducible first | apply hold_fn | apply hold_fw)
  | with_reducible exact apart_nil
  | (with_reducible apply apart_of) <;> simp [apart, muE, muEs, muT, muTs, muO, muS, muSs, P.slots, P.slotsL]
  | (with_reducible first | apply gu_get | apply gu_itR | apply gu_seq | apply gu_nlAt | apply gu_den | apply gu_take | apply gu_keep | apply gu_ret | apply gu_bind | apply gu_eget | apply gu_nl | apply gu_st1 | apply gu_own | apply gu_wipe | apply gu_set) <;> exact rfl
  | with_reducible exact rfl
  | ((with_reducible apply gu_b); simp only [Bool.not_true, Bool.not_false, Bool.and_true, Bool.true_and, Bool.or_false, Bool.false_or, Bool.or_self, Bool.and_self, Bool.not_not, Bool.or_true, Bool.true_or, Bool.and_false, Bool.false_and]; done)
  | lt_chain
  | skip)
-- OG
def keyS (l : List (List (List Nat))) : List (D × D) := l.map fun st => (stD st, .bool true)
theorem okKey_st (st : List (List Nat)) : tupKey (stD st) = true := by
  show (st.map trD).all (okKey 7) = true
  rw [List.all_eq_true]
  intro x hx
  obtain ⟨t, _, rfl⟩ := List.mem_map.1 hx
  show (t.map nD).all (okKey 6) = true
  rw [List.all_eq_true]
  intro y hy
  obtain ⟨n, _, rfl⟩ := List.mem_map.1 hy
  rfl
theorem keyS_fit (l : List (List (List Nat))) (st : List (List Nat)) : keyFit (keyS l) (stD st) = true := by
  have h : ((keyS l).all fun kv => tupKey kv.1) = true := by
    rw [List.all_eq_true]
    intro x hx
    obtain ⟨t, _, rfl⟩ := List.mem_map.1 hx
    exact okKey_st t
  rw [keyFit, okKey_st, h]; simp
theorem keyS_no (l : List (List (List Nat))) (st : List (List Nat)) (h : st ∉ l) : dLook (keyS l) (stD st) = none := by
  rw [dLook, List.find?_eq_none.2 ?_]; rfl
  intro kv hkv
  obtain ⟨t, ht, rfl⟩ := List.mem_map.1 hkv
  rw [eqv_stD]
  have : t ≠ st := fun e => h (e ▸ ht)
  simp [this]
theorem keyS_put (l : List (List (List Nat))) (st : List (List Nat)) (h : st ∉ l) (hl : l.length ≤ 1000) : putI (.di (keyS l)) (.pu (stD st)) (.bool true) = .ok (.di (keyS (l ++ [st]))) := by
  have e : putI (.di (keyS l)) (.pu (stD st)) (.bool true) = if keyFit (keyS l) (stD st) && decide ((keyS l).length < big) then .ok (.di (dPut (keyS l) (stD st) (.bool true))) else .bad := rfl
  have hb : (keyS l).length < big := by rw [keyS, List.length_map]; unfold big; omega
  rw [e, keyS_fit, if_pos (by simp [hb]), dPut, look_any, keyS_no l st h]
  simp [keyS]
theorem it_keyS (l : List (List (List Nat))) : itR (.di (keyS l)) = .ok (l.map stD) := by
  show R.ok ((keyS l).map (·.1)) = _
  rw [keyS, List.map_map]; rfl
theorem it_keySP (l : List (List (List Nat))) : itR (.pu (.dict (keyS l))) = .ok (l.map stD) := by
  show R.ok ((keyS l).map (·.1)) = _
  rw [keyS, List.map_map]; rfl
theorem ex_setI_dk {G : List Fn} {y i : Nat} {st : List (List Nat)} {l : List (List (List Nat))} {env E : TR.Env} (h2 : env.get i = .ok (.pu (stD st))) (hy : env.get y = .ok (.di (keyS l))) (hn : st ∉ l) (hl : l.length ≤ 1000) (hE : env.set y (some (.di (keyS (l ++ [st])))) = E) : ex G (.setI y (.var i) (.cst (.bool true))) env = .ok (.nx E) := by
  subst hE
  exact ex_setI_ok hy ev_cst_ok (ev_var_ok h2) hy (keyS_put l st hn hl)
theorem ev_tup_sxs {G : List Fn} {a b : E} {i : Nat} {ma mb : M} {xs ys : List D} {d : D} {ra rb : List Nat} {env : TR.Env} (h : ev G a env = .ok (ma, ra, env)) (hs : ma.seq = .ok xs) (hd : env.get i = .ok (.pu d)) (h2 : ev G b env = .ok (mb, rb, env)) (hs2 : mb.seq = .ok ys) (hl : xs.length + ys.length ≤ 900) : ev G (.tup [.star a, .var i, .star b]) env = .ok (.pu (.tuple (xs ++ d :: ys)), [], env) := by
  have h3 : evTs G [.star a, .var i, .star b] env = .ok (xs ++ (d :: (ys ++ [])), env) := evTs_st h hs (evTs_c1 (ev_var_ok hd) rfl (evTs_st h2 hs2 evTs_nil))
  rw [List.append_nil] at h3
  exact ev_tup_go h3 (by simp; omega)
theorem zip_rng (st : List (List Nat)) : st.zipIdx = (List.range st.length).map fun j => (st.getD j [], j) := by
  apply List.ext_getElem
  · simp
  · intro i h1 h2
    simp at h1
    simp [h1]
/-! the walks -/
theorem ev_dct1 {G : List Fn} {a : E} {d dv : D} {ra : List Nat} {env : TR.Env} (h : ev G a env = .ok (.pu d, ra, env)) (ht : tupKey d = true) : ev G (.dct [a, .cst dv]) env = .ok (.di [(d, dv)], [], env) := by
  have hf : keyFit [] d = true := by rw [keyFit, ht]; simp
  have h2 : evKs G [a, .cst dv] [] env = .ok ([(d, dv)], env) := by
    rw [evKs, h]
    simp only [bind, R.bind, takeR, ev_cst_ok]
    rw [if_pos (by rw [ht, hf]; rfl), evKs]
    rfl
  rw [ev, h2]; rfl
theorem placeD (c s : Nat) (m3 : Option M) (k j : Nat) (st : List (List Nat)) (acc : List (List (List Nat))) (b : Option M × Option M × Option M) (hj : j < st.length) (hs : st.length ≤ 8) (hl : (st.getD j []).length ≤ 7) (hN : acc.length ≤ 900) (hnd : (acc ++ (List.range ((st.getD j []).length + 1)).map fun p => insC st k j p).Nodup) :
    ∃ b' : Option M × Option M × Option M, ex g_f_all_states (.for_ (.v 9) (.rng [(.bin .add (.bi .len [(.var 8)]) (.cst (.int 1)))]) [(.asg (.v 10) (.tup [(.star (.slc (.var 8) none (some (.var 9)))), (.var 4), (.star (.slc (.var 8) (some (.var 9)) none))])), (.asg (.v 11) (.tup [(.star (.slc (.var 6) none (some (.var 7)))), (.var 10), (.star (.slc (.var 6) (some (.bin .add (.var 7) (.cst (.int 1)))) none))])), (.setI 5 (.var 11) (.cst (.bool true)))])
      [some (.pu (ydD c s)), some (.pu (.int (c : Nat))), some (.pu (.int (s : Nat))), m3, some (.pu (.int (k : Nat))), some (.di (keyS acc)), some (.pu (stD st)), some (.pu (.int (j : Nat))), some (.pu (trD (st.getD j []))), b.1, b.2.1, b.2.2] =
      .ok (.nx [some (.pu (ydD c s)), some (.pu (.int (c : Nat))), some (.pu (.int (s : Nat))), m3, some (.pu (.int (k : Nat))), some (.di (keyS (acc ++ (List.range ((st.getD j []).length + 1)).map fun p => insC st k j p))), some (.pu (stD st)), some (.pu (.int (j : Nat))), some (.pu (trD (st.getD j []))), b'.1, b'.2.1, b'.2.2]) := by
  rw [← flatMap_one (fun p => insC st k j p)] at hnd ⊢
  generalize ht : st.getD j [] = t at hl hnd ⊢
  apply ex_for_grow (emb := nD) (xs := List.range (t.length + 1)) (E := fun (l : List (List (List Nat))) (b : Option M × Option M × Option M) => [some (.pu (ydD c s)), some (.pu (.int (c : Nat))), some (.pu (.int (s : Nat))), m3, some (.pu (.int (k : Nat))), some (.di (keyS l)), some (.pu (stD st)), some (.pu (.int (j : Nat))), some (.pu (trD t)), b.1, b.2.1, b.2.2]) (b0 := b)
  · infer_instance
  · rfl
  · infer_instance
  · infer_instance
  · rintro p hp l ⟨b9, b10, b11⟩ hpre
    have hp2 : p ≤ t.length := by rw [List.mem_range] at hp; omega
    have hlen := hpre.length_le
    rw [flatMap_one, List.length_append, List.length_append, List.length_map, List.length_range] at hlen
    have hl1 : l.length ≤ 950 := by simp at hlen; omega
    have hnn := hnd.sublist hpre.sublist
    have hno : insC st k j p ∉ l := fun z => by
      rw [List.nodup_append] at hnn
      exact hnn.2.2 _ z _ (List.mem_singleton_self _) rfl
    have k4 := insC_eq st k j p hj
    rw [ht] at k4
    refine ⟨(some (.pu (nD p)), some (.pu (trD (t.take p ++ k :: t.drop p))), some (.pu (stD (insC st k j p)))), ?_⟩
    have e1 : ev g_f_all_states (.tup [(.star (.slc (.var 8) none (some (.var 9)))), (.var 4), (.star (.slc (.var 8) (some (.var 9)) none))]) [some (.pu (ydD c s)), some (.pu (.int (c : Nat))), some (.pu (.int (s : Nat))), m3, some (.pu (.int (k : Nat))), some (.di (keyS l)), some (.pu (stD st)), some (.pu (.int (j : Nat))), some (.pu (trD t)), some (.pu (nD p)), b10, b11] = .ok (.pu (trD (t.take p ++ k :: t.drop p)), [], [some (.pu (ydD c s)), some (.pu (.int (c : Nat))), some (.pu (.int (s : Nat))), m3, some (.pu (.int (k : Nat))), some (.di (keyS l)), some (.pu (stD st)), some (.pu (.int (j : Nat))), some (.pu (trD t)), some (.pu (nD p)), b10, b11]) := by
      have := ev_tup_sxs (G := g_f_all_states) (a := .slc (.var 8) none (some (.var 9))) (b := .slc (.var 8) (some (.var 9)) none) (i := 4) (ma := .pu (trD (t.take p))) (mb := .pu (trD (t.drop p))) (ra := []) (rb := []) (xs := (t.take p).map nD) (ys := (t.drop p).map nD) (d := nD k) (env := [some (.pu (ydD c s)), some (.pu (.int (c : Nat))), some (.pu (.int (s : Nat))), m3, some (.pu (.int (k : Nat))), some (.di (keyS l)), some (.pu (stD st)), some (.pu (.int (j : Nat))), some (.pu (trD t)), some (.pu (nD p)), b10, b11]) (by infer_instance) rfl rfl (by infer_instance) rfl (by simp; omega)
      rw [show (t.take p).map nD ++ nD k :: (t.drop p).map nD = (t.take p ++ k :: t.drop p).map nD by simp] at this
      exact this
    have e2 : ev g_f_all_states (.tup [(.star (.slc (.var 6) none (some (.var 7)))), (.var 10), (.star (.slc (.var 6) (some (.bin .add (.var 7) (.cst (.int 1)))) none))]) [some (.pu (ydD c s)), some (.pu (.int (c : Nat))), some (.pu (.int (s : Nat))), m3, some (.pu (.int (k : Nat))), some (.di (keyS l)), some (.pu (stD st)), some (.pu (.int (j : Nat))), some (.pu (trD t)), some (.pu (nD p)), some (.pu (trD (t.take p ++ k :: t.drop p))), b11] = .ok (.pu (stD (insC st k j p)), [], [some (.pu (ydD c s)), some (.pu (.int (c : Nat))), some (.pu (.int (s : Nat))), m3, some (.pu (.int (k : Nat))), some (.di (keyS l)), some (.pu (stD st)), some (.pu (.int (j : Nat))), some (.pu (trD t)), some (.pu (nD p)), some (.pu (trD (t.take p ++ k :: t.drop p))), b11]) := by
      have := ev_tup_sxs (G := g_f_all_states) (a := .slc (.var 6) none (some (.var 7))) (b := .slc (.var 6) (some (.bin .add (.var 7) (.cst (.int 1)))) none) (i := 10) (ma := .pu (stD (st.take j))) (mb := .pu (stD (st.drop (j + 1)))) (ra := []) (rb := []) (xs := (st.take j).map trD) (ys := (st.drop (j + 1)).map trD) (d := trD (t.take p ++ k :: t.drop p)) (env := [some (.pu (ydD c s)), some (.pu (.int (c : Nat))), some (.pu (.int (s : Nat))), m3, some (.pu (.int (k : Nat))), some (.di (keyS l)), some (.pu (stD st)), some (.pu (.int (j : Nat))), some (.pu (trD t)), some (.pu (nD p)), some (.pu (trD (t.take p ++ k :: t.drop p))), b11]) (by infer_instance) rfl rfl (by infer_instance) rfl (by simp; omega)
      rw [show (st.take j).map trD ++ trD (t.take p ++ k :: t.drop p) :: (st.drop (j + 1)).map trD = (insC st k j p).map trD by rw [← k4]; simp] at this
      exact this
    have e3 := ex_setI_dk (G := g_f_all_states) (y := 5) (i := 11) (st := insC st k j p) (l := l) (env := [some (.pu (ydD c s)), some (.pu (.int (c : Nat))), some (.pu (.int (s : Nat))), m3, some (.pu (.int (k : Nat))), some (.di (keyS l)), some (.pu (stD st)), some (.pu (.int (j : Nat))), some (.pu (trD t)), some (.pu (nD p)), some (.pu (trD (t.take p ++ k :: t.drop p))), some (.pu (stD (insC st k j p)))]) rfl rfl hno (by omega) rfl
    apply forB_go rfl
    apply exs_go
    · exact ex_asg_go e1 rfl (by simp) rfl
    apply exs_go
    · exact ex_asg_go e2 rfl (by simp) rfl
    apply exs_go
    · exact e3
    exact exs_nil
theorem stationD (c s : Nat) (m3 : Option M) (k : Nat) (st : List (List Nat)) (acc : List (List (List Nat))) (b : Option M × Option M × Option M × Option M × Option M) (hs : st.length = s) (h8 : s ≤ 8) (hl : ∀ j, (st.getD j []).length ≤ 7) (hN : (acc ++ grow s k st).length ≤ 900) (hnd : (acc ++ grow s k st).Nodup) :
    ∃ b' : Option M × Option M × Option M × Option M × Option M, ex g_f_all_states (.for_ (.t [(.v 7), (.v 8)]) (.enm (.var 6)) [(.for_ (.v 9) (.rng [(.bin .add (.bi .len [(.var 8)]) (.cst (.int 1)))]) [(.asg (.v 10) (.tup [(.star (.slc (.var 8) none (some (.var 9)))), (.var 4), (.star (.slc (.var 8) (some (.var 9)) none))])), (.asg (.v 11) (.tup [(.star (.slc (.var 6) none (some (.var 7)))), (.var 10), (.star (.slc (.var 6) (some (.bin .add (.var 7) (.cst (.int 1)))) none))])), (.setI 5 (.var 11) (.cst (.bool true)))])])
      [some (.pu (ydD c s)), some (.pu (.int (c : Nat))), some (.pu (.int (s : Nat))), m3, some (.pu (.int (k : Nat))), some (.di (keyS acc)), some (.pu (stD st)), b.1, b.2.1, b.2.2.1, b.2.2.2.1, b.2.2.2.2] =
      .ok (.nx [some (.pu (ydD c s)), some (.pu (.int (c : Nat))), some (.pu (.int (s : Nat))), m3, some (.pu (.int (k : Nat))), some (.di (keyS (acc ++ grow s k st))), some (.pu (stD st)), b'.1, b'.2.1, b'.2.2.1, b'.2.2.2.1, b'.2.2.2.2]) := by
  rw [grow] at hN hnd ⊢
  have hit : ev g_f_all_states (.enm (.var 6)) [some (.pu (ydD c s)), some (.pu (.int (c : Nat))), some (.pu (.int (s : Nat))), m3, some (.pu (.int (k : Nat))), some (.di (keyS acc)), some (.pu (stD st)), b.1, b.2.1, b.2.2.1, b.2.2.2.1, b.2.2.2.2] = .ok (.li ((List.range s).map fun j => PyData.tuple [nD j, trD (st.getD j [])]), [], [some (.pu (ydD c s)), some (.pu (.int (c : Nat))), some (.pu (.int (s : Nat))), m3, some (.pu (.int (k : Nat))), some (.di (keyS acc)), some (.pu (stD st)), b.1, b.2.1, b.2.2.1, b.2.2.2.1, b.2.2.2.2]) := by
    have e0 : ((List.range s).map fun j => PyData.tuple [nD j, trD (st.getD j [])]) = st.zipIdx.map fun p => .tuple [nD p.2, trD p.1] := by
      rw [zip_rng, List.map_map, hs]; rfl
    rw [e0]
    infer_instance
  apply ex_for_grow (emb := fun j => PyData.tuple [nD j, trD (st.getD j [])]) (xs := List.range s) (E := fun (l : List (List (List Nat))) (b : Option M × Option M × Option M × Option M × Option M) => [some (.pu (ydD c s)), some (.pu (.int (c : Nat))), some (.pu (.int (s : Nat))), m3, some (.pu (.int (k : Nat))), some (.di (keyS l)), some (.pu (stD st)), b.1, b.2.1, b.2.2.1, b.2.2.2.1, b.2.2.2.2]) (b0 := b) (hit := hit)
  · rfl
  · infer_instance
  · infer_instance
  · rintro j hj l ⟨b7, b8, b9, b10, b11⟩ hpre
    have hj2 : j < st.length := by rw [List.mem_range] at hj; omega
    have hlen := hpre.length_le
    have hl2 := hlen
    rw [List.length_append] at hl2
    obtain ⟨z, hz⟩ := placeD c s m3 k j st l (b9, b10, b11) hj2 (by omega) (hl j) (by omega) (hnd.sublist hpre.sublist)
    refine ⟨(some (.pu (nD j)), some (.pu (trD (st.getD j []))), z.1, z.2.1, z.2.2), ?_⟩
    exact forB_go rfl ((exs_nx hz).trans exs_nil)
theorem stateD (c s : Nat) (k : Nat) (Ls : List (List (List Nat))) (b : Option M × Option M × Option M × Option M × Option M × Option M) (hs : ∀ st ∈ Ls, st.length = s ∧ ∀ j, (st.getD j []).length ≤ 7) (h8 : s ≤ 8) (hN : (Ls.flatMap (grow s k)).length ≤ 900) (hnd : (Ls.flatMap (grow s k)).Nodup) :
    ∃ b' : Option M × Option M × Option M × Option M × Option M × Option M, ex g_f_all_states (.for_ (.v 6) (.var 3) [(.for_ (.t [(.v 7), (.v 8)]) (.enm (.var 6)) [(.for_ (.v 9) (.rng [(.bin .add (.bi .len [(.var 8)]) (.cst (.int 1)))]) [(.asg (.v 10) (.tup [(.star (.slc (.var 8) none (some (.var 9)))), (.var 4), (.star (.slc (.var 8) (some (.var 9)) none))])), (.asg (.v 11) (.tup [(.star (.slc (.var 6) none (some (.var 7)))), (.var 10), (.star (.slc (.var 6) (some (.bin .add (.var 7) (.cst (.int 1)))) none))])), (.setI 5 (.var 11) (.cst (.bool true)))])])])
      [some (.pu (ydD c s)), some (.pu (.int (c : Nat))), some (.pu (.int (s : Nat))), some (.di (keyS Ls)), some (.pu (.int (k : Nat))), some (.di (keyS [])), b.1, b.2.1, b.2.2.1, b.2.2.2.1, b.2.2.2.2.1, b.2.2.2.2.2] =
      .ok (.nx [some (.pu (ydD c s)), some (.pu (.int (c : Nat))), some (.pu (.int (s : Nat))), some (.di (keyS Ls)), some (.pu (.int (k : Nat))), some (.di (keyS (Ls.flatMap (grow s k)))), b'.1, b'.2.1, b'.2.2.1, b'.2.2.2.1, b'.2.2.2.2.1, b'.2.2.2.2.2]) := by
  have h0 := ex_for_grow (G := g_f_all_states) (p := .v 6) (it := .var 3) (body := [(.for_ (.t [(.v 7), (.v 8)]) (.enm (.var 6)) [(.for_ (.v 9) (.rng [(.bin .add (.bi .len [(.var 8)]) (.cst (.int 1)))]) [(.asg (.v 10) (.tup [(.star (.slc (.var 8) none (some (.var 9)))), (.var 4), (.star (.slc (.var 8) (some (.var 9)) none))])), (.asg (.v 11) (.tup [(.star (.slc (.var 6) none (some (.var 7)))), (.var 10), (.star (.slc (.var 6) (some (.bin .add (.var 7) (.cst (.int 1)))) none))])), (.setI 5 (.var 11) (.cst (.bool true)))])])]) (m := .di (keyS Ls)) (rs := [3]) (emb := stD) (xs := Ls) (env := [some (.pu (ydD c s)), some (.pu (.int (c : Nat))), some (.pu (.int (s : Nat))), some (.di (keyS Ls)), some (.pu (.int (k : Nat))), some (.di (keyS [])), b.1, b.2.1, b.2.2.1, b.2.2.2.1, b.2.2.2.2.1, b.2.2.2.2.2])
    (E := fun (l : List (List (List Nat))) (b : Option M × Option M × Option M × Option M × Option M × Option M) => [some (.pu (ydD c s)), some (.pu (.int (c : Nat))), some (.pu (.int (s : Nat))), some (.di (keyS Ls)), some (.pu (.int (k : Nat))), some (.di (keyS l)), b.1, b.2.1, b.2.2.1, b.2.2.2.1, b.2.2.2.2.1, b.2.2.2.2.2]) (f := grow s k) (acc := []) (b0 := b)
    rfl rfl (it_keyS Ls) (by simp [apart, muSs, muS, muE, muT, muEs, muTs, P.slots]) (by
      rintro st hst l ⟨b6, b7, b8, b9, b10, b11⟩ hpre
      have hlen := hpre.length_le
      rw [List.nil_append] at hlen
      have hn2 := hnd.sublist (by have := hpre.sublist; rw [List.nil_append] at this; exact this)
      obtain ⟨z, hz⟩ := stationD c s (some (.di (keyS Ls))) k st l (b7, b8, b9, b10, b11) (hs st hst).1 h8 (hs st hst).2 (by omega) hn2
      refine ⟨(some (.pu (stD st)), z.1, z.2.1, z.2.2.1, z.2.2.2.1, z.2.2.2.2), ?_⟩
      exact forB_go rfl ((exs_nx hz).trans exs_nil))
  exact h0
theorem stateDP (c s : Nat) (k : Nat) (Ls : List (List (List Nat))) (b : Option M × Option M × Option M × Option M × Option M × Option M) (hs : ∀ st ∈ Ls, st.length = s ∧ ∀ j, (st.getD j []).length ≤ 7) (h8 : s ≤ 8) (hN : (Ls.flatMap (grow s k)).length ≤ 900) (hnd : (Ls.flatMap (grow s k)).Nodup) :
    ∃ b' : Option M × Option M × Option M × Option M × Option M × Option M, ex g_f_all_states (.for_ (.v 6) (.var 3) [(.for_ (.t [(.v 7), (.v 8)]) (.enm (.var 6)) [(.for_ (.v 9) (.rng [(.bin .add (.bi .len [(.var 8)]) (.cst (.int 1)))]) [(.asg (.v 10) (.tup [(.star (.slc (.var 8) none (some (.var 9)))), (.var 4), (.star (.slc (.var 8) (some (.var 9)) none))])), (.asg (.v 11) (.tup [(.star (.slc (.var 6) none (some (.var 7)))), (.var 10), (.star (.slc (.var 6) (some (.bin .add (.var 7) (.cst (.int 1)))) none))])), (.setI 5 (.var 11) (.cst (.bool true)))])])])
      [some (.pu (ydD c s)), some (.pu (.int (c : Nat))), some (.pu (.int (s : Nat))), some (.pu (.dict (keyS Ls))), some (.pu (.int (k : Nat))), some (.di (keyS [])), b.1, b.2.1, b.2.2.1, b.2.2.2.1, b.2.2.2.2.1, b.2.2.2.2.2] =
      .ok (.nx [some (.pu (ydD c s)), some (.pu (.int (c : Nat))), some (.pu (.int (s : Nat))), some (.pu (.dict (keyS Ls))), some (.pu (.int (k : Nat))), some (.di (keyS (Ls.flatMap (grow s k)))), b'.1, b'.2.1, b'.2.2.1, b'.2.2.2.1, b'.2.2.2.2.1, b'.2.2.2.2.2]) := by
  have h0 := ex_for_grow (G := g_f_all_states) (p := .v 6) (it := .var 3) (body := [(.for_ (.t [(.v 7), (.v 8)]) (.enm (.var 6)) [(.for_ (.v 9) (.rng [(.bin .add (.bi .len [(.var 8)]) (.cst (.int 1)))]) [(.asg (.v 10) (.tup [(.star (.slc (.var 8) none (some (.var 9)))), (.var 4), (.star (.slc (.var 8) (some (.var 9)) none))])), (.asg (.v 11) (.tup [(.star (.slc (.var 6) none (some (.var 7)))), (.var 10), (.star (.slc (.var 6) (some (.bin .add (.var 7) (.cst (.int 1)))) none))])), (.setI 5 (.var 11) (.cst (.bool true)))])])]) (m := .pu (.dict (keyS Ls))) (rs := []) (emb := stD) (xs := Ls) (env := [some (.pu (ydD c s)), some (.pu (.int (c : Nat))), some (.pu (.int (s : Nat))), some (.pu (.dict (keyS Ls))), some (.pu (.int (k : Nat))), some (.di (keyS [])), b.1, b.2.1, b.2.2.1, b.2.2.2.1, b.2.2.2.2.1, b.2.2.2.2.2])
    (E := fun (l : List (List (List Nat))) (b : Option M × Option M × Option M × Option M × Option M × Option M) => [some (.pu (ydD c s)), some (.pu (.int (c : Nat))), some (.pu (.int (s : Nat))), some (.pu (.dict (keyS Ls))), some (.pu (.int (k : Nat))), some (.di (keyS l)), b.1, b.2.1, b.2.2.1, b.2.2.2.1, b.2.2.2.2.1, b.2.2.2.2.2]) (f := grow s k) (acc := []) (b0 := b)
    rfl rfl (it_keySP Ls) (by simp [apart, muSs, muS, muE, muT, muEs, muTs, P.slots]) (by
      rintro st hst l ⟨b6, b7, b8, b9, b10, b11⟩ hpre
      have hlen := hpre.length_le
      rw [List.nil_append] at hlen
      have hn2 := hnd.sublist (by have := hpre.sublist; rw [List.nil_append] at this; exact this)
      obtain ⟨z, hz⟩ := stationD c s (some (.pu (.dict (keyS Ls)))) k st l (b7, b8, b9, b10, b11) (hs st hst).1 h8 (hs st hst).2 (by omega) hn2
      refine ⟨(some (.pu (stD st)), z.1, z.2.1, z.2.2.1, z.2.2.2.1, z.2.2.2.2), ?_⟩
      exact forB_go rfl ((exs_nx hz).trans exs_nil))
  exact h0
theorem all_states_ok (c s : Nat) (hy : GoodY c s) (hN : (asN s c).length ≤ 900) : d_f_all_states [ydD c s] = .ok (.li ((srtS (asN s c)).map stD)) := by
  have h8 := hy.s8
  have h7 := hy.c7
  have h2 := hy.s2
  have hne : ∀ t ∈ asN s c, t ≠ [] := fun t ht z => by
    have := (asN_good s c t ht).1
    rw [z] at this; simp at this; omega
  have hso := sort_sts (asN s c) hne (by omega)
  have hsp := sort_stsP (asN s c) hne (by omega)
  have hrep : binD .mul (.pu (.tuple [trD []])) (.pu (.int (s : Nat))) = .ok (.pu (stD (List.replicate s []))) := by
    show (if (-1000 : Int) ≤ (s : Nat) ∧ ((s : Nat) : Int) ≤ 1000 ∧ 1 ≤ 1000 then R.ok (M.pu (.tuple (List.replicate ((s : Nat) : Int).toNat [trD []]).flatten)) else .bad) = _
    rw [if_pos (by omega)]
    simp [stD]
  obtain ⟨⟨m3, b4, b5, b6, b7, b8, b9, b10, b11⟩, hI, hF⟩ := ex_for_ex (G := g_f_all_states) (p := .v 4) (it := .rng [(.var 1)]) (body := [(.asg (.v 5) (.dct [])), (.for_ (.v 6) (.var 3) [(.for_ (.t [(.v 7), (.v 8)]) (.enm (.var 6)) [(.for_ (.v 9) (.rng [(.bin .add (.bi .len [(.var 8)]) (.cst (.int 1)))]) [(.asg (.v 10) (.tup [(.star (.slc (.var 8) none (some (.var 9)))), (.var 4), (.star (.slc (.var 8) (some (.var 9)) none))])), (.asg (.v 11) (.tup [(.star (.slc (.var 6) none (some (.var 7)))), (.var 10), (.star (.slc (.var 6) (some (.bin .add (.var 7) (.cst (.int 1)))) none))])), (.setI 5 (.var 11) (.cst (.bool true)))])])]), (.asg (.v 3) (.var 5))])
    (m := .li ((List.range c).map nD)) (rs := []) (emb := nD) (xs := List.range c) (env := [some (.pu (ydD c s)), some (.pu (.int (c : Nat))), some (.pu (.int (s : Nat))), some (.di (keyS [List.replicate s []])), none, none, none, none, none, none, none, none]) (e1 := [some (.pu (ydD c s)), some (.pu (.int (c : Nat))), some (.pu (.int (s : Nat))), some (.di (keyS [List.replicate s []])), none, none, none, none, none, none, none, none])
    (E := fun q : M × Option M × Option M × Option M × Option M × Option M × Option M × Option M × Option M => [some (.pu (ydD c s)), some (.pu (.int (c : Nat))), some (.pu (.int (s : Nat))), some q.1, q.2.1, q.2.2.1, q.2.2.2.1, q.2.2.2.2.1, q.2.2.2.2.2.1, q.2.2.2.2.2.2.1, q.2.2.2.2.2.2.2.1, q.2.2.2.2.2.2.2.2])
    (I := fun k q => q.1 = .di (keyS (asN s k)) ∨ q.1 = .pu (.dict (keyS (asN s k)))) (.di (keyS [List.replicate s []]), none, none, none, none, none, none, none, none)
    (by infer_instance) rfl (by infer_instance) (by infer_instance) (.inl rfl) (by
      rintro k x hx ⟨m3, b4, b5, b6, b7, b8, b9, b10, b11⟩ hI
      dsimp only at hI
      obtain ⟨q1, q2⟩ := List.getElem?_eq_some_iff.1 hx
      have hk : k < c := by simpa using q1
      have hxk : x = k := by simpa using q2.symm
      subst hxk
      have hs : ∀ st ∈ asN s x, st.length = s ∧ ∀ j, (st.getD j []).length ≤ 7 := fun st hst => ⟨(asN_good s x st hst).1, asN_short s x (by omega) st hst⟩
      have hNk : ((asN s x).flatMap (grow s x)).length ≤ 900 := by
        have h3 := asN_mono s (by omega) (x + 1) (c - (x + 1))
        rw [show x + 1 + (c - (x + 1)) = c by omega] at h3
        exact Nat.le_trans h3 hN
      have hnd := asN_nodup s (x + 1)
      rcases hI with rfl | rfl
      · obtain ⟨z, hz⟩ := stateD c s x (asN s x) (b6, b7, b8, b9, b10, b11) hs h8 hNk hnd
        refine ⟨(.pu (.dict (keyS (asN s (x + 1)))), some (.pu (nD x)), some (.pu (.dict (keyS (asN s (x + 1))))), z), .inr rfl, ?_⟩
        refine forB_go rfl ?_
        refine (exs_nx (ex_asg_go ev_dct0 rfl (by simp) rfl)).trans ((exs_nx hz).trans ((exs_nx ?_).trans exs_nil))
        rfl
      · obtain ⟨z, hz⟩ := stateDP c s x (asN s x) (b6, b7, b8, b9, b10, b11) hs h8 hNk hnd
        refine ⟨(.pu (.dict (keyS (asN s (x + 1)))), some (.pu (nD x)), some (.pu (.dict (keyS (asN s (x + 1))))), z), .inr rfl, ?_⟩
        refine forB_go rfl ?_
        refine (exs_nx (ex_asg_go ev_dct0 rfl (by simp) rfl)).trans ((exs_nx hz).trans ((exs_nx ?_).trans exs_nil))
        rfl)
  dsimp only at hI
  rw [List.length_range] at hI
  have hkd : ev g_f_all_states (.dct [(.bin .mul (.tup [(.tup [])]) (.var 2)), (.cst (.bool true))]) [some (.pu (ydD c s)), some (.pu (.int (c : Nat))), some (.pu (.int (s : Nat))), none, none, none, none, none, none, none, none, none] = .ok (.di (keyS [List.replicate s []]), [], [some (.pu (ydD c s)), some (.pu (.int (c : Nat))), some (.pu (.int (s : Nat))), none, none, none, none, none, none, none, none, none]) := by
    have e1 : ev g_f_all_states (.bin .mul (.tup [(.tup [])]) (.var 2)) [some (.pu (ydD c s)), some (.pu (.int (c : Nat))), some (.pu (.int (s : Nat))), none, none, none, none, none, none, none, none, none] = .ok (.pu (stD (List.replicate s [])), [], [some (.pu (ydD c s)), some (.pu (.int (c : Nat))), some (.pu (.int (s : Nat))), none, none, none, none, none, none, none, none, none]) := by infer_instance
    exact ev_dct1 e1 (okKey_st _)
  have hli : ∀ l : List (List (List Nat)), bi1 .list (.di (keyS l)) = .ok (.li (l.map stD)) := fun l => by
    show R.ok (M.li ((keyS l).map (·.1))) = _
    rw [keyS, List.map_map]; rfl
  have hlp : ∀ l : List (List (List Nat)), bi1 .list (.pu (.dict (keyS l))) = .ok (.li (l.map stD)) := fun l => by
    show R.ok (M.li ((keyS l).map (·.1))) = _
    rw [keyS, List.map_map]; rfl
  have k1 := hli (asN s c)
  have k2 := hlp (asN s c)
  unfold d_f_all_states
  rcases hI with rfl | rfl
  · apply runP_go (e0 := [some (.pu (ydD c s)), none, none, none, none, none, none, none, none, none, none, none]) rfl
    unfold b_f_all_states
    infer_instance
  · apply runP_go (e0 := [some (.pu (ydD c s)), none, none, none, none, none, none, none, none, none, none, none]) rfl
    unfold b_f_all_states
    infer_instance
end LB
set_option linter.all false
set_option maxRecDepth 20000
set_option maxHeartbeats 4000000
/-! a picked yard; rows that do the same -/
namespace LB
open PySem TR
-- GO
local macro_rules | `(tactic| lt_chain) => `(tactic| (first | with_reducible assumption | (with_reducible first | apply aon_good | apply gfin_good | apply turn_good | apply ss_one | apply mv_good | apply cl_good | apply fin_good | apply ren_good) <;> lt_chain | with_reducible exact ps_ltL (by with_reducible assumption) (by with_reducible assumption) | with_reducible exact ps_ltS (by with_reducible assumption) (by with_reducible assumption) | omega | with_reducible exact sbm_lt' (by omega) (by omega) | with_reducible exact fi_le _ _ | with_reducible exact of_decide_eq_true (by with_reducible assumption) | with_reducible exact trP_pos (by with_reducible assumption) | with_reducible exact fi_leF _ _ _ | with_reducible exact all_lt (by with_reducible assumption) (by with_reducible assumption) | with_reducible exact perm_lt (by with_reducible assumption) (by with_reducible assumption) | with_reducible exact mem_lt (by with_reducible assumption) (by with_reducible assumption) (by with_reducible assumption) | with_reducible exact mem_len (by with_reducible assumption) (by with_reducible assumption) (by with_reducible assumption) | (have hmr := all_lt (by with_reducible assumption) (by with_reducible assumption); omega) | (have hmr := perm_lt (by with_reducible assumption) (by with_reducible assumption); omega) | (have hmr := mem_lt (by with_reducible assumption) (by with_reducible assumption) (by with_reducible assumption); omega) | with_reducible exact List.mem_range.1 (by with_reducible assumption) | (have hmr := List.mem_range.1 (by with_reducible assumption); omega) | (simp only [List.length_map, List.length_range, List.length_range', List.mem_range, List.length_append, List.length_drop, List.length_take, List.length_reverse, List.length_replicate, List.length_set, List.length_nil, List.length_cons]; omega)))
local macro_rules | `(tactic| k_mem) => `(tactic| with_reducible first
  | (apply is_in_int <;> lt_chain) | (apply is_list_tup <;> lt_chain) | (apply need_yard_ok <;> lt_chain) | (apply need_car_ok <;> lt_chain) | (apply need_trains_ok <;> lt_chain) | (apply need_state_ok <;> lt_chain) | (apply station_of_ok <;> lt_chain) | (apply train_of_ok <;> lt_chain) | (apply count_trains_ok <;> lt_chain) | (apply first_state_ok <;> lt_chain) | (apply is_full_ok <;> lt_chain) | (apply longest_ok <;> lt_chain) | (apply need_station_ok <;> lt_chain) | (apply move_in_ok <;> lt_chain) | (apply L_move_ok <;> lt_chain) | (apply st_in <;> lt_chain) | (apply call_in_ok <;> lt_chain) | (apply L_call_ok <;> lt_chain) | (apply call_ok <;> lt_chain) | (apply move_ok <;> lt_chain) | (apply story_in_ok <;> lt_chain) | (apply need_calls_ok <;> lt_chain) | (apply after_ok <;> lt_chain) | (apply story_ok <;> lt_chain) | (apply trains_left_ok <;> lt_chain) | (apply after_moves_ok <;> lt_chain) | (apply taken_stations_ok <;> lt_chain) | (apply without_ok <;> lt_chain) | (apply needless_ok <;> lt_chain) | (apply exchanges_ok <;> lt_chain) | (apply couplings_ok <;> lt_chain) | (apply steps_of_ok <;> lt_chain) | (apply first_coupling_ok <;> lt_chain) | (apply is_set_ok <;> lt_chain) | (apply need_closed_ok <;> lt_chain) | (apply closed_move_ok <;> lt_chain) | (apply closed_call_ok <;> lt_chain) | (apply closed_after_ok <;> lt_chain) | (apply room_in_ok <;> lt_chain) | (apply rooms_ok <;> lt_chain) | (apply car_rooms_ok <;> lt_chain) | (apply is_shut_ok <;> lt_chain) | (apply word_in_ok <;> lt_chain) | (apply L_word_ok <;> lt_chain) | (apply ring_word_ok <;> lt_chain) | (apply same_ring_ok <;> lt_chain) | (apply L_done_ok <;> lt_chain) | (apply heads_ok <;> lt_chain) | (apply cuts_ok <;> lt_chain) | (apply is_setS_ok <;> lt_chain) | (apply at_once_in_ok <;> lt_chain) | (apply at_once_inL_ok <;> lt_chain) | (apply at_once_ok <;> lt_chain) | (apply all_at_once_ok <;> lt_chain) | (apply L_at_once_ok <;> lt_chain) | (apply L_at_onceL_ok <;> lt_chain) | (apply is_list_st <;> lt_chain) | (apply need_groups_ok <;> lt_chain) | (apply after_groups_ok <;> lt_chain) | (apply alternating_ok <;> lt_chain) | (apply is_list_tr <;> lt_chain) | (apply need_yardN <;> lt_chain) | (apply arcs_in_go <;> lt_chain) | (apply trains_in_go <;> lt_chain) | (apply need_names_ok <;> lt_chain) | (apply renamed_ok <;> lt_chain) | (apply renamed_calls_ok <;> lt_chain) | (apply turned_ok <;> lt_chain) | (apply renamed_word_ok <;> lt_chain) | (apply number_of_states_ok <;> lt_chain) | (apply count_states_ok <;> lt_chain) | (apply count_turns_ok <;> lt_chain) | (apply choose_ok <;> lt_chain) | (apply count_on_word_ok <;> lt_chain) | (apply count_shapes_ok <;> lt_chain) | (apply is_turn_true <;> lt_chain) | (apply can_be_train_ok <;> lt_chain) | (apply can_be_row <;> lt_chain) | (apply last_orders_go <;> lt_chain) | (apply arcs_go <;> lt_chain) | (apply renamed_row <;> lt_chain) | (apply station_in_go <;> lt_chain) | (apply heights_in_ok <;> lt_chain) | (apply heights_ok <;> lt_chain) | (apply need_word_ok <;> lt_chain) | (apply need_heights_ok <;> lt_chain) | (apply build_ok <;> lt_chain) | (apply from_heights_ok <;> lt_chain) | (apply from_heights_st <;> lt_chain) | (apply is_stuck_ok <;> lt_chain) | (apply rises_in_ok <;> lt_chain) | (apply rises_none <;> lt_chain) | (apply ron_ok <;> lt_chain) | (apply ron_stuck <;> lt_chain) | (apply ron_none <;> lt_chain) | (apply can_come_ok <;> lt_chain) | (apply can_come_no <;> lt_chain) | (apply need_rises_ok <;> lt_chain) | (apply fewest_in_ok <;> lt_chain) | (apply fewest_calls_ok <;> lt_chain) | (apply rises_ok <;> lt_chain) | (apply can_come_at_once_ok <;> lt_chain) | (apply need_rises_g_ok <;> lt_chain) | (apply fewest_groups_ok <;> lt_chain) | (apply ris_no <;> lt_chain) | (apply gap_in_ok <;> lt_chain) | (apply all_gaps_ok <;> lt_chain) | (apply mean_calls_ok <;> lt_chain) | (apply count_by_left_ok <;> lt_chain) | (apply count_reached_ok <;> lt_chain) | (apply distance_ok <;> lt_chain) | (apply wasted_ok <;> lt_chain) | (apply still_ok <;> lt_chain) | (apply lead_no <;> lt_chain) | (apply lead_come_no <;> lt_chain) | (apply all_gapsH <;> lt_chain) | (apply gaps_ok <;> lt_chain) | (apply one_train_ok <;> lt_chain) | (apply lead_state_ok <;> lt_chain) | (apply need_head_ok <;> lt_chain) | (apply calls_to_lead_ok <;> lt_chain) | (apply calls_to_lead_at_ok <;> lt_chain) | (apply calls_to_one_ok <;> lt_chain) | (apply numbers_to_one_ok <;> lt_chain) | (apply leads_to_one_ok <;> lt_chain) | (apply lead_table_ok <;> lt_chain) | (apply groups_to_one_ok <;> lt_chain) | (apply L_states_ok <;> lt_chain) | (apply all_states_ok <;> lt_chain) | (apply need_two_ok <;> lt_chain) | (apply does_same_ok <;> lt_chain) | (apply telling_ok <;> lt_chain))
local macro_rules | `(tactic| infer_instance) => `(tactic| first
  | with_reducible assumption
  | (intro _ ; infer_instance)
  | ((with_reducible first | apply gd_lt | apply gd_le | apply gd_lti | apply gd_lei); lt_chain)
  | ((with_reducible apply gd_ev); first
    | with_reducible exact ev_cst_nil
    | (with_reducible apply ev_cst_eq) <;> first | exact lit_of _ | exact lit_nat _ | exact rfl
    | (with_reducible apply ev_glb_eq) <;> first | exact lit_of _ | exact lit_nat _ | exact rfl
    | (with_reducible apply ev_var_ok) <;> exact rfl
    | (with_reducible apply ev_ownvar) <;> exact rfl
    | (with_reducible apply ev_diown) <;> exact rfl
    | with_reducible exact ev_dct0
    | ((with_reducible apply ev_tup1n); (next => (infer_instance; done)); (next => exact rfl))
    | ((with_reducible apply ev_alike_go); (next => exact rfl); (next => with_reducible rfl); all_goals infer_instance)
    | ((with_reducible apply ev_nalike_go); (next => exact rfl); (next => with_reducible rfl); all_goals infer_instance)
    | (with_reducible apply ev_sub_ok) <;> infer_instance
    | (with_reducible apply ev_bin_ok') <;> infer_instance
    | (with_reducible apply ev_cmp_ok) <;> infer_instance
    | (with_reducible apply ev_call_ok) <;> infer_instance
    | (with_reducible apply ev_not_ok) <;> infer_instance
    | (with_reducible apply ev_lenset) <;> infer_instance
    | (with_reducible apply ev_max2) <;> infer_instance
    | (with_reducible apply ev_bi1_ok) <;> infer_instance
    | (with_reducible apply ev_mt1_ok) <;> infer_instance
    | (with_reducible apply ev_rng1_go) <;> infer_instance
    | (with_reducible apply ev_rng2_go) <;> infer_instance
    | (with_reducible apply ev_rgl_t) <;> infer_instance
    | (with_reducible apply ev_rgl_f) <;> infer_instance
    | (with_reducible apply ev_enm_go) <;> infer_instance
    | (with_reducible apply ev_zip_same) <;> infer_instance
    | (with_reducible apply ev_zip_go) <;> infer_instance
    | (with_reducible apply ev_rvd_go) <;> infer_instance
    | (with_reducible apply ev_iscB) <;> infer_instance
    | (with_reducible apply ev_isc_g) <;> infer_instance
    | (with_reducible apply ev_slc_lo_go) <;> infer_instance
    | (with_reducible apply ev_slc_hi_go) <;> infer_instance
    | (with_reducible apply ev_neg_ok) <;> infer_instance
    | (with_reducible apply ev_and_go) <;> infer_instance
    | (with_reducible apply ev_or_go) <;> infer_instance
    | (with_reducible apply ev_ite_g) <;> infer_instance
    | (with_reducible apply ev_lst_star2) <;> infer_instance
    | (with_reducible apply ev_lst_go) <;> infer_instance
    | (with_reducible apply ev_tup_starV) <;> infer_instance
    | (with_reducible apply ev_tup_star2) <;> infer_instance
    | (with_reducible apply ev_tup_go) <;> infer_instance
    | (with_reducible apply ev_lc_go0) <;> infer_instance
    | (with_reducible apply ev_lc_go) <;> infer_instance
    | (with_reducible apply ev_callW_go) <;> infer_instance
    | with_reducible apply hold_ev
    | skip)
  | ((with_reducible apply gd_evTs); first
    | with_reducible exact evTs_nil
    | with_reducible exact evCs_go0
    | (with_reducible apply evTs_c1) <;> infer_instance
    | (with_reducible apply evCs1) <;> infer_instance
    | with_reducible apply hold_evTs
    | with_reducible apply hold_evCs
    | skip)
  | ((with_reducible apply gd_evCs); first
    | with_reducible exact evTs_nil
    | with_reducible exact evCs_go0
    | (with_reducible apply evTs_c1) <;> infer_instance
    | (with_reducible apply evCs1) <;> infer_instance
    | with_reducible apply hold_evTs
    | with_reducible apply hold_evCs
    | skip)
  | ((with_reducible apply gd_exs); first
    | (with_reducible apply exs_nil_eq) <;> exact rfl
    | with_reducible apply exs_nil_eq
    | (with_reducible apply exs_ret_go) <;> infer_instance
    | (with_reducible apply exs_go) <;> infer_instance
    | (with_reducible apply ex_ret_go) <;> infer_instance
    | (with_reducible apply ex_do_go) <;> infer_instance
    | (with_reducible apply ex_asg_go) <;> infer_instance
    | (with_reducible apply ex_asgT_go) <;> infer_instance
    | (with_reducible apply ex_app_go) <;> infer_instance
    | (with_reducible apply ex_setI_go) <;> infer_instance
    | (with_reducible apply ex_par2_go) <;> infer_instance
    | (with_reducible apply ex_par3_go) <;> infer_instance
    | (with_reducible apply ex_if_go) <;> infer_instance
    | (with_reducible apply forB_go) <;> infer_instance
    | with_reducible apply hold_ex
    | with_reducible apply hold_exs
    | skip)
  | ((with_reducible apply gd_ex); first
    | (with_reducible apply exs_nil_eq) <;> exact rfl
    | with_reducible apply exs_nil_eq
    | (with_reducible apply exs_ret_go) <;> infer_instance
    | (with_reducible apply exs_go) <;> infer_instance
    | (with_reducible apply ex_ret_go) <;> infer_instance
    | (with_reducible apply ex_do_go) <;> infer_instance
    | (with_reducible apply ex_asg_go) <;> infer_instance
    | (with_reducible apply ex_asgT_go) <;> infer_instance
    | (with_reducible apply ex_app_go) <;> infer_instance
    | (with_reducible apply ex_setI_go) <;> infer_instance
    | (with_reducible apply ex_par2_go) <;> infer_instance
    | (with_reducible apply ex_par3_go) <;> infer_instance
    | (with_reducible apply ex_if_go) <;> infer_instance
    | (with_reducible apply forB_go) <;> infer_instance
    | with_reducible apply hold_ex
    | with_reducible apply hold_exs
    | skip)
  | ((with_reducible apply gd_forB); first
    | (with_reducible apply exs_nil_eq) <;> exact rfl
    | with_reducible apply exs_nil_eq
    | (with_reducible apply exs_ret_go) <;> infer_instance
    | (with_reducible apply exs_go) <;> infer_instance
    | (with_reducible apply ex_ret_go) <;> infer_instance
    | (with_reducible apply ex_do_go) <;> infer_instance
    | (with_reducible apply ex_asg_go) <;> infer_instance
    | (with_reducible apply ex_asgT_go) <;> infer_instance
    | (with_reducible apply ex_app_go) <;> infer_instance
    | (with_reducible apply ex_setI_go) <;> infer_instance
    | (with_reducible apply ex_par2_go) <;> infer_instance
    | (with_reducible apply ex_par3_go) <;> infer_instance
    | (with_reducible apply ex_if_go) <;> infer_instance
    | (with_reducible apply forB_go) <;> infer_instance
    | with_reducible apply hold_ex
    | with_reducible apply hold_exs
    | skip)
  | ((with_reducible apply gd_bin); first
    | (with_reducible first
      | apply gb_addN
      | (apply gb_subN <;> lt_chain)
      | (apply gb_modN <;> lt_chain)
      | (apply gb_modS <;> lt_chain)
      | (apply gb_addS <;> lt_chain)
      | (apply gb_addT <;> lt_chain)
      | (apply gb_addL <;> lt_chain)
      | (apply gb_mulN <;> lt_chain)
      | (apply gb_fdivN <;> lt_chain)
      | (apply gb_repT <;> lt_chain)
      | (apply gb_rep1 <;> lt_chain)
      | (apply gx_modI <;> lt_chain)
      | (apply gx_modII <;> lt_chain)
      | (apply gb_mulN2 <;> lt_chain)
      | (apply gx_fdivI <;> lt_chain)
      | (apply gb_mulI <;> lt_chain)
      | apply bd_add
      | apply bd_sub
      | fail)
    | k_mem
    | with_reducible exact rfl
    | skip)
  | ((with_reducible apply gd_cmp); first
    | (with_reducible first
      | apply gc_eqN
      | apply gc_neN
      | apply gc_ltN
      | apply gc_gtN
      | apply gc_leN
      | apply gc_geN
      | apply in_cs
      | apply nin_cs
      | apply gc_in_it
      | apply gc_nin_it
      | apply gc_in_lst
      | apply gc_nin_lst
      | apply cmp_st
      | apply cmp_st_ne
      | apply cmp_tr
      | apply cmp_tr_ne
      | apply gc_neL
      | apply gc_eqL
      | apply gc_neL0
      | apply gc_eqL0
      | apply gc_neS
      | apply gc_in_itF
      | apply gc_neS0
      | apply gc_neB
      | apply gc_ltI
      | apply gc_leI
      | apply gc_gtI
      | apply gc_geI
      | apply gc_eqI
      | apply gc_neI
      | fail)
    | k_mem
    | with_reducible exact rfl
    | skip)
  | ((with_reducible apply gd_sub); first
    | (with_reducible first
      | apply gs_y0
      | apply gs_y1
      | (apply gx_rngP <;> lt_chain)
      | (apply gx_rngL <;> lt_chain)
      | (apply gx_rng <;> lt_chain)
      | (apply sub_stD <;> lt_chain)
      | (apply sub_trD <;> lt_chain)
      | (apply gs_li <;> lt_chain)
      | (apply gs_tu <;> lt_chain)
      | (apply gs_st_neg <;> lt_chain)
      | (apply gs_neg <;> lt_chain)
      | (apply nm_sub <;> lt_chain)
      | fail)
    | k_mem
    | with_reducible exact rfl
    | skip)
  | ((with_reducible apply gd_bi1); first
    | (with_reducible first
      | apply gx_sum
      | apply gl_len_st
      | apply gl_len_tr
      | apply gl_len_li
      | apply gl_len_tu
      | apply gl_tup_st
      | apply gl_tup_tr
      | apply gl_tup_it
      | apply gl_list_st
      | apply gl_list_tr
      | apply gl_list_it
      | apply gl_list_li
      | apply gx_all
      | apply gx_any
      | apply gx_allB
      | apply gl_ist
      | apply gl_intB
      | (apply gx_maxN <;> lt_chain)
      | (apply gx_maxR <;> lt_chain)
      | (apply sort_tr <;> lt_chain)
      | (apply sort_trsF <;> lt_chain)
      | (apply sort_itF <;> lt_chain)
      | apply gl_int
      | apply gl_tupA
      | apply gl_tupB
      | apply gl_tupC
      | apply gl_lisA
      | apply gl_lisB
      | apply gl_lisC
      | fail)
    | k_mem
    | with_reducible exact rfl
    | skip)
  | ((with_reducible apply gd_mt); first
    | (with_reducible first
      | (apply gx_tidx <;> lt_chain)
      | (apply gx_idx <;> lt_chain)
      | (apply gx_idxF <;> lt_chain)
      | fail)
    | k_mem
    | with_reducible exact rfl
    | skip)
  | ((with_reducible apply gd_slc); first
    | (with_reducible first
      | (apply gk_hi_st <;> lt_chain)
      | (apply gk_lo_st <;> lt_chain)
      | (apply gk_hi_tr <;> lt_chain)
      | (apply gk_lo_tr <;> lt_chain)
      | (apply gk_hi_li <;> lt_chain)
      | (apply gk_lo_li <;> lt_chain)
      | fail)
    | k_mem
    | with_reducible exact rfl
    | skip)
  | (with_reducible exact rw_own (by assumption))
  | (with_reducible first | apply isNon_ls | apply isNon_li | apply isNon_no | apply isNon_int | apply cond_tr | apply cond_st | apply cond_n | apply tup_int | apply tup_bool | apply gx_turn | (apply tup_st8 <;> lt_chain) | (apply tup_tr8 <;> lt_chain) | (apply tup_lst8 <;> lt_chain) | (apply tup_tus8 <;> lt_chain) | (apply tup_pairs8 <;> lt_chain) | (apply is_list_tr <;> lt_chain))
  | (with_reducible first | apply retR_pu | apply retR_li0 | apply retR_li1) <;> infer_instance
  | (with_reducible first | exact takeR_pu | exact takeR_li0 | exact takeR_nl0 | exact takeR_di0 | exact keepR_pu | exact keepR_li0 | exact keepR_nl0 | exact keepR_di0)
  | (with_reducible first | apply takeR_li1 | apply keepR_li1) <;> infer_instance
  | with_reducible exact wipe_0
  | (with_reducible apply wipe_S) <;> infer_instance
  | with_reducible exact set_0
  | (with_reducible apply set_S) <;> infer_instance
  | (with_reducible apply set_2) <;> infer_instance
  | (with_reducible apply bindP_v) <;> infer_instance
  | (with_reducible apply bindP_yd) <;> infer_instance
  | (with_reducible apply bindP_t2) <;> infer_instance
  | (with_reducible apply bindP_t3) <;> infer_instance
  | k_mem
  | (with_reducible first | apply hold_fn | apply hold_fw)
  | with_reducible exact apart_nil
  | (with_reducible apply apart_of) <;> simp [apart, muE, muEs, muT, muTs, muO, muS, muSs, P.slots, P.slotsL]
  | (with_reducible first | apply gu_get | apply gu_itR | apply gu_seq | apply gu_nlAt | apply gu_den | apply gu_take | apply gu_keep | apply gu_ret | apply gu_bind | apply gu_eget | apply gu_nl | apply gu_st1 | apply gu_own | apply gu_wipe | apply gu_set) <;> exact rfl
  | with_reducible exact rfl
  | ((with_reducible apply gu_b); simp only [Bool.not_true, Bool.not_false, Bool.and_true, Bool.true_and, Bool.or_false, Bool.false_or, Bool.or_self, Bool.and_self, Bool.not_not, Bool.or_true, Bool.true_or, Bool.and_false, Bool.false_and]; done)
  | lt_chain
  | skip)
-- OG
local macro_rules | `(tactic| k_mem) => `(tactic| with_reducible (apply all_states_ok <;> lt_chain))
local macro_rules | `(tactic| k_mem) => `(tactic| with_reducible (apply L_states_ok <;> lt_chain))
theorem pick_any (w : M) (hw : RW w) (ys : List (Nat × Nat)) (hn : ys ≠ []) (hl : ys.length ≤ 1000) : ∃ (y : Nat × Nat) (w' : M), y ∈ ys ∧ RW w' ∧ d_L_pick w [.list (ys.map fun p => ydD p.1 p.2)] = .ok (.pu (ydD y.1 y.2), w') := by
  have hp : 0 < ys.length := List.length_pos_iff.2 hn
  obtain ⟨v, w', hw', q, hv⟩ := taken_any w hw ys.length (by omega) (by omega)
  have hg := gs_li (fun p : Nat × Nat => ydD p.1 p.2) ys (0, 0) v hv
  refine ⟨ys.getD v (0, 0), w', ?_, hw', ?_⟩
  · rw [List.getD_eq_getElem?_getD, List.getElem?_eq_getElem hv]
    exact List.getElem_mem _
  have hlen : bi1 .len (.pu (.list (ys.map fun p => ydD p.1 p.2))) = .ok (.pu (.int (ys.length : Nat))) := by
    show R.ok (M.pu (.int (((ys.map fun p => ydD p.1 p.2).length : Nat) : Int))) = _
    rw [List.length_map]
  have hg2 : subD (.pu (.list (ys.map fun p => ydD p.1 p.2))) (.pu (.int (v : Nat))) = .ok (.pu (ydD (ys.getD v (0, 0)).1 (ys.getD v (0, 0)).2)) := hg
  have e : exs g_L_pick b_L_pick [some w, some (.pu (.list (ys.map fun p => ydD p.1 p.2)))] = .ok (.ret (.pu (ydD (ys.getD v (0, 0)).1 (ys.getD v (0, 0)).2)) [some w', some (.pu (.list (ys.map fun p => ydD p.1 p.2)))]) := by
    unfold b_L_pick
    generalize (ys.getD v (0, 0)) = yy at hg2 ⊢
    generalize (ys.map fun p => ydD p.1 p.2) = YL at hlen hg2 ⊢
    infer_instance
  have h := rw_own hw'
  unfold d_L_pick
  exact runW_ret (e := [some w', some (.pu (.list (ys.map fun p : Nat × Nat => ydD p.1 p.2)))]) e rfl
theorem need_two_ok (c s : Nat) (hy : GoodY c s) (one other : List Nat) (h1 : ∀ k ∈ one, k < c) (h2 : ∀ k ∈ other, k < c) (l1 : one.length ≤ 40) (l2 : other.length ≤ 40) (hM : (List.range c).foldl (fun a i => a * (s + i)) 1 ≤ 20000) : d_f_need_two [ydD c s, trD one, trD other] = .ok (.pu .none) := by
  have h7 := hy.c7
  have h8 := hy.s8
  have hb : ∀ n : Nat, n ≤ 20000 → cmpD .gt (.pu (.int (n : Nat))) (.pu (.int 20000)) = .ok false := fun n hn => by
    have := gc_gtI (n : Int) 20000
    rw [decide_eq_false (by omega)] at this
    exact this
  have hb2 := hb _ hM
  unfold d_f_need_two
  apply runP_nx_go (e0 := [some (.pu (ydD c s)), some (.pu (trD one)), some (.pu (trD other))]) rfl
  unfold b_f_need_two
  infer_instance
  rw [decide_eq_false_iff_not]; omega
local macro_rules | `(tactic| k_mem) => `(tactic| with_reducible (apply need_two_ok <;> lt_chain))
theorem asN_Good (c s : Nat) (st : List (List Nat)) (h : st ∈ srtS (asN s c)) : Good c s st := by
  have h1 := asN_good s c st ((srtS_pm _).mem_iff.1 h)
  exact ⟨h1.1, h1.2⟩
theorem does_same_ok (c s : Nat) (hy : GoodY c s) (one other : List Nat) (h1 : ∀ k ∈ one, k < c) (h2 : ∀ k ∈ other, k < c) (l1 : one.length ≤ 40) (l2 : other.length ≤ 40) (hM : (List.range c).foldl (fun a i => a * (s + i)) 1 ≤ 20000) (hN : (asN s c).length ≤ 900) : d_f_does_same [ydD c s, trD one, trD other] = .ok (.pu (.bool ((srtS (asN s c)).all fun st => decide (fin st one = fin st other)))) := by
  have h7 := hy.c7
  have h8 := hy.s8
  have hl := srtS_len (asN s c)
  have e : ev g_f_does_same (.lc false [3] (.cmp .eq (.sub (.call 2 [(.var 3), (.var 1)]) (.neg (.cst (.int 1)))) (.sub (.call 2 [(.var 3), (.var 2)]) (.neg (.cst (.int 1))))) (.v 3) (.call 1 [(.var 0)]) []) [some (.pu (ydD c s)), some (.pu (trD one)), some (.pu (trD other)), none] = .ok (.li ((srtS (asN s c)).map fun st => PyData.bool (decide (fin st one = fin st other))), [], [some (.pu (ydD c s)), some (.pu (trD one)), some (.pu (trD other)), none]) := by
    apply ev_lc_go0 (emb := stD)
    · infer_instance
    · infer_instance
    · infer_instance
    · infer_instance
    · infer_instance
    · infer_instance
    · infer_instance
    · infer_instance
    · infer_instance
    · intro st hst
      have hg := asN_Good c s st hst
      have m1 : subD (.li ((stry st one).map stD)) (.pu (.int (-((1 : Nat) : Int)))) = .ok (.pu (stD (fin st one))) := last_ok st one
      have m2 : subD (.li ((stry st other).map stD)) (.pu (.int (-((1 : Nat) : Int)))) = .ok (.pu (stD (fin st other))) := last_ok st other
      infer_instance
    · infer_instance
  have ha := gx_allB (fun st => decide (fin st one = fin st other)) (srtS (asN s c))
  unfold d_f_does_same
  apply runP_go (e0 := [some (.pu (ydD c s)), some (.pu (trD one)), some (.pu (trD other)), none]) rfl
  unfold b_f_does_same
  infer_instance
theorem telling_ok (c s : Nat) (hy : GoodY c s) (one other : List Nat) (h1 : ∀ k ∈ one, k < c) (h2 : ∀ k ∈ other, k < c) (l1 : one.length ≤ 40) (l2 : other.length ≤ 40) (hM : (List.range c).foldl (fun a i => a * (s + i)) 1 ≤ 20000) (hN : (asN s c).length ≤ 900) : d_f_telling [ydD c s, trD one, trD other] = .ok (.pu (match (srtS (asN s c)).find? fun st => !decide (fin st one = fin st other) with | none => PyData.none | some st => stD st)) := by
  have h7 := hy.c7
  have h8 := hy.s8
  have hl := srtS_len (asN s c)
  obtain ⟨f1, f2⟩ := ex_for_first (G := g_f_telling) (p := .v 3) (it := .call 1 [(.var 0)]) (c := .cmp .ne (.sub (.call 2 [(.var 3), (.var 1)]) (.neg (.cst (.int 1)))) (.sub (.call 2 [(.var 3), (.var 2)]) (.neg (.cst (.int 1))))) (e := .var 3) (xs := srtS (asN s c)) (emb := stD) (q := fun st => !decide (fin st one = fin st other))
    (fun (z : Option M) => [some (.pu (ydD c s)), some (.pu (trD one)), some (.pu (trD other)), z]) (fun q => some (.pu (stD q))) none (f := fun q => .pu (stD q)) (re := fun _ => []) (f2 := fun q => .pu (stD q)) (E2 := fun q => [some (.pu (ydD c s)), some (.pu (trD one)), some (.pu (trD other)), some (.pu (stD q))])
    (by infer_instance) rfl rfl (fun x hx g => rfl) (by
      intro st hst
      have hg := asN_Good c s st hst
      have m1 : subD (.li ((stry st one).map stD)) (.pu (.int (-((1 : Nat) : Int)))) = .ok (.pu (stD (fin st one))) := last_ok st one
      have m2 : subD (.li ((stry st other).map stD)) (.pu (.int (-((1 : Nat) : Int)))) = .ok (.pu (stD (fin st other))) := last_ok st other
      infer_instance) (fun _ _ _ => by infer_instance) (fun _ _ _ => rfl)
  have key : ∃ E, exs g_f_telling b_f_telling [some (.pu (ydD c s)), some (.pu (trD one)), some (.pu (trD other)), none] = .ok (.ret (.pu (match (srtS (asN s c)).find? fun st => !decide (fin st one = fin st other) with | none => PyData.none | some st => stD st)) E) := by
    unfold b_f_telling
    cases hf : (srtS (asN s c)).find? (fun st => !decide (fin st one = fin st other)) with
    | none =>
      obtain ⟨z, hz⟩ := f2 hf
      apply Exists.intro
      apply exs_go
      · infer_instance
      apply exs_go
      · exact hz
      infer_instance
    | some q =>
      have hqq := List.find?_some (p := fun st => !decide (fin st one = fin st other)) hf
      apply Exists.intro
      apply exs_go
      · infer_instance
      exact exs_hit (f1 q (List.mem_of_find?_eq_some hf) hqq hf)
  obtain ⟨E, hE⟩ := key
  exact runP_go (e0 := [some (.pu (ydD c s)), some (.pu (trD one)), some (.pu (trD other)), none]) rfl hE
end LB
set_option linter.all false
set_option maxRecDepth 20000
set_option maxHeartbeats 1000000
/-! choices, ends of rows -/
namespace LB
open PySem TR
end LB
set_option linter.all false
set_option maxRecDepth 20000
set_option maxHeartbeats 1000000
/-! all states are met; one train goes round -/
namespace LB
open PySem TR
theorem asN_all (s : Nat) : ∀ (k : Nat) (st : List (List Nat)), st.length = s → st.flatten.Perm (List.range k) → st ∈ asN s k := by
  intro k
  induction k with
  | zero =>
    intro st hs hp
    rw [asN, List.mem_singleton]
    have h1 : st.flatten = [] := by simpa using hp
    rw [List.flatten_eq_nil_iff] at h1
    exact List.eq_replicate_iff.2 ⟨hs, h1⟩
  | succ k ih =>
    intro st hs hp
    have hk : k ∈ st.flatten := hp.mem_iff.2 (by simp)
    obtain ⟨t, ht, hkt⟩ := List.mem_flatten.1 hk
    obtain ⟨j, hj, rfl⟩ := List.mem_iff_getElem.1 ht
    obtain ⟨A, B, e⟩ := List.append_of_mem hkt
    have hj2 : (st.set j (A ++ B)).length = s := by simp [hs]
    have hg : (st.set j (A ++ B)).getD j [] = A ++ B := by
      rw [List.getD_eq_getElem?_getD, List.getElem?_set, if_pos rfl, if_pos hj]; rfl
    have hi : insC (st.set j (A ++ B)) k j A.length = st := by
      rw [insC, hg, List.set_set, List.take_left, List.drop_left, ← e]
      apply List.ext_getElem
      · simp
      · intro i h1 h2
        rw [List.getElem_set]
        split
        · rename_i z; subst z; rfl
        · rfl
    have hp2 := insC_perm (st.set j (A ++ B)) k j A.length (by simpa using hj)
    rw [hi] at hp2
    have hp3 : (k :: (st.set j (A ++ B)).flatten).Perm (k :: List.range k) := by
      refine hp2.symm.trans (hp.trans ?_)
      rw [List.range_succ]
      exact List.perm_append_singleton k _
    have hm := ih _ hj2 (List.Perm.cons_inv hp3)
    rw [asN, List.mem_flatMap]
    refine ⟨_, hm, ?_⟩
    rw [grow, List.mem_flatMap]
    refine ⟨j, by rw [List.mem_range]; omega, ?_⟩
    rw [List.mem_map]
    exact ⟨A.length, by rw [List.mem_range, hg, List.length_append]; omega, hi⟩
theorem mem_allS (c s : Nat) (st : List (List Nat)) (h : Good c s st) : st ∈ srtS (asN s c) := (srtS_pm _).mem_iff.2 (asN_all s c st h.hs h.hc)
theorem one_cl (c s t : Nat) (hy : GoodY c s) (W : List Nat) (hW : W.Perm (List.range c)) (ht : t < s) (k : Nat) (hk : k < c) : cl (oneT s t W) k = oneT s ((t + 1) % s) W := by
  have h2 := hy.s2
  have hp : (oneT s t W).findIdx (hasT k) = t := oneT_ps c s t W ht hW k hk
  have hl := oneT_len s t W
  have hn : (t + 1) % s < s := Nat.mod_lt _ (by omega)
  have hne : (t + 1) % s ≠ t := by
    rcases Nat.lt_or_ge (t + 1) s with z | z
    · rw [Nat.mod_eq_of_lt z]; omega
    · rw [show t + 1 = s by omega, Nat.mod_self]; omega
  rw [cl, hp, mv, nxt, hl]
  rw [oneT_get s t W ht t ht, if_pos rfl, oneT_get s t W ht _ hn, if_neg hne, List.nil_append]
  apply List.ext_getElem
  · simp [oneT]
  · intro i h3 h4
    simp only [oneT, List.getElem_set, List.getElem_replicate]
    by_cases a : t = i
    · subst a
      rw [if_pos rfl, if_neg hne]
    · rw [if_neg a, if_neg a]
theorem one_fin (c s : Nat) (hy : GoodY c s) (W : List Nat) (hW : W.Perm (List.range c)) : ∀ (ks : List Nat) (t : Nat), t < s → (∀ k ∈ ks, k < c) → fin (oneT s t W) ks = oneT s ((t + ks.length) % s) W := by
  have h2 := hy.s2
  intro ks
  induction ks with
  | nil => intro t ht _; rw [List.length_nil, Nat.add_zero, Nat.mod_eq_of_lt ht]; rfl
  | cons k ks ih =>
    intro t ht hk
    show fin (cl (oneT s t W) k) ks = _
    rw [one_cl c s t hy W hW ht k (hk k (List.mem_cons_self ..)), ih _ (Nat.mod_lt _ (by omega)) fun x hx => hk x (List.mem_cons_of_mem _ hx)]
    rw [List.length_cons, Nat.mod_add_mod]
    congr 2; omega
theorem one_inj (c s a b : Nat) (hy : GoodY c s) (W : List Nat) (hW : W.Perm (List.range c)) (ha : a < s) (hb : b < s) (e : oneT s a W = oneT s b W) : a = b := by
  have h1 := oneT_get s a W ha a ha
  rw [e, oneT_get s b W hb a ha, if_pos rfl] at h1
  apply Classical.byContradiction
  intro z
  rw [if_neg z] at h1
  have : W.length = c := by rw [hW.length_eq, List.length_range]
  rw [← h1] at this
  have := hy.c1
  simp at *
  omega
theorem first_fin (c s : Nat) (hy : GoodY c s) (one other : List Nat) (h1 : ∀ k ∈ one, k < c) (h2 : ∀ k ∈ other, k < c) : fin (oneT s 0 (List.range c)) one = fin (oneT s 0 (List.range c)) other ↔ one.length % s = other.length % s := by
  have hs := hy.s2
  rw [one_fin c s hy _ (List.Perm.refl _) one 0 (by omega) h1, one_fin c s hy _ (List.Perm.refl _) other 0 (by omega) h2, Nat.zero_add, Nat.zero_add]
  constructor
  · exact one_inj c s _ _ hy _ (List.Perm.refl _) (Nat.mod_lt _ (by omega)) (Nat.mod_lt _ (by omega))
  · intro e; rw [e]
theorem first_one (c s : Nat) (hy : GoodY c s) : d_f_first_state [ydD c s] = .ok (.pu (stD (oneT s 0 (List.range c)))) := by
  have hs := hy.s2
  rw [first_state_ok c s hy]
  congr 2
  have e : oneT s 0 (List.range c) = List.range c :: List.replicate (s - 1) [] := by
    rw [oneT]
    obtain ⟨n, rfl⟩ : ∃ n, s = n + 1 := ⟨s - 1, by omega⟩
    rfl
  rw [e, stD, List.map_cons, List.map_replicate]
  congr 2
  simp [rngD, trD]
theorem sbm_zero2 (a b s : Nat) (hs : 2 ≤ s) : sbm a b s = 0 ↔ a % s = b % s := by
  rw [sbm]
  have ha := Nat.mod_lt a (show 0 < s by omega)
  have hb := Nat.mod_lt b (show 0 < s by omega)
  rw [Nat.add_mod]
  generalize a % s = x at *
  generalize b % s = y at *
  rcases Nat.eq_zero_or_pos y with z | z
  · subst z
    rw [Nat.sub_zero, Nat.mod_self, Nat.add_zero, Nat.mod_eq_of_lt ha]
  · rw [Nat.mod_eq_of_lt (show s - y < s by omega)]
    rcases Nat.lt_or_ge (x + (s - y)) s with q | q
    · rw [Nat.mod_eq_of_lt q]; omega
    · rw [Nat.mod_eq_sub_mod q, Nat.mod_eq_of_lt (by omega)]; omega
end LB
set_option linter.all false
set_option maxRecDepth 20000
set_option maxHeartbeats 4000000
namespace K91
open PySem TR LB
-- GO
local macro_rules | `(tactic| lt_chain) => `(tactic| (first | with_reducible assumption | (with_reducible first | apply aon_good | apply gfin_good | apply turn_good | apply ss_one | apply mv_good | apply cl_good | apply fin_good | apply ren_good) <;> lt_chain | with_reducible exact ps_ltL (by with_reducible assumption) (by with_reducible assumption) | with_reducible exact ps_ltS (by with_reducible assumption) (by with_reducible assumption) | omega | with_reducible exact sbm_lt' (by omega) (by omega) | with_reducible exact fi_le _ _ | with_reducible exact of_decide_eq_true (by with_reducible assumption) | with_reducible exact trP_pos (by with_reducible assumption) | with_reducible exact fi_leF _ _ _ | with_reducible exact all_lt (by with_reducible assumption) (by with_reducible assumption) | with_reducible exact perm_lt (by with_reducible assumption) (by with_reducible assumption) | with_reducible exact mem_lt (by with_reducible assumption) (by with_reducible assumption) (by with_reducible assumption) | with_reducible exact mem_len (by with_reducible assumption) (by with_reducible assumption) (by with_reducible assumption) | (have hmr := all_lt (by with_reducible assumption) (by with_reducible assumption); omega) | (have hmr := perm_lt (by with_reducible assumption) (by with_reducible assumption); omega) | (have hmr := mem_lt (by with_reducible assumption) (by with_reducible assumption) (by with_reducible assumption); omega) | with_reducible exact List.mem_range.1 (by with_reducible assumption) | (have hmr := List.mem_range.1 (by with_reducible assumption); omega) | (simp only [List.length_map, List.length_range, List.length_range', List.mem_range, List.length_append, List.length_drop, List.length_take, List.length_reverse, List.length_replicate, List.length_set, List.length_nil, List.length_cons]; omega)))
local macro_rules | `(tactic| k_mem) => `(tactic| with_reducible first
  | (apply is_in_int <;> lt_chain) | (apply is_list_tup <;> lt_chain) | (apply need_yard_ok <;> lt_chain) | (apply need_car_ok <;> lt_chain) | (apply need_trains_ok <;> lt_chain) | (apply need_state_ok <;> lt_chain) | (apply station_of_ok <;> lt_chain) | (apply train_of_ok <;> lt_chain) | (apply count_trains_ok <;> lt_chain) | (apply first_state_ok <;> lt_chain) | (apply is_full_ok <;> lt_chain) | (apply longest_ok <;> lt_chain) | (apply need_station_ok <;> lt_chain) | (apply move_in_ok <;> lt_chain) | (apply L_move_ok <;> lt_chain) | (apply st_in <;> lt_chain) | (apply call_in_ok <;> lt_chain) | (apply L_call_ok <;> lt_chain) | (apply call_ok <;> lt_chain) | (apply move_ok <;> lt_chain) | (apply story_in_ok <;> lt_chain) | (apply need_calls_ok <;> lt_chain) | (apply after_ok <;> lt_chain) | (apply story_ok <;> lt_chain) | (apply trains_left_ok <;> lt_chain) | (apply after_moves_ok <;> lt_chain) | (apply taken_stations_ok <;> lt_chain) | (apply without_ok <;> lt_chain) | (apply needless_ok <;> lt_chain) | (apply exchanges_ok <;> lt_chain) | (apply couplings_ok <;> lt_chain) | (apply steps_of_ok <;> lt_chain) | (apply first_coupling_ok <;> lt_chain) | (apply is_set_ok <;> lt_chain) | (apply need_closed_ok <;> lt_chain) | (apply closed_move_ok <;> lt_chain) | (apply closed_call_ok <;> lt_chain) | (apply closed_after_ok <;> lt_chain) | (apply room_in_ok <;> lt_chain) | (apply rooms_ok <;> lt_chain) | (apply car_rooms_ok <;> lt_chain) | (apply is_shut_ok <;> lt_chain) | (apply word_in_ok <;> lt_chain) | (apply L_word_ok <;> lt_chain) | (apply ring_word_ok <;> lt_chain) | (apply same_ring_ok <;> lt_chain) | (apply L_done_ok <;> lt_chain) | (apply heads_ok <;> lt_chain) | (apply cuts_ok <;> lt_chain) | (apply is_setS_ok <;> lt_chain) | (apply at_once_in_ok <;> lt_chain) | (apply at_once_inL_ok <;> lt_chain) | (apply at_once_ok <;> lt_chain) | (apply all_at_once_ok <;> lt_chain) | (apply L_at_once_ok <;> lt_chain) | (apply L_at_onceL_ok <;> lt_chain) | (apply is_list_st <;> lt_chain) | (apply need_groups_ok <;> lt_chain) | (apply after_groups_ok <;> lt_chain) | (apply alternating_ok <;> lt_chain) | (apply is_list_tr <;> lt_chain) | (apply need_yardN <;> lt_chain) | (apply arcs_in_go <;> lt_chain) | (apply trains_in_go <;> lt_chain) | (apply need_names_ok <;> lt_chain) | (apply renamed_ok <;> lt_chain) | (apply renamed_calls_ok <;> lt_chain) | (apply turned_ok <;> lt_chain) | (apply renamed_word_ok <;> lt_chain) | (apply number_of_states_ok <;> lt_chain) | (apply count_states_ok <;> lt_chain) | (apply count_turns_ok <;> lt_chain) | (apply choose_ok <;> lt_chain) | (apply count_on_word_ok <;> lt_chain) | (apply count_shapes_ok <;> lt_chain) | (apply is_turn_true <;> lt_chain) | (apply can_be_train_ok <;> lt_chain) | (apply can_be_row <;> lt_chain) | (apply last_orders_go <;> lt_chain) | (apply arcs_go <;> lt_chain) | (apply renamed_row <;> lt_chain) | (apply station_in_go <;> lt_chain) | (apply heights_in_ok <;> lt_chain) | (apply heights_ok <;> lt_chain) | (apply need_word_ok <;> lt_chain) | (apply need_heights_ok <;> lt_chain) | (apply build_ok <;> lt_chain) | (apply from_heights_ok <;> lt_chain) | (apply from_heights_st <;> lt_chain) | (apply is_stuck_ok <;> lt_chain) | (apply rises_in_ok <;> lt_chain) | (apply rises_none <;> lt_chain) | (apply ron_ok <;> lt_chain) | (apply ron_stuck <;> lt_chain) | (apply ron_none <;> lt_chain) | (apply can_come_ok <;> lt_chain) | (apply can_come_no <;> lt_chain) | (apply need_rises_ok <;> lt_chain) | (apply fewest_in_ok <;> lt_chain) | (apply fewest_calls_ok <;> lt_chain) | (apply rises_ok <;> lt_chain) | (apply can_come_at_once_ok <;> lt_chain) | (apply need_rises_g_ok <;> lt_chain) | (apply fewest_groups_ok <;> lt_chain) | (apply ris_no <;> lt_chain) | (apply gap_in_ok <;> lt_chain) | (apply all_gaps_ok <;> lt_chain) | (apply mean_calls_ok <;> lt_chain) | (apply count_by_left_ok <;> lt_chain) | (apply count_reached_ok <;> lt_chain) | (apply distance_ok <;> lt_chain) | (apply wasted_ok <;> lt_chain) | (apply still_ok <;> lt_chain) | (apply lead_no <;> lt_chain) | (apply lead_come_no <;> lt_chain) | (apply all_gapsH <;> lt_chain) | (apply gaps_ok <;> lt_chain) | (apply one_train_ok <;> lt_chain) | (apply lead_state_ok <;> lt_chain) | (apply need_head_ok <;> lt_chain) | (apply calls_to_lead_ok <;> lt_chain) | (apply calls_to_lead_at_ok <;> lt_chain) | (apply calls_to_one_ok <;> lt_chain) | (apply numbers_to_one_ok <;> lt_chain) | (apply leads_to_one_ok <;> lt_chain) | (apply lead_table_ok <;> lt_chain) | (apply groups_to_one_ok <;> lt_chain) | (apply L_states_ok <;> lt_chain) | (apply all_states_ok <;> lt_chain) | (apply need_two_ok <;> lt_chain) | (apply does_same_ok <;> lt_chain) | (apply telling_ok <;> lt_chain) | (apply first_one <;> lt_chain))
local macro_rules | `(tactic| infer_instance) => `(tactic| first
  | with_reducible assumption
  | (intro _ ; infer_instance)
  | ((with_reducible first | apply gd_lt | apply gd_le | apply gd_lti | apply gd_lei); lt_chain)
  | ((with_reducible apply gd_ev); first
    | with_reducible exact ev_cst_nil
    | (with_reducible apply ev_cst_eq) <;> first | exact lit_of _ | exact lit_nat _ | exact rfl
    | (with_reducible apply ev_glb_eq) <;> first | exact lit_of _ | exact lit_nat _ | exact rfl
    | (with_reducible apply ev_var_ok) <;> exact rfl
    | (with_reducible apply ev_ownvar) <;> exact rfl
    | (with_reducible apply ev_diown) <;> exact rfl
    | with_reducible exact ev_dct0
    | ((with_reducible apply ev_tup1n); (next => (infer_instance; done)); (next => exact rfl))
    | ((with_reducible apply ev_alike_go); (next => exact rfl); (next => with_reducible rfl); all_goals infer_instance)
    | ((with_reducible apply ev_nalike_go); (next => exact rfl); (next => with_reducible rfl); all_goals infer_instance)
    | (with_reducible apply ev_sub_ok) <;> infer_instance
    | (with_reducible apply ev_bin_ok') <;> infer_instance
    | (with_reducible apply ev_cmp_ok) <;> infer_instance
    | (with_reducible apply ev_call_ok) <;> infer_instance
    | (with_reducible apply ev_not_ok) <;> infer_instance
    | (with_reducible apply ev_lenset) <;> infer_instance
    | (with_reducible apply ev_max2) <;> infer_instance
    | (with_reducible apply ev_bi1_ok) <;> infer_instance
    | (with_reducible apply ev_mt1_ok) <;> infer_instance
    | (with_reducible apply ev_rng1_go) <;> infer_instance
    | (with_reducible apply ev_rng2_go) <;> infer_instance
    | (with_reducible apply ev_rgl_t) <;> infer_instance
    | (with_reducible apply ev_rgl_f) <;> infer_instance
    | (with_reducible apply ev_enm_go) <;> infer_instance
    | (with_reducible apply ev_zip_same) <;> infer_instance
    | (with_reducible apply ev_zip_go) <;> infer_instance
    | (with_reducible apply ev_rvd_go) <;> infer_instance
    | (with_reducible apply ev_iscB) <;> infer_instance
    | (with_reducible apply ev_isc_g) <;> infer_instance
    | (with_reducible apply ev_slc_lo_go) <;> infer_instance
    | (with_reducible apply ev_slc_hi_go) <;> infer_instance
    | (with_reducible apply ev_neg_ok) <;> infer_instance
    | (with_reducible apply ev_and_go) <;> infer_instance
    | (with_reducible apply ev_or_go) <;> infer_instance
    | (with_reducible apply ev_ite_g) <;> infer_instance
    | (with_reducible apply ev_lst_star2) <;> infer_instance
    | (with_reducible apply ev_lst_go) <;> infer_instance
    | (with_reducible apply ev_tup_starV) <;> infer_instance
    | (with_reducible apply ev_tup_star2) <;> infer_instance
    | (with_reducible apply ev_tup_go) <;> infer_instance
    | (with_reducible apply ev_lc_go0) <;> infer_instance
    | (with_reducible apply ev_lc_go) <;> infer_instance
    | (with_reducible apply ev_callW_go) <;> infer_instance
    | with_reducible apply hold_ev
    | skip)
  | ((with_reducible apply gd_evTs); first
    | with_reducible exact evTs_nil
    | with_reducible exact evCs_go0
    | (with_reducible apply evTs_c1) <;> infer_instance
    | (with_reducible apply evCs1) <;> infer_instance
    | with_reducible apply hold_evTs
    | with_reducible apply hold_evCs
    | skip)
  | ((with_reducible apply gd_evCs); first
    | with_reducible exact evTs_nil
    | with_reducible exact evCs_go0
    | (with_reducible apply evTs_c1) <;> infer_instance
    | (with_reducible apply evCs1) <;> infer_instance
    | with_reducible apply hold_evTs
    | with_reducible apply hold_evCs
    | skip)
  | ((with_reducible apply gd_exs); first
    | (with_reducible apply exs_nil_eq) <;> exact rfl
    | with_reducible apply exs_nil_eq
    | (with_reducible apply exs_ret_go) <;> infer_instance
    | (with_reducible apply exs_go) <;> infer_instance
    | (with_reducible apply ex_ret_go) <;> infer_instance
    | (with_reducible apply ex_do_go) <;> infer_instance
    | (with_reducible apply ex_asg_go) <;> infer_instance
    | (with_reducible apply ex_asgT_go) <;> infer_instance
    | (with_reducible apply ex_app_go) <;> infer_instance
    | (with_reducible apply ex_setI_go) <;> infer_instance
    | (with_reducible apply ex_par2_go) <;> infer_instance
    | (with_reducible apply ex_par3_go) <;> infer_instance
    | (with_reducible apply ex_if_go) <;> infer_instance
    | (with_reducible apply forB_go) <;> infer_instance
    | with_reducible apply hold_ex
    | with_reducible apply hold_exs
    | skip)
  | ((with_reducible apply gd_ex); first
    | (with_reducible apply exs_nil_eq) <;> exact rfl
    | with_reducible apply exs_nil_eq
    | (with_reducible apply exs_ret_go) <;> infer_instance
    | (with_reducible apply exs_go) <;> infer_instance
    | (with_reducible apply ex_ret_go) <;> infer_instance
    | (with_reducible apply ex_do_go) <;> infer_instance
    | (with_reducible apply ex_asg_go) <;> infer_instance
    | (with_reducible apply ex_asgT_go) <;> infer_instance
    | (with_reducible apply ex_app_go) <;> infer_instance
    | (with_reducible apply ex_setI_go) <;> infer_instance
    | (with_reducible apply ex_par2_go) <;> infer_instance
    | (with_reducible apply ex_par3_go) <;> infer_instance
    | (with_reducible apply ex_if_go) <;> infer_instance
    | (with_reducible apply forB_go) <;> infer_instance
    | with_reducible apply hold_ex
    | with_reducible apply hold_exs
    | skip)
  | ((with_reducible apply gd_forB); first
    | (with_reducible apply exs_nil_eq) <;> exact rfl
    | with_reducible apply exs_nil_eq
    | (with_reducible apply exs_ret_go) <;> infer_instance
    | (with_reducible apply exs_go) <;> infer_instance
    | (with_reducible apply ex_ret_go) <;> infer_instance
    | (with_reducible apply ex_do_go) <;> infer_instance
    | (with_reducible apply ex_asg_go) <;> infer_instance
    | (with_reducible apply ex_asgT_go) <;> infer_instance
    | (with_reducible apply ex_app_go) <;> infer_instance
    | (with_reducible apply ex_setI_go) <;> infer_instance
    | (with_reducible apply ex_par2_go) <;> infer_instance
    | (with_reducible apply ex_par3_go) <;> infer_instance
    | (with_reducible apply ex_if_go) <;> infer_instance
    | (with_reducible apply forB_go) <;> infer_instance
    | with_reducible apply hold_ex
    | with_reducible apply hold_exs
    | skip)
  | ((with_reducible apply gd_bin); first
    | (with_reducible first
      | apply gb_addN
      | (apply gb_subN <;> lt_chain)
      | (apply gb_modN <;> lt_chain)
      | (apply gb_modS <;> lt_chain)
      | (apply gb_addS <;> lt_chain)
      | (apply gb_addT <;> lt_chain)
      | (apply gb_addL <;> lt_chain)
      | (apply gb_mulN <;> lt_chain)
      | (apply gb_fdivN <;> lt_chain)
      | (apply gb_repT <;> lt_chain)
      | (apply gb_rep1 <;> lt_chain)
      | (apply gx_modI <;> lt_chain)
      | (apply gx_modII <;> lt_chain)
      | (apply gb_mulN2 <;> lt_chain)
      | (apply gx_fdivI <;> lt_chain)
      | (apply gb_mulI <;> lt_chain)
      | apply bd_add
      | apply bd_sub
      | fail)
    | k_mem
    | with_reducible exact rfl
    | skip)
  | ((with_reducible apply gd_cmp); first
    | (with_reducible first
      | apply gc_eqN
      | apply gc_neN
      | apply gc_ltN
      | apply gc_gtN
      | apply gc_leN
      | apply gc_geN
      | apply in_cs
      | apply nin_cs
      | apply gc_in_it
      | apply gc_nin_it
      | apply gc_in_lst
      | apply gc_nin_lst
      | apply cmp_st
      | apply cmp_st_ne
      | apply cmp_tr
      | apply cmp_tr_ne
      | apply gc_neL
      | apply gc_eqL
      | apply gc_neL0
      | apply gc_eqL0
      | apply gc_neS
      | apply gc_in_itF
      | apply gc_neS0
      | apply gc_neB
      | apply gc_ltI
      | apply gc_leI
      | apply gc_gtI
      | apply gc_geI
      | apply gc_eqI
      | apply gc_neI
      | fail)
    | k_mem
    | with_reducible exact rfl
    | skip)
  | ((with_reducible apply gd_sub); first
    | (with_reducible first
      | apply gs_y0
      | apply gs_y1
      | (apply gx_rngP <;> lt_chain)
      | (apply gx_rngL <;> lt_chain)
      | (apply gx_rng <;> lt_chain)
      | (apply sub_stD <;> lt_chain)
      | (apply sub_trD <;> lt_chain)
      | (apply gs_li <;> lt_chain)
      | (apply gs_tu <;> lt_chain)
      | (apply gs_st_neg <;> lt_chain)
      | (apply gs_neg <;> lt_chain)
      | (apply nm_sub <;> lt_chain)
      | fail)
    | k_mem
    | with_reducible exact rfl
    | skip)
  | ((with_reducible apply gd_bi1); first
    | (with_reducible first
      | apply gx_sum
      | apply gl_len_st
      | apply gl_len_tr
      | apply gl_len_li
      | apply gl_len_tu
      | apply gl_tup_st
      | apply gl_tup_tr
      | apply gl_tup_it
      | apply gl_list_st
      | apply gl_list_tr
      | apply gl_list_it
      | apply gl_list_li
      | apply gx_all
      | apply gx_any
      | apply gx_allB
      | apply gl_ist
      | apply gl_intB
      | (apply gx_maxN <;> lt_chain)
      | (apply gx_maxR <;> lt_chain)
      | (apply sort_tr <;> lt_chain)
      | (apply sort_trsF <;> lt_chain)
      | (apply sort_itF <;> lt_chain)
      | apply gl_int
      | apply gl_tupA
      | apply gl_tupB
      | apply gl_tupC
      | apply gl_lisA
      | apply gl_lisB
      | apply gl_lisC
      | fail)
    | k_mem
    | with_reducible exact rfl
    | skip)
  | ((with_reducible apply gd_mt); first
    | (with_reducible first
      | (apply gx_tidx <;> lt_chain)
      | (apply gx_idx <;> lt_chain)
      | (apply gx_idxF <;> lt_chain)
      | fail)
    | k_mem
    | with_reducible exact rfl
    | skip)
  | ((with_reducible apply gd_slc); first
    | (with_reducible first
      | (apply gk_hi_st <;> lt_chain)
      | (apply gk_lo_st <;> lt_chain)
      | (apply gk_hi_tr <;> lt_chain)
      | (apply gk_lo_tr <;> lt_chain)
      | (apply gk_hi_li <;> lt_chain)
      | (apply gk_lo_li <;> lt_chain)
      | fail)
    | k_mem
    | with_reducible exact rfl
    | skip)
  | (with_reducible exact rw_own (by assumption))
  | (with_reducible first | apply isNon_ls | apply isNon_li | apply isNon_no | apply isNon_int | apply cond_tr | apply cond_st | apply cond_n | apply tup_int | apply tup_bool | apply gx_turn | (apply tup_st8 <;> lt_chain) | (apply tup_tr8 <;> lt_chain) | (apply tup_lst8 <;> lt_chain) | (apply tup_tus8 <;> lt_chain) | (apply tup_pairs8 <;> lt_chain) | (apply is_list_tr <;> lt_chain))
  | (with_reducible first | apply retR_pu | apply retR_li0 | apply retR_li1) <;> infer_instance
  | (with_reducible first | exact takeR_pu | exact takeR_li0 | exact takeR_nl0 | exact takeR_di0 | exact keepR_pu | exact keepR_li0 | exact keepR_nl0 | exact keepR_di0)
  | (with_reducible first | apply takeR_li1 | apply keepR_li1) <;> infer_instance
  | with_reducible exact wipe_0
  | (with_reducible apply wipe_S) <;> infer_instance
  | with_reducible exact set_0
  | (with_reducible apply set_S) <;> infer_instance
  | (with_reducible apply set_2) <;> infer_instance
  | (with_reducible apply bindP_v) <;> infer_instance
  | (with_reducible apply bindP_yd) <;> infer_instance
  | (with_reducible apply bindP_t2) <;> infer_instance
  | (with_reducible apply bindP_t3) <;> infer_instance
  | k_mem
  | (with_reducible first | apply hold_fn | apply hold_fw)
  | with_reducible exact apart_nil
  | (with_reducible apply apart_of) <;> simp [apart, muE, muEs, muT, muTs, muO, muS, muSs, P.slots, P.slotsL]
  | (with_reducible first | apply gu_get | apply gu_itR | apply gu_seq | apply gu_nlAt | apply gu_den | apply gu_take | apply gu_keep | apply gu_ret | apply gu_bind | apply gu_eget | apply gu_nl | apply gu_st1 | apply gu_own | apply gu_wipe | apply gu_set) <;> exact rfl
  | with_reducible exact rfl
  | ((with_reducible apply gu_b); simp only [Bool.not_true, Bool.not_false, Bool.and_true, Bool.true_and, Bool.or_false, Bool.false_or, Bool.or_self, Bool.and_self, Bool.not_not, Bool.or_true, Bool.true_or, Bool.and_false, Bool.false_and]; done)
  | lt_chain
  | skip)
-- OG
theorem gc_neB (a b : Bool) : cmpD .ne (.pu (.bool a)) (.pu (.bool b)) = .ok (a != b) := by cases a <;> cases b <;> rfl
theorem gc_neO : cmpD .ne (.pu .none) (.pu .none) = .ok false := rfl
def ys : List (Nat × Nat) := [(1, 3), (2, 2), (2, 3), (3, 2), (3, 3), (1, 5), (2, 4)]
theorem ys_ok (y : Nat × Nat) (h : y ∈ ys) : GoodY y.1 y.2 ∧ (List.range y.1).foldl (fun a i => a * (y.2 + i)) 1 ≤ 20000 ∧ (asN y.2 y.1).length ≤ 900 ∧ y.1 * y.2 ≤ 20 := by
  simp only [ys, List.mem_cons, List.not_mem_nil, or_false] at h
  rcases h with rfl | rfl | rfl | rfl | rfl | rfl | rfl <;> exact ⟨by constructor <;> decide, by decide +kernel, by decide +kernel, by decide⟩
theorem law_true (ns : List Int) (hn : ns.length ≤ 63) : d_law [.list (ns.map .int)] = .ok (.pu (.bool true)) := by
  have hw0 : RW (.li [.list (ns.map .int), .int ((0 : Nat) : Int), .int ((8091 : Nat) : Int), .int ((0 : Nat) : Int)]) := rw_init ns hn 8091
  obtain ⟨⟨c, s⟩, w1, hy0, hw1, q1⟩ := pick_any _ hw0 ys (by decide) (by decide)
  obtain ⟨hy, hM, hN, hcs⟩ := ys_ok _ hy0
  dsimp only at hy hM hN q1 hcs
  obtain ⟨one, w2, hw2, q2, h1, l1⟩ := row_any w1 hw1 c s 7 hy (by omega)
  obtain ⟨other, w3, hw3, q3, h2, l2⟩ := row_any w2 hw2 c s 7 hy (by omega)
  obtain ⟨more, w4, hw4, q4, h3, l3⟩ := row_any w3 hw3 c s 4 hy (by omega)
  have q1' : d_L_pick (.li [.list (ns.map .int), .int ((0 : Nat) : Int), .int ((8091 : Nat) : Int), .int ((0 : Nat) : Int)]) [.list [.tuple [.int ((1 : Nat) : Int), .int ((3 : Nat) : Int)], .tuple [.int ((2 : Nat) : Int), .int ((2 : Nat) : Int)], .tuple [.int ((2 : Nat) : Int), .int ((3 : Nat) : Int)], .tuple [.int ((3 : Nat) : Int), .int ((2 : Nat) : Int)], .tuple [.int ((3 : Nat) : Int), .int ((3 : Nat) : Int)], .tuple [.int ((1 : Nat) : Int), .int ((5 : Nat) : Int)], .tuple [.int ((2 : Nat) : Int), .int ((4 : Nat) : Int)]]] = .ok (.pu (ydD c s), w1) := q1
  have h7 := hy.c7
  have h8 := hy.s8
  have hs2 := hy.s2
  have hc1 := hy.c1
  have hF : Good c s (oneT s 0 (List.range c)) := oneT_good c s 0 _ (by omega) (List.Perm.refl _)
  have hFm := mem_allS c s _ hF
  have fs := first_one c s hy
  have hff := first_fin c s hy one other h1 h2
  have hz := sbm_zero2 one.length other.length s hs2
  have app : ∀ a b : List Nat, (∀ k ∈ a, k < c) → (∀ k ∈ b, k < c) → ∀ k ∈ a ++ b, k < c := fun a b ha hb k hk => (List.mem_append.1 hk).elim (ha k) (hb k)
  have t1 := telling_ok c s hy one other h1 h2 (by omega) (by omega) hM hN
  have t2 := does_same_ok c s hy one other h1 h2 (by omega) (by omega) hM hN
  have t3 := telling_ok c s hy other one h2 h1 (by omega) (by omega) hM hN
  have t4 := does_same_ok c s hy other one h2 h1 (by omega) (by omega) hM hN
  rw [show (fun st => !decide (fin st other = fin st one)) = fun st => !decide (fin st one = fin st other) from funext fun st => by rw [decide_eq_decide.2 (eq_comm)]] at t3
  rw [show (fun st => decide (fin st other = fin st one)) = fun st => decide (fin st one = fin st other) from funext fun st => by rw [decide_eq_decide.2 (eq_comm)]] at t4
  have t5 := does_same_ok c s hy (one ++ more) (other ++ more) (app _ _ h1 h3) (app _ _ h2 h3) (by simp; omega) (by simp; omega) hM hN
  have t6 := does_same_ok c s hy (more ++ one) (more ++ other) (app _ _ h3 h1) (app _ _ h3 h2) (by simp; omega) (by simp; omega) hM hN
  have har : ∀ k ∈ (List.replicate s (List.range c)).flatten, k < c := fun k hk => by
    obtain ⟨l, hl, hkl⟩ := List.mem_flatten.1 hk
    rw [(List.mem_replicate.1 hl).2] at hkl
    simpa using hkl
  have harl : (List.replicate s (List.range c)).flatten.length = s * c := by simp
  have har2 : (List.replicate s (List.range c)).flatten.length ≤ 40 := by rw [harl, Nat.mul_comm]; omega
  have t7 := does_same_ok c s hy _ _ har har har2 har2 hM hN
  have e7 : ((srtS (asN s c)).all fun st => decide (fin st (List.replicate s (List.range c)).flatten = fin st (List.replicate s (List.range c)).flatten)) = true := by simp
  rw [e7] at t7
  have t8 := does_same_ok c s hy [] [0] (by simp) (fun k hk => by simp at hk; omega) (by simp) (by simp) hM hN
  have e8 : ((srtS (asN s c)).all fun st => decide (fin st [] = fin st [0])) = false := by
    rw [List.all_eq_false]
    refine ⟨_, hFm, ?_⟩
    have := first_fin c s hy [] [0] (by simp) (fun k hk => by simp at hk; omega)
    intro z
    have z2 := this.1 (by simpa using z)
    rw [List.length_nil, List.length_singleton, Nat.zero_mod, Nat.mod_eq_of_lt (by omega)] at z2
    omega
  rw [e8] at t8
  have t8' : d_f_does_same [ydD c s, trD [], trD [0]] = .ok (.pu (.bool false)) := t8
  have hmul : binD .mul (.pu (trD (List.range c))) (.pu (.int (s : Nat))) = .ok (.pu (trD (List.replicate s (List.range c)).flatten)) := by
    show (if (-1000 : Int) ≤ (s : Nat) ∧ ((s : Nat) : Int) ≤ 1000 ∧ ((List.range c).map nD).length ≤ 1000 then R.ok (M.pu (.tuple (List.replicate ((s : Nat) : Int).toNat ((List.range c).map nD)).flatten)) else .bad) = _
    rw [if_pos ⟨by omega, by omega, by simp; omega⟩]
    congr 3
    show _ = ((List.replicate s (List.range c)).flatten).map nD
    rw [List.map_flatten, List.map_replicate]
    congr 1
  have g1 := after_ok c s _ one hy hF h1 (by omega)
  have g2 := after_ok c s _ other hy hF h2 (by omega)
  have e2 : ((srtS (asN s c)).all fun st => decide (fin st one = fin st other)) = ((srtS (asN s c)).find? fun st => !decide (fin st one = fin st other)).isNone := by
    rw [Bool.eq_iff_iff, List.all_eq_true, Option.isNone_iff_eq_none, List.find?_eq_none]
    simp
  rw [e2] at t2 t4
  generalize hff1 : fin (oneT s 0 (List.range c)) one = f1 at *
  generalize hff2 : fin (oneT s 0 (List.range c)) other = f2 at *
  generalize (List.replicate s (List.range c)).flatten = ar at *
  cases hf : (srtS (asN s c)).find? (fun st => !decide (fin st one = fin st other)) with
  | none =>
    rw [hf] at t1 t2 t3 t4
    have hall : ∀ st, Good c s st → fin st one = fin st other := fun st hg => by
      have := List.find?_eq_none.1 hf st (mem_allS c s st hg)
      simpa using this
    have e5 : ((srtS (asN s c)).all fun st => decide (fin st (one ++ more) = fin st (other ++ more))) = true := by
      rw [List.all_eq_true]
      intro st hst
      rw [decide_eq_true_eq, fin_app, fin_app, hall st (asN_Good c s st hst)]
    have e6 : ((srtS (asN s c)).all fun st => decide (fin st (more ++ one) = fin st (more ++ other))) = true := by
      rw [List.all_eq_true]
      intro st hst
      rw [decide_eq_true_eq, fin_app, fin_app]
      exact hall _ (fin_good c s hy more h3 st (asN_Good c s st hst))
    rw [e5] at t5
    rw [e6] at t6
    have t1 : d_f_telling [ydD c s, trD one, trD other] = .ok (.pu .none) := t1
    have t3 : d_f_telling [ydD c s, trD other, trD one] = .ok (.pu .none) := t3
    have t2 : d_f_does_same [ydD c s, trD one, trD other] = .ok (.pu (.bool true)) := t2
    have t4 : d_f_does_same [ydD c s, trD other, trD one] = .ok (.pu (.bool true)) := t4
    have hlen : one.length % s = other.length % s := hff.1 (by rw [← hff1, ← hff2]; exact hall _ hF)
    have k6 : ev g_law (.and (.isc true (.var 6) .none) (.cmp .eq (.call 4 [(.var 2), (.var 6), (.var 3)]) (.call 4 [(.var 2), (.var 6), (.var 4)]))) [some (.pu (.list (ns.map .int))), some w3, some (.pu (ydD c s)), some (.pu (trD one)), some (.pu (trD other)), some (.pu (.bool true)), some (.pu .none), none, none, none] = .ok (.pu (.bool (false && false)), [], [some (.pu (.list (ns.map .int))), some w3, some (.pu (ydD c s)), some (.pu (trD one)), some (.pu (trD other)), some (.pu (.bool true)), some (.pu .none), none, none, none]) := by
      refine ev_and_go (ra := []) (rb := []) ?_ fun z => by cases z
      rw [ev, ev_var_ok rfl]; rfl
    have n1 := gc_neB true true
    have n2 := gc_neB true (true != false)
    have n3 := gc_neO
    have n4 := gc_neB (decide (f1 = f2)) (decide (sbm one.length other.length s = 0))
    have hdd : decide (f1 = f2) = decide (sbm one.length other.length s = 0) := decide_eq_decide.2 (hff.trans hz.symm)
    unfold d_law
    apply runP_go (e0 := [some (.pu (.list (ns.map .int))), none, none, none, none, none, none, none, none, none]) rfl
    unfold b_law
    iterate 4
      apply exs_go
      · infer_instance
    apply exs_go
    · infer_instance
      all_goals rfl
    apply exs_go
    · exact ex_if_go k6 rfl
    apply exs_go
    · infer_instance
      rw [decide_eq_true (hz.2 hlen)]; rfl
    apply exs_go
    · infer_instance
    apply exs_go
    · infer_instance
      rw [hdd]; simp
    apply exs_go
    · infer_instance
    apply exs_go
    · infer_instance
      all_goals rfl
    apply exs_go
    · infer_instance
    infer_instance
    all_goals rfl
  | some st =>
    rw [hf] at t1 t2 t3 t4
    have hg := asN_Good c s st (List.mem_of_find?_eq_some hf)
    have hd := List.find?_some (p := fun st => !decide (fin st one = fin st other)) hf
    have t1 : d_f_telling [ydD c s, trD one, trD other] = .ok (.pu (stD st)) := t1
    have t3 : d_f_telling [ydD c s, trD other, trD one] = .ok (.pu (stD st)) := t3
    have t2 : d_f_does_same [ydD c s, trD one, trD other] = .ok (.pu (.bool false)) := t2
    have t4 : d_f_does_same [ydD c s, trD other, trD one] = .ok (.pu (.bool false)) := t4
    have g3 := after_ok c s st one hy hg h1 (by omega)
    have g4 := after_ok c s st other hy hg h2 (by omega)
    generalize ((srtS (asN s c)).all fun st => decide (fin st (one ++ more) = fin st (other ++ more))) = x5 at t5
    generalize ((srtS (asN s c)).all fun st => decide (fin st (more ++ one) = fin st (more ++ other))) = x6 at t6
    have n1 := gc_neB false false
    have n2 := gc_neB false (isNon (.pu (stD st)) != false)
    have n4 := gc_neB (decide (f1 = f2)) (decide (sbm one.length other.length s = 0))
    have hdd : decide (f1 = f2) = decide (sbm one.length other.length s = 0) := decide_eq_decide.2 (hff.trans hz.symm)
    unfold d_law
    apply runP_go (e0 := [some (.pu (.list (ns.map .int))), none, none, none, none, none, none, none, none, none]) rfl
    unfold b_law
    iterate 4
      apply exs_go
      · infer_instance
    apply exs_go
    · infer_instance
      all_goals simp [isNon, stD]
    apply exs_go
    · infer_instance
      have hd2 : fin st one ≠ fin st other := by simpa using hd
      rw [decide_eq_false hd2, Bool.and_false]
    apply exs_go
    · infer_instance
      all_goals rfl
    apply exs_go
    · infer_instance
    apply exs_go
    · infer_instance
      rw [hdd]; simp
    apply exs_go
    · infer_instance
    apply exs_go
    · infer_instance
      all_goals rfl
    apply exs_go
    · infer_instance
    infer_instance
    all_goals rfl
end K91
open PySem PySem.W PyProof.Rows
set_option maxHeartbeats 0 in
theorem PySem.Challenge.cw_trainring_k91_whole_length_of_rows_holds : PySem.Challenge.rw_trainring_k91_whole_length_of_rows.Holds := by
  w_on; o_law; k_head; (case hw => w_witness2)
  k_fill
  refine L2.walk_of (l := PySem.Challenge.rw_trainring_k91_whole_length_of_rows) (n := 63) (k := 6) (x := "_law_script") (CX := fun _ => L2.CX0) (sp := fun w => TR.spP ⟨_, PySem.Challenge.pw_trainring_k91_whole_length_of_rows, w⟩ 1 K91.d_law) rfl (by decide) rfl ⟨rfl, by decide, by decide⟩ (fun w h Y => PySem.W.kIn_of Y) ?F (fun w H a ns hl _ hS => TR.law_sp hS (K91.law_true ns hl)) (fun _ _ _ _ _ h => h)
  case F =>
    intro w mg fa h KX G hmg
    refine' K91.all_mk (l := PySem.Challenge.rw_trainring_k91_whole_length_of_rows) KX G hmg ?a0 ?l0 ?c0 ?k0 ?a1 ?l1 ?c1 ?k1 ?a2 ?l2 ?c2 ?k2 ?a3 ?l3 ?c3 ?k3 ?a4 ?l4 ?c4 ?k4 ?a5 ?l5 ?c5 ?k5 ?a6 ?l6 ?c6 ?k6 ?a7 ?l7 ?c7 ?k7 ?a8 ?l8 ?c8 ?k8 ?a9 ?l9 ?c9 ?k9 ?a10 ?l10 ?c10 ?k10 ?a11 ?l11 ?c11 ?k11 ?a12 ?l12 ?c12 ?k12 ?a13 ?l13 ?c13 ?k13 ?a14 ?l14 ?c14 ?k14 ?a15 ?l15 ?c15 ?k15 ?a16 ?l16 ?c16 ?k16 ?a17 ?l17 ?c17 ?k17 ?a18 ?l18 ?c18 ?k18 ?a19 ?l19 ?c19 ?k19 ?a20 ?l20 ?c20 ?k20 ?a21 ?l21 ?c21 ?k21 ?z0 ?z1 ?z2 ?z3 ?z4 ?z5 ?z6 ?z7 ?z8 ?z9 ?z10 ?z11 ?z12 ?z13 ?z14 ?z15 ?z16 ?z17 ?z18 ?m0 ?m1 ?m2 ?m3
    (case a0 => k_is); (case l0 => k_is); (case c0 => k_is); (case k0 => k_is); (case a1 => k_is); (case l1 => k_is); (case c1 => k_is); (case k1 => k_is); (case a2 => k_is); (case l2 => k_is); (case c2 => k_is); (case k2 => k_is); (case a3 => k_is); (case l3 => k_is); (case c3 => k_is); (case k3 => k_is); (case a4 => k_is); (case l4 => k_is); (case c4 => k_is); (case k4 => k_is); (case a5 => k_is); (case l5 => k_is); (case c5 => k_is); (case k5 => k_is); (case a6 => k_is); (case l6 => k_is); (case c6 => k_is); (case k6 => k_is); (case a7 => k_is); (case l7 => k_is); (case c7 => k_is); (case k7 => k_is); (case a8 => k_is); (case l8 => k_is); (case c8 => k_is); (case k8 => k_is); (case a9 => k_is); (case l9 => k_is); (case c9 => k_is); (case k9 => k_is); (case a10 => k_is); (case l10 => k_is); (case c10 => k_is); (case k10 => k_is); (case a11 => k_is); (case l11 => k_is); (case c11 => k_is); (case k11 => k_is); (case a12 => k_is); (case l12 => k_is); (case c12 => k_is); (case k12 => k_is); (case a13 => k_is); (case l13 => k_is); (case c13 => k_is); (case k13 => k_is); (case a14 => k_is); (case l14 => k_is); (case c14 => k_is); (case k14 => k_is); (case a15 => k_is); (case l15 => k_is); (case c15 => k_is); (case k15 => k_is); (case a16 => k_is); (case l16 => k_is); (case c16 => k_is); (case k16 => k_is); (case a17 => k_is); (case l17 => k_is); (case c17 => k_is); (case k17 => k_is); (case a18 => k_is); (case l18 => k_is); (case c18 => k_is); (case k18 => k_is); (case a19 => k_is); (case l19 => k_is); (case c19 => k_is); (case k19 => k_is); (case a20 => k_is); (case l20 => k_is); (case c20 => k_is); (case k20 => k_is); (case a21 => k_is); (case l21 => k_is); (case c21 => k_is); (case k21 => k_is); (case z0 => k_is); (case z1 => k_is); (case z2 => k_is); (case z3 => k_is); (case z4 => k_is); (case z5 => k_is); (case z6 => k_is); (case z7 => k_is); (case z8 => k_is); (case z9 => k_is); (case z10 => k_is); (case z11 => k_is); (case z12 => k_is); (case z13 => k_is); (case z14 => k_is); (case z15 => k_is); (case z16 => k_is); (case z17 => k_is); (case z18 => k_is); (case m0 => k_is); (case m1 => k_is); (case m2 => k_is); (case m3 => k_is)
