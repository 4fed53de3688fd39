import PyProof.Rows.All
import Wide.All
import OpenK.AllK
import Wide.FinOn
import HandS.ForMost
import HandS.Deep
import HandS.Zip
import HandS.Rev
import HandS.TupAny
import HandS.Style
import HandS.IsInst
import HandS.Wide
import HandS.Flow
import HandS.Walk
import HandS.DictTup
import HandS.More
import HandS.Strs
import KE.GoesEnum
import KE.GoesMore
import HandS.HeadHook3
import HandS.HeadEnd
import HandS.Head2
import HandS.Codes
import Lean
import PySem.Challenge.RW_shapewright_k56_written_form_of_values
set_option Elab.async false
set_option linter.all false
set_option maxRecDepth 100000
set_option maxHeartbeats 0
/-! MiniPy: a small total language of our own with values in place of objects, its meaning; no program in sight. -/
namespace Mp
open PySem

abbrev D := PyData
/-- a text by its signs -/
abbrev sx (x : String) : Str := Str.ofString x
abbrev tg (x : String) : D := .str (sx x)
abbrev nD : D := .none

/-- what a slot holds: data, or a list or dict of the def's own (lent: a parameter that the caller lends) -/
inductive Cell where
  | shr (d : D)
  | own (lent : Bool) (d : D)
abbrev Env := List (Option Cell)
/-- an expression's value: data; a new list or dict that nothing else names; the slot's own one -/
inductive R where
  | dat (d : D)
  | frs (d : D)
  | bor (i : Nat)
inductive Arg where
  | shr (d : D)
  | own (d : D)

inductive Ty where
  | int | str | tuple | list | dict | bool
inductive Op where
  | add | sub | mul | fdiv | mod | pow
inductive Cmp where
  | eq | ne | lt | le | gt | ge | isin | notin | is | isnot
inductive Bf where
  | len | int | str | list | tuple | sorted | all | any | sum | max | min | abs
inductive Mt where
  | append | extend | pop | indexL | indexT | get2 | join
inductive Tg where
  | name (i : Nat)
  | tup (ts : List Tg)

mutual
inductive E where
  | cst (d : D)
  | var (i : Nat)
  | bin (op : Op) (a b : E)
  | neg (a : E)
  | not (a : E)
  | and (a b : E)
  | or (a b : E)
  | cmp (op : Cmp) (a b : E)
  | chain (op op' : Cmp) (a b c : E)
  | ite (c a b : E)
  | tup (es : List E)
  | lst (es : List E)
  | dic (kvs : List (E × E))
  | idx (a i : E)
  | slc (a : E) (lo hi : Option E)
  | rev (a : E)
  | call (f : Nat) (es : List E)
  | bf (b : Bf) (es : List E)
  | isi (a : E) (tys : List Ty)
  | own (m : Mt) (i : Nat) (es : List E)
  | meth (m : Mt) (o : E) (es : List E)
  | lc (elt : E) (t : Tg) (it : It) (cond : Option E) (own : List Nat)
inductive It where
  | seq (e : E)
  | range1 (e : E)
  | range2 (a b : E)
  | enum (e : E)
  | zip (a b : E)
  | rev (e : E)
end
inductive S where
  | asg (t : Tg) (e : E)
  | sub (i : Nat) (ix e : E)
  | inc (i : Nat) (e : E)
  | expr (e : E)
  | ret (e : E)
  | ite (c : E) (a b : List S)
  | whil (c : E) (b : List S)
  | for (t : Tg) (it : It) (b : List S)
  | pass | brk | cont
/-- names: how many slots; lent: which parameters are lent -/
structure MDef where
  slots : Nat
  lent : List Bool
  body : List S

/-! ### values -/
section
variable (ρ : Env)
def Env.at (i : Nat) : Option Cell := (ρ[i]?).join
def res : R → Option D
  | .dat d => some d
  | .frs d => some d
  | .bor i => match Env.at ρ i with | some (.shr d) => some d | some (.own _ d) => some d | none => none
/-- as data: a slot's own list is no more the def's own -/
def frz : R → Option (D × Env)
  | .dat d => some (d, ρ)
  | .frs d => some (d, ρ)
  | .bor i => match Env.at ρ i with
    | some (.shr d) => some (d, ρ)
    | some (.own false d) => some (d, ρ.set i (some (.shr d)))
    | _ => none
end
def frzAll : List R → Env → Option (List D × Env)
  | [], ρ => some ([], ρ)
  | r :: rs, ρ => do
    let (d, ρ) ← frz ρ r
    let (ds, ρ) ← frzAll rs ρ
    some (d :: ds, ρ)

def lenOk (n : Nat) : Option Unit := if n ≤ sizeLine then some () else none
def truD : D → Option Bool
  | .none => some false
  | .bool b => some b
  | .int i => some (i != 0)
  | .str s => if s.length ≤ sizeLine then some ((s.length : Int) != 0) else none
  | .list ds => some (!ds.isEmpty)
  | .tuple ds => some (!ds.isEmpty)
  | .dict _ => none

def addD : D → D → Option (D × Bool)
  | .int i, .int j => some (.int (i + j), false)
  | .str x, .str y => if x.length + y.length ≤ sizeLine then some (.str (x ++ y), false) else none
  | .list xs, .list ys => if xs.length + ys.length ≤ sizeLine then some (.list (xs ++ ys), true) else none
  | .tuple xs, .tuple ys => if xs.length + ys.length ≤ sizeLine then some (.tuple (xs ++ ys), false) else none
  | _, _ => none
def mulOk (i j : Int) : Bool := decide (-(2 ^ 64) < i ∧ i < 2 ^ 64) || decide (-(2 ^ 64) < j ∧ j < 2 ^ 64)
def divOk (j : Int) : Bool := decide (j ≠ 0 ∧ j.natAbs.log2 < 9000)
def powOk (i j : Int) : Bool := decide (0 ≤ j ∧ j ≤ 1000000 ∧ i.natAbs < 2 ^ 64)
def int2 (f : Int → Int → Option D) : D → D → Option (D × Bool)
  | .int i, .int j => (f i j).map fun k => (k, false)
  | _, _ => none
def binD : Op → D → D → Option (D × Bool)
  | .add => addD
  | .sub => int2 fun i j => some (.int (i - j))
  | .mul => int2 fun i j => if mulOk i j = true then some (.int (i * j)) else none
  | .fdiv => int2 fun i j => if divOk j = true then some (.int (i.fdiv j)) else none
  | .mod => int2 fun i j => if j = 0 then none else some (.int (i.fmod j))
  | .pow => int2 fun i j => if powOk i j = true then some (.int (i ^ j.toNat)) else none

/-- plain data: no dict within -/
def laid (d : D) : Bool := d.canLay0 && decide (d.depth ≤ 150)
def flat : D → Bool
  | .none => true
  | .bool _ => true
  | .int _ => true
  | .str _ => true
  | _ => false
def eqD : D → D → Option Bool
  | .str x, .str y => some (x == y)
  | .int i, .int j => some (i == j)
  | a, b => if laid a && laid b then some (PyData.eqv a b) else none
def memD (a : D) (ds : List D) : Bool := ds.any fun z => PyData.eqv z a
def lookD (kvs : List (D × D)) (k : D) : Option D := (kvs.find? fun kv => PyData.eqv kv.1 k).map (·.2)
def keyOk : D → Bool
  | .str _ => true
  | _ => false
def inD : D → D → Option Bool
  | a, .list ds => if (flat a && ds.all flat) || (laid a && laid (.list ds)) then some (memD a ds) else none
  | a, .tuple ds => if (flat a && ds.all flat) || (laid a && laid (.tuple ds)) then some (memD a ds) else none
  | .str a, .str b => some (!(Builtin.Str.occurrences b a 0 b.length 1).isEmpty)
  | k, .dict kvs => if keyOk k then some (lookD kvs k).isSome else none
  | _, _ => none
/-- x is None, x is not None; True, False -/
def isNoneD : D → Bool
  | .none => true
  | _ => false
def isD (a b : D) : Option Bool := match b with
  | .none => some (isNoneD a)
  | .bool k => match a with | .bool j => some (decide (j = k)) | _ => none
  | _ => none
def cmp2 (f : Int → Int → Bool) : D → D → Option Bool
  | .int i, .int j => some (f i j)
  | _, _ => none
def cmpD : Cmp → D → D → Option Bool
  | .eq => eqD
  | .ne => fun a b => (eqD a b).map not
  | .lt => cmp2 fun i j => decide (i < j)
  | .le => cmp2 fun i j => decide (i ≤ j)
  | .gt => cmp2 fun i j => decide (j < i)
  | .ge => cmp2 fun i j => decide (j ≤ i)
  | .isin => inD
  | .notin => fun a b => (inD a b).map not
  | .is => isD
  | .isnot => fun a b => (isD a b).map not

/-- xs[i], the place counted from the end where i is negative -/
def atD (xs : List D) (i : Int) : Option D := L2.atI xs i
def idxD : D → D → Option D
  | .list xs, .int i => atD xs i
  | .tuple xs, .int i => atD xs i
  | .str z, .int i => if z.length ≤ sizeLine then (L2.atI z.cps.toList i).map fun c => .str ⟨#[c]⟩ else none
  | .dict kvs, k => if keyOk k then lookD kvs k else none
  | _, _ => none
def cutD (xs : List D) (lo hi : Option Int) : List D := (xs.drop (HT.sIx xs.length 0 lo)).take (HT.sIx xs.length xs.length hi - HT.sIx xs.length 0 lo)
def slcD (a : D) (lo hi : Option Int) : Option (D × Bool) := match a with
  | .list xs => some (.list (cutD xs lo hi), true)
  | .tuple xs => some (.tuple (cutD xs lo hi), false)
  | _ => none
def revD : D → Option (D × Bool)
  | .list xs => some (.list xs.reverse, true)
  | _ => none

def tyOf : D → Ty → Bool
  | .none, _ => false
  | .bool _, .int => true
  | .bool _, .bool => true
  | .int _, .int => true
  | .str _, .str => true
  | .list _, .list => true
  | .tuple _, .tuple => true
  | .dict _, .dict => true
  | _, _ => false

def allInts : List D → Option (List Int)
  | [] => some []
  | .int i :: r => (allInts r).map (i :: ·)
  | _ :: _ => none
def allBools : List D → Option (List Bool)
  | [] => some []
  | .bool i :: r => (allBools r).map (i :: ·)
  | _ :: _ => none
def bfD : Bf → List D → Option (D × Bool)
  | .len, [.list xs] => some (.int xs.length, false)
  | .len, [.tuple xs] => some (.int xs.length, false)
  | .len, [.str z] => if z.length ≤ sizeLine then some (.int z.length, false) else none
  | .int, [.int i] => some (.int i, false)
  | .int, [.bool b] => some (.int (if b then 1 else 0), false)
  | .str, [.int i] => if i.natAbs.log2 < 1920 then some (.str (Str.ofString (toString i)), false) else none
  | .list, [.list xs] => some (.list xs, true)
  | .list, [.tuple xs] => some (.list xs, true)
  | .tuple, [.list xs] => some (.tuple xs, false)
  | .tuple, [.tuple xs] => some (.tuple xs, false)
  | .all, [.list xs] => (allBools xs).map fun bs => (.bool (bs.all id), false)
  | .any, [.list xs] => (allBools xs).map fun bs => (.bool (bs.any id), false)
  | .sum, [.list xs] => (allInts xs).map fun is => (.int is.sum, false)
  | .abs, [.int i] => some (.int (if i < 0 then -i else i), false)
  | _, _ => none

def mkR : D × Bool → R
  | (d, true) => .frs d
  | (d, false) => .dat d

/-- f(x, ..): what is not lent is made data -/
def args1 : List Bool → List R → Env → Option (List R × Env)
  | [], [], ρ => some ([], ρ)
  | false :: ls, r :: rs, ρ => do
    let (d, ρ) ← frz ρ r
    let (rs, ρ) ← args1 ls rs ρ
    some (.dat d :: rs, ρ)
  | true :: ls, r :: rs, ρ => do
    let (rs, ρ) ← args1 ls rs ρ
    some (r :: rs, ρ)
  | _, _, _ => none
/-- the arguments as they go in -/
def args2 (ρ : Env) : List Bool → List R → Option (List Arg)
  | [], [] => some []
  | false :: ls, .dat d :: rs => (args2 ρ ls rs).map (.shr d :: ·)
  | true :: ls, .bor i :: rs => match Env.at ρ i with
    | some (.own _ d) => (args2 ρ ls rs).map (.own d :: ·)
    | _ => none
  | true :: ls, .frs d :: rs => (args2 ρ ls rs).map (.own d :: ·)
  | _, _ => none
/-- the slots that are lent -/
def lentSlots : List Bool → List R → List Nat
  | true :: ls, .bor i :: rs => i :: lentSlots ls rs
  | _ :: ls, _ :: rs => lentSlots ls rs
  | _, _ => []
/-- behind the call: the slots that were lent -/
def backOf : List Bool → List R → List D → Env → Option Env
  | [], [], [], ρ => some ρ
  | false :: ls, _ :: rs, os, ρ => backOf ls rs os ρ
  | true :: ls, .bor i :: rs, o :: os, ρ => match Env.at ρ i with
    | some (.own l _) => backOf ls rs os (ρ.set i (some (.own l o)))
    | _ => none
  | true :: ls, .frs _ :: rs, _ :: os, ρ => backOf ls rs os ρ
  | _, _, _, _ => none

def appD : D → List D → Option (D × D)
  | .list xs, [y] => if xs.length < sizeLine then some (.none, .list (xs ++ [y])) else none
  | _, _ => none
def extD : D → List D → Option (D × D)
  | .list xs, [.list ys] => if xs.length + ys.length ≤ sizeLine then some (.none, .list (xs ++ ys)) else none
  | _, _ => none
def popD : D → List D → Option (D × D)
  | .list xs, [] => (xs.getLast?).map fun y => (y, .list xs.dropLast)
  | _, _ => none
/-- a list of the def's own is changed: the method's answer, what stands behind -/
def ownMeth : Mt → D → List D → Option (D × D)
  | .append => appD
  | .extend => extD
  | .pop => popD
  | _ => fun _ _ => none
def indexD : List D → D → Option Nat
  | [], _ => none
  | y :: ys, x => if PyData.eqv y x then some 0 else (indexD ys x).map (· + 1)
def allStrs : List D → Option (List Str)
  | [] => some []
  | .str x :: r => (allStrs r).map (x :: ·)
  | _ :: _ => none
def indexLD : D → List D → Option (D × Bool)
  | .list xs, [x] => if (x :: xs).all flat then (indexD xs x).map fun (n : Nat) => (.int (n : Int), false) else none
  | _, _ => none
def indexTD : D → List D → Option (D × Bool)
  | .tuple xs, [.str x] => (allStrs xs).bind fun ys => (indexD xs (.str x)).map fun (n : Nat) => (.int (n : Int), false)
  | _, _ => none
def get2D : D → List D → Option (D × Bool)
  | .dict kvs, [k, z] => if keyOk k && flat z then some ((lookD kvs k).getD z, false) else none
  | _, _ => none
def joinMD : D → List D → Option (D × Bool)
  | .str x, [.list xs] => (allStrs xs).bind fun ys => if (ys.map (·.length)).sum + ys.length * x.length ≤ 16777216 then some (.str (Txt.join x ys), false) else none
  | _, _ => none
def datMeth : Mt → D → List D → Option (D × Bool)
  | .indexL => indexLD
  | .indexT => indexTD
  | .get2 => get2D
  | .join => joinMD
  | _ => fun _ _ => none
/-- the receiver's kind -/
def mtOk : Mt → D → Bool
  | .indexL, .list _ => true
  | .indexT, .tuple _ => true
  | .get2, .dict _ => true
  | .join, .str _ => true
  | _, _ => false

/-! ### targets, loops -/
def okSlot (ρ : Env) (i : Nat) : Bool := match Env.at ρ i with
  | some (.own true _) => false
  | _ => decide (i < ρ.length)
/-- data into a target -/
def setTg : Tg → D → Env → Option Env
  | .name i, d, ρ => if okSlot ρ i then some (ρ.set i (some (.shr d))) else none
  | .tup ts, .tuple ds, ρ => setTgs ts ds ρ
  | .tup _, _, _ => none
where setTgs : List Tg → List D → Env → Option Env
  | [], [], ρ => some ρ
  | t :: ts, d :: ds, ρ => do
    let ρ ← setTg t d ρ
    setTgs ts ds ρ
  | _, _, _ => none
/-- a value into a target -/
def setR (t : Tg) (r : R) (ρ : Env) : Option Env :=
  match t, r with
  | .name i, .frs d => if okSlot ρ i then some (ρ.set i (some (.own false d))) else none
  | t, r => do
    let (d, ρ) ← frz ρ r
    setTg t d ρ

inductive Fl where
  | nx | bk | ct
  | rt (r : R)

/-- x[k] = d, x the def's own list -/
def setAt (i : Nat) (d k : D) (ρ : Env) : Option (Fl × Env) :=
  match Env.at ρ i, k with
  | some (.own l (.list xs)), .int j => match L2.ixN xs.length j with
    | some n => some (Fl.nx, ρ.set i (some (.own l (.list (xs.set n d)))))
    | none => none
  | _, _ => none
/-- for: turn by turn -/
def forD (f : D → Env → Option (Fl × Env)) : List D → Env → Option (Fl × Env)
  | [], ρ => some (.nx, ρ)
  | d :: ds, ρ => do
    let (fl, ρ) ← f d ρ
    match fl with
    | .nx => forD f ds ρ
    | .ct => forD f ds ρ
    | .bk => some (.nx, ρ)
    | .rt r => some (.rt r, ρ)
/-- while -/
def whlD (c : Env → Option (Bool × Env)) (f : Env → Option (Fl × Env)) (ρ : Env) : Option (Fl × Env) := do
  let (b, ρ) ← c ρ
  if b then do
    let (fl, ρ) ← f ρ
    match fl with
    | .nx => whlD c f ρ
    | .ct => whlD c f ρ
    | .bk => some (.nx, ρ)
    | .rt r => some (.rt r, ρ)
  else some (.nx, ρ)
partial_fixpoint
/-- a comprehension: turn by turn -/
def lcD (f : D → Env → Option (Option D × Env)) : List D → Env → Option (List D × Env)
  | [], ρ => some ([], ρ)
  | d :: ds, ρ => do
    let (o, ρ) ← f d ρ
    let (r, ρ) ← lcD f ds ρ
    match o with
    | some x => some (x :: r, ρ)
    | none => some (r, ρ)
def wipeE (ρ : Env) : List Nat → Env
  | [] => ρ
  | v :: vs => (wipeE ρ vs).set v none
/-- the slots vs as they were ahead -/
def backE (ρ0 ρ : Env) : List Nat → Env
  | [] => ρ
  | v :: vs => (backE ρ0 ρ vs).set v (Env.at ρ0 v)
def noOwn (ρ : Env) (vs : List Nat) : Bool := vs.all fun v => match Env.at ρ v with | some (.own _ _) => false | _ => true

def itemsD : D → Option (List D)
  | .list xs => some xs
  | .tuple xs => some xs
  | _ => none
def enumFrom : Nat → List D → List D
  | _, [] => []
  | n, x :: xs => .tuple [.int n, x] :: enumFrom (n + 1) xs
def zipD : List D → List D → List D
  | x :: xs, y :: ys => .tuple [x, y] :: zipD xs ys
  | _, _ => []
def rangeD (lo : Int) : Nat → List D
  | 0 => []
  | n + 1 => .int lo :: rangeD (lo + 1) n
def okInt (i : Int) : Bool := decide (-(2 ^ 62) ≤ i ∧ i < 2 ^ 62)

/-! ### the meaning -/
structure Sm where
  v : Env → Option (R × Env)
  t : Env → Option (Bool × Env)
/-- an expression's truth by its value -/
def ofV (v : Env → Option (R × Env)) : Sm where
  v := v
  t := fun ρ => do
    let (r, ρ) ← v ρ
    let d ← res ρ r
    let b ← truD d
    some (b, ρ)
/-- a test's value -/
def ofT (t : Env → Option (Bool × Env)) : Env → Option (R × Env) := fun ρ => do
  let (b, ρ) ← t ρ
  some (.dat (.bool b), ρ)
def bothV (a b : Env → Option (R × Env)) (f : D → D → Option (D × Bool)) : Env → Option (R × Env) := fun ρ => do
  let (x, ρ) ← a ρ
  let (y, ρ) ← b ρ
  let x ← res ρ x
  let y ← res ρ y
  let z ← f x y
  some (mkR z, ρ)
/-- a call of a def, behind its arguments -/
def callR (T : Option (List Bool)) (F : List Arg → Option (R × List D)) (rs : List R) (ρ : Env) : Option (R × Env) := do
  let ls ← T
  let (rs, ρ) ← args1 ls rs ρ
  if (lentSlots ls rs).Nodup then do
    let as ← args2 ρ ls rs
    let (r, os) ← F as
    let ρ ← backOf ls rs os ρ
    some (r, ρ)
  else none
def asBool (r : R) : Option Bool := match r with
  | .dat (.bool b) => some b
  | _ => none

section
variable (T : Nat → Option (List Bool)) (F : Nat → List Arg → Option (R × List D))

mutual
def sem : E → Sm
  | .cst d => ofV fun ρ => some (.dat d, ρ)
  | .var i => ofV fun ρ => match Env.at ρ i with
    | some (.shr d) => some (.dat d, ρ)
    | some (.own _ _) => some (.bor i, ρ)
    | none => none
  | .bin op a b => ofV (bothV (sem a).v (sem b).v (binD op))
  | .neg a => ofV fun ρ => do
    let (x, ρ) ← (sem a).v ρ
    match ← res ρ x with
    | .int i => some (.dat (.int (-i)), ρ)
    | _ => none
  | .not a =>
    { v := fun ρ => do
        let (x, ρ) ← (sem a).v ρ
        let b ← (res ρ x).bind truD
        some (.dat (.bool (!b)), ρ)
      t := fun ρ => do
        let (b, ρ) ← (sem a).t ρ
        some (!b, ρ) }
  | .and a b =>
    { v := fun ρ => do
        let (x, ρ) ← (sem a).v ρ
        let k ← (res ρ x).bind truD
        if k then (sem b).v ρ else some (x, ρ)
      t := fun ρ => do
        let (k, ρ) ← (sem a).t ρ
        if k then (sem b).t ρ else some (false, ρ) }
  | .or a b =>
    { v := fun ρ => do
        let (x, ρ) ← (sem a).v ρ
        let k ← (res ρ x).bind truD
        if k then some (x, ρ) else (sem b).v ρ
      t := fun ρ => do
        let (k, ρ) ← (sem a).t ρ
        if k then some (true, ρ) else (sem b).t ρ }
  | .cmp op a b => ofV (bothV (sem a).v (sem b).v fun x y => (cmpD op x y).map fun k => (.bool k, false))
  | .chain op op' a b c => ofV fun ρ => do
    let (x, ρ) ← (sem a).v ρ
    let (y, ρ) ← (sem b).v ρ
    let x ← res ρ x
    let y' ← res ρ y
    let k ← cmpD op x y'
    if k then do
      let (z, ρ) ← (sem c).v ρ
      let y' ← res ρ y
      let z ← res ρ z
      let k ← cmpD op' y' z
      some (.dat (.bool k), ρ)
    else some (.dat (.bool false), ρ)
  | .ite c a b =>
    { v := fun ρ => do
        let (k, ρ) ← (sem c).t ρ
        if k then (sem a).v ρ else (sem b).v ρ
      t := fun ρ => do
        let (k, ρ) ← (sem c).t ρ
        if k then (sem a).t ρ else (sem b).t ρ }
  | .tup es => ofV fun ρ => do
    let (rs, ρ) ← semL es ρ
    let (ds, ρ) ← frzAll rs ρ
    if ds.length ≤ sizeLine then some (.dat (.tuple ds), ρ) else none
  | .lst es => ofV fun ρ => do
    let (rs, ρ) ← semL es ρ
    let (ds, ρ) ← frzAll rs ρ
    if ds.length ≤ sizeLine then some (.frs (.list ds), ρ) else none
  | .dic kvs => ofV fun ρ => none
  | .idx a i => ofV (bothV (sem a).v (sem i).v fun x y => (idxD x y).map fun d => (d, false))
  | .slc a lo hi => ofV fun ρ => do
    let (x, ρ) ← (sem a).v ρ
    let (l, ρ) ← semO lo ρ
    let (h, ρ) ← semO hi ρ
    let x ← res ρ x
    let z ← slcD x l h
    some (mkR z, ρ)
  | .rev a => ofV fun ρ => do
    let (x, ρ) ← (sem a).v ρ
    let x ← res ρ x
    let z ← revD x
    some (mkR z, ρ)
  | .call f es => ofV fun ρ => do
    let (rs, ρ) ← semL es ρ
    callR (T f) (F f) rs ρ
  | .bf b es => ofV fun ρ => do
    let (rs, ρ) ← semL es ρ
    let ds ← rs.mapM (res ρ)
    let z ← bfD b ds
    some (mkR z, ρ)
  | .isi a tys => ofV fun ρ => do
    let (x, ρ) ← (sem a).v ρ
    let d ← res ρ x
    some (.dat (.bool (tys.any (tyOf d))), ρ)
  | .own m i es => ofV fun ρ => match Env.at ρ i with
    | some (.own _ _) => do
      let (rs, ρ) ← semL es ρ
      let (ds, ρ) ← frzAll rs ρ
      match Env.at ρ i with
      | some (.own l d) => do
        let (y, d) ← ownMeth m d ds
        some (.dat y, ρ.set i (some (.own l d)))
      | _ => none
    | _ => none
  | .meth m o es => ofV fun ρ => do
    let (x, ρ) ← (sem o).v ρ
    let d ← res ρ x
    if mtOk m d then do
      let (rs, ρ) ← semL es ρ
      let d ← res ρ x
      let ds ← rs.mapM (res ρ)
      let z ← datMeth m d ds
      some (mkR z, ρ)
    else none
  | .lc elt t it cond own => ofV fun ρ => do
    let (ds, ρ) ← semI it ρ
    if noOwn ρ own then do
      let (xs, ρ') ← lcD (fun d ρ => do
        let ρ ← setTg t d (wipeE ρ own)
        let (k, ρ) ← semC cond ρ
        if k then do
          let (r, ρ) ← (sem elt).v ρ
          let (x, ρ) ← frz ρ r
          some (some x, ρ)
        else some (none, ρ)) ds ρ
      if xs.length ≤ sizeLine then some (.frs (.list xs), backE ρ ρ' own) else none
    else none
def semL : List E → Env → Option (List R × Env)
  | [], ρ => some ([], ρ)
  | e :: es, ρ => do
    let (r, ρ) ← (sem e).v ρ
    let (rs, ρ) ← semL es ρ
    some (r :: rs, ρ)
def semO : Option E → Env → Option (Option Int × Env)
  | none, ρ => some (none, ρ)
  | some e, ρ => do
    let (r, ρ) ← (sem e).v ρ
    match ← res ρ r with
    | .int i => some (some i, ρ)
    | _ => none
def semC : Option E → Env → Option (Bool × Env)
  | none, ρ => some (true, ρ)
  | some e, ρ => (sem e).t ρ
def semI : It → Env → Option (List D × Env)
  | .seq e, ρ => do
    let (r, ρ) ← (sem e).v ρ
    let (d, ρ) ← frz ρ r
    let ds ← itemsD d
    some (ds, ρ)
  | .range1 e, ρ => do
    let (r, ρ) ← (sem e).v ρ
    match ← res ρ r with
    | .int n => if okInt n then some (rangeD 0 n.toNat, ρ) else none
    | _ => none
  | .range2 a b, ρ => do
    let (x, ρ) ← (sem a).v ρ
    let (y, ρ) ← (sem b).v ρ
    match ← res ρ x, ← res ρ y with
    | .int i, .int j => if okInt i && okInt j then some (rangeD i (j - i).toNat, ρ) else none
    | _, _ => none
  | .enum e, ρ => do
    let (r, ρ) ← (sem e).v ρ
    let (d, ρ) ← frz ρ r
    let ds ← itemsD d
    some (enumFrom 0 ds, ρ)
  | .zip a b, ρ => do
    let (x, ρ) ← (sem a).v ρ
    let (y, ρ) ← (sem b).v ρ
    let (x, ρ) ← frz ρ x
    let (y, ρ) ← frz ρ y
    match x, y with
    | .list xs, .list ys => some (zipD xs ys, ρ)
    | .tuple xs, .tuple ys => some (zipD xs ys, ρ)
    | _, _ => none
  | .rev e, ρ => do
    let (r, ρ) ← (sem e).v ρ
    let (d, ρ) ← frz ρ r
    let ds ← itemsD d
    some (ds.reverse, ρ)
end

mutual
def run : S → Env → Option (Fl × Env)
  | .asg t e, ρ => do
    let (r, ρ) ← (sem T F e).v ρ
    let ρ ← setR t r ρ
    some (.nx, ρ)
  | .sub i ix e, ρ => match Env.at ρ i with
    | some (.own _ _) => do
      let (r, ρ) ← (sem T F e).v ρ
      let (d, ρ) ← frz ρ r
      let (k, ρ) ← (sem T F ix).v ρ
      let k ← res ρ k
      setAt i d k ρ
    | _ => none
  | .inc i e, ρ => match Env.at ρ i with
    | some (.shr (.int x)) => do
      let (r, ρ) ← (sem T F e).v ρ
      match ← res ρ r with
      | .int y => if okSlot ρ i then some (.nx, ρ.set i (some (.shr (.int (x + y))))) else none
      | _ => none
    | _ => none
  | .expr e, ρ => do
    let (_, ρ) ← (sem T F e).v ρ
    some (.nx, ρ)
  | .ret e, ρ => do
    let (r, ρ) ← (sem T F e).v ρ
    match r with
    | .bor i => match Env.at ρ i with
      | some (.own false d) => some (.rt (.frs d), ρ.set i none)
      | _ => none
    | r => some (.rt r, ρ)
  | .ite c a b, ρ => do
    let (k, ρ) ← (sem T F c).t ρ
    if k then runs a ρ else runs b ρ
  | .whil c b, ρ => whlD (sem T F c).t (runs b) ρ
  | .for t it b, ρ => do
    let (ds, ρ) ← semI T F it ρ
    forD (fun d ρ => do
      let ρ ← setTg t d ρ
      runs b ρ) ds ρ
  | .pass, ρ => some (.nx, ρ)
  | .brk, ρ => some (.bk, ρ)
  | .cont, ρ => some (.ct, ρ)
def runs : List S → Env → Option (Fl × Env)
  | [], ρ => some (.nx, ρ)
  | s :: ss, ρ => do
    let (fl, ρ) ← run s ρ
    match fl with
    | .nx => runs ss ρ
    | fl => some (fl, ρ)
end
end

def cellOf : Arg → Option Cell
  | .shr d => some (.shr d)
  | .own d => some (.own true d)
/-- the lent parameters behind the def -/
def outsOf : List Bool → Env → Option (List D)
  | [], _ => some []
  | false :: ls, _ :: ρ => outsOf ls ρ
  | true :: ls, some (.own true d) :: ρ => (outsOf ls ρ).map (d :: ·)
  | _, _ => none
def argsFit : List Bool → List Arg → Bool
  | [], [] => true
  | false :: ls, .shr _ :: as => argsFit ls as
  | true :: ls, .own _ :: as => argsFit ls as
  | _, _ => false
def runDef (T : Nat → Option (List Bool)) (F : Nat → List Arg → Option (R × List D)) (f : MDef) (as : List Arg) : Option (R × List D) :=
  if argsFit f.lent as && decide (as.length ≤ f.slots) then do
    let (fl, ρ) ← runs T F f.body (as.map cellOf ++ List.replicate (f.slots - as.length) none)
    let os ← outsOf f.lent ρ
    match fl with
    | .nx => some (.dat .none, os)
    | .rt r => some (r, os)
    | _ => none
  else none
def lentOf (T : List MDef) (f : Nat) : Option (List Bool) := (T[f]?).map (·.lent)
/-- k calls, one in another -/
def callD (T : List MDef) : Nat → Nat → List Arg → Option (R × List D)
  | 0, _, _ => none
  | k + 1, f, as => match T[f]? with
    | some m => runDef (lentOf T) (callD T k) m as
    | none => none
end Mp

namespace Mp
open PySem PySem.Spec L2

/-- written lists and tuples -/
def WL (K : PySem.W.Frag) (a : Addr) (xs : List V) : Prop :=
  ∃ (its : List Value) (n : Nat), K.lookup a = some { cls := .type "list", data := .seq its.toArray n } ∧ its.length ≤ sizeLine ∧ Vals xs its
def WT (K : PySem.W.Frag) (a : Addr) (xs : List V) : Prop :=
  ∃ (o : Obj) (its : Array Value) (n : Nat), K.lookup a = some o ∧ o.cls = .type "tuple" ∧ o.data = .seq its n ∧ its.size ≤ sizeLine ∧ Vals xs its.toList
/-- a scalar as the machine's value -/
def RelS : D → Value → Prop
  | .none, u => u = Value.none
  | .bool b, u => u = Value.bool b
  | .int i, u => ∃ t, u = Value.int i t
  | .str x, u => ∃ t, u = Value.str x t
  | _, _ => False
def scV : D → Option V
  | .none => some .non
  | .bool b => some (.bl b)
  | .int i => some (.int i)
  | .str x => some (.str x)
  | _ => none
theorem relS_v {d : D} {u : Value} (h : RelS d u) : ∃ v, scV d = some v ∧ RelV v u := by
  cases d with
  | none => exact ⟨_, rfl, h⟩
  | bool b => exact ⟨_, rfl, h⟩
  | int b => exact ⟨_, rfl, h⟩
  | str b => exact ⟨_, rfl, h⟩
  | _ => exact h.elim
/-- a written dict with texts as keys, scalars as values -/
structure WD (K : PySem.W.Frag) (w : World) (a : Addr) (kvs : List (D × D)) : Prop where
  ex : ∃ es n, K.lookup a = some ⟨.type "dict", none, .dict es n, #[]⟩ ∧ PySem.W.KeysLit w.params es.toList ∧ es.size = kvs.length
  sys : (a == sysModules) = false
  len : kvs.length ≤ sizeLine
  hit : ∀ x d, lookD kvs (.str x) = some d → ∃ u, PySem.W.nsIn K a x = some (some u) ∧ RelS d u
  miss : ∀ x, lookD kvs (.str x) = none → PySem.W.nsIn K a x = some none
abbrev Own := Addr → Prop
/-- keys as data -/
def kD : Key → D
  | .inl i => .int i
  | .inr x => .str x

section
variable (K : PySem.W.Frag) (w : World) (H : Hp) (B : Own)
mutual
/-- v is the data d; what it leads to is nobody's own -/
inductive Dq : V → D → Prop
  | non : Dq .non .none
  | bl (b : Bool) : Dq (.bl b) (.bool b)
  | int (i : Int) : Dq (.int i) (.int i)
  | str (x : Str) : Dq (.str x) (.str x)
  | lst {a : Addr} {xs : List V} {ds : List D} : Rd H a (.lst xs) → ¬ B a → Dqs xs ds → Dq (.ref a) (.list ds)
  | lstW {a : Addr} {xs : List V} {ds : List D} : WL K a xs → Dqs xs ds → Dq (.ref a) (.list ds)
  | tup {a : Addr} {xs : List V} {ds : List D} : Rd H a (.tup xs) → ¬ B a → Dqs xs ds → Dq (.ref a) (.tuple ds)
  | tupW {a : Addr} {xs : List V} {ds : List D} : WT K a xs → Dqs xs ds → Dq (.ref a) (.tuple ds)
  | dicW {a : Addr} {kvs : List (D × D)} : WD K w a kvs → Dq (.ref a) (.dict kvs)
inductive Dqs : List V → List D → Prop
  | nil : Dqs [] []
  | cons {v : V} {vs : List V} {d : D} {ds : List D} : Dq v d → Dqs vs ds → Dqs (v :: vs) (d :: ds)
end
/-- a list of someone's own at a -/
def OwnAt (a : Addr) : D → Prop
  | .list ds => B a ∧ ∃ xs, H a = some (.lst xs) ∧ Dqs K w H B xs ds
  | _ => False
end

section
variable {K : PySem.W.Frag} {w : World} {H H' : Hp} {B B' : Own}
/-- what is nobody's own stays as it is -/
def Keeps (H : Hp) (B : Own) (H' : Hp) (B' : Own) : Prop := ∀ a o, H a = some o → ¬ B a → H' a = some o ∧ ¬ B' a
theorem Rd.keeps {a : Addr} {u : HO} (k : Keeps H B H' B') (r : Rd H a u) (n : ¬ B a) : Rd H' a u ∧ ¬ B' a := by
  rcases r with r | ⟨o, r⟩
  · exact ⟨.inl (k a _ r n).1, (k a _ r n).2⟩
  · exact ⟨.inr ⟨o, (k a _ r n).1⟩, (k a _ r n).2⟩
mutual
theorem Dq.keeps (k : Keeps H B H' B') : ∀ (d : D) (v : V), Dq K w H B v d → Dq K w H' B' v d
  | .none, _, h => by cases h; exact .non
  | .bool _, _, h => by cases h; exact .bl _
  | .int _, _, h => by cases h; exact .int _
  | .str _, _, h => by cases h; exact .str _
  | .list ds, _, h => by
    cases h with
    | lst r n q => exact .lst (Rd.keeps k r n).1 (Rd.keeps k r n).2 (Dqs.keeps k ds _ q)
    | lstW r q => exact .lstW r (Dqs.keeps k ds _ q)
  | .tuple ds, _, h => by
    cases h with
    | tup r n q => exact .tup (Rd.keeps k r n).1 (Rd.keeps k r n).2 (Dqs.keeps k ds _ q)
    | tupW r q => exact .tupW r (Dqs.keeps k ds _ q)
  | .dict _, _, h => by
    cases h with
    | dicW r => exact .dicW r
theorem Dqs.keeps (k : Keeps H B H' B') : ∀ (ds : List D) (vs : List V), Dqs K w H B vs ds → Dqs K w H' B' vs ds
  | [], _, h => by cases h; exact .nil
  | d :: ds, _, h => by
    cases h with
    | cons h1 h2 => exact .cons (Dq.keeps k d _ h1) (Dqs.keeps k ds _ h2)
end
theorem Dqs.length : ∀ {ds : List D} {vs : List V}, Dqs K w H B vs ds → vs.length = ds.length
  | [], _, h => by cases h; rfl
  | _ :: _, _, h => by
    cases h with
    | cons _ h2 => rw [List.length_cons, List.length_cons, Dqs.length h2]
theorem Dqs.get : ∀ {ds : List D} {vs : List V} {i : Nat} {d : D}, Dqs K w H B vs ds → ds[i]? = some d → ∃ v, vs[i]? = some v ∧ Dq K w H B v d
  | [], _, _, _, _, e => by simp at e
  | _ :: _, _, 0, _, h, e => by
    cases h with
    | cons h1 h2 => simp at e; subst e; exact ⟨_, rfl, h1⟩
  | _ :: _, _, i + 1, _, h, e => by
    cases h with
    | cons h1 h2 =>
      obtain ⟨v, e1, e2⟩ := Dqs.get (i := i) h2 (by simpa using e)
      exact ⟨v, by simpa using e1, e2⟩
theorem Dqs.append : ∀ {ds es : List D} {vs us : List V}, Dqs K w H B vs ds → Dqs K w H B us es → Dqs K w H B (vs ++ us) (ds ++ es)
  | [], _, _, _, h, q => by cases h; exact q
  | _ :: _, _, _, _, h, q => by
    cases h with
    | cons h1 h2 => exact .cons h1 (Dqs.append h2 q)
theorem Dqs.one {v : V} {d : D} (h : Dq K w H B v d) : Dqs K w H B [v] [d] := .cons h .nil
theorem Dqs.drop : ∀ (n : Nat) {ds : List D} {vs : List V}, Dqs K w H B vs ds → Dqs K w H B (vs.drop n) (ds.drop n)
  | 0, _, _, h => h
  | n + 1, [], _, h => by cases h; exact .nil
  | n + 1, _ :: _, _, h => by
    cases h with
    | cons h1 h2 => exact Dqs.drop n h2
theorem Dqs.take : ∀ (n : Nat) {ds : List D} {vs : List V}, Dqs K w H B vs ds → Dqs K w H B (vs.take n) (ds.take n)
  | 0, _, _, h => .nil
  | n + 1, [], _, h => by cases h; exact .nil
  | n + 1, _ :: _, _, h => by
    cases h with
    | cons h1 h2 => exact .cons h1 (Dqs.take n h2)
theorem Dqs.reverse : ∀ {ds : List D} {vs : List V}, Dqs K w H B vs ds → Dqs K w H B vs.reverse ds.reverse
  | [], _, h => by cases h; exact .nil
  | _ :: _, _, h => by
    cases h with
    | cons h1 h2 =>
      rw [List.reverse_cons, List.reverse_cons]
      exact (Dqs.reverse h2).append (.one h1)
theorem Dqs.set : ∀ (n : Nat) {v : V} {d : D} {ds : List D} {vs : List V}, Dq K w H B v d → Dqs K w H B vs ds → Dqs K w H B (vs.set n v) (ds.set n d)
  | 0, _, _, [], _, _, h => by cases h; exact .nil
  | 0, _, _, _ :: _, _, q, h => by
    cases h with
    | cons h1 h2 => exact .cons q h2
  | n + 1, _, _, [], _, _, h => by cases h; exact .nil
  | n + 1, _, _, _ :: _, _, q, h => by
    cases h with
    | cons h1 h2 => exact .cons h1 (Dqs.set n q h2)
theorem Dqs.dropLast : ∀ {ds : List D} {vs : List V}, Dqs K w H B vs ds → Dqs K w H B vs.dropLast ds.dropLast := fun {ds vs} h => by
  rw [List.dropLast_eq_take, List.dropLast_eq_take, h.length]
  exact h.take _
/-- as the layer reads lists and tuples -/
theorem WL.sq {a : Addr} {xs : List V} (h : WL K a xs) : SqL K H a xs := by
  obtain ⟨its, n, e, z, r⟩ := h
  exact .inr ⟨_, its.toArray, n, e, rfl, rfl, rfl, by simpa using z, by simpa using r⟩
theorem WT.sq {a : Addr} {xs : List V} (h : WT K a xs) : SqT K H a xs := .inr h
theorem Dq.list {v : V} {ds : List D} (h : Dq K w H B v (.list ds)) : ∃ a xs, v = .ref a ∧ (Rd H a (.lst xs) ∨ WL K a xs) ∧ Dqs K w H B xs ds := by
  cases h with
  | lst r n q => exact ⟨_, _, rfl, .inl r, q⟩
  | lstW r q => exact ⟨_, _, rfl, .inr r, q⟩
theorem sq_of {a : Addr} {xs : List V} (h : Rd H a (.lst xs) ∨ WL K a xs) : SqL K H a xs := h.elim .inl WL.sq
theorem Dq.tuple {v : V} {ds : List D} (h : Dq K w H B v (.tuple ds)) : ∃ a xs, v = .ref a ∧ SqT K H a xs ∧ Dqs K w H B xs ds := by
  cases h with
  | tup r n q => exact ⟨_, _, rfl, .inl r, q⟩
  | tupW r q => exact ⟨_, _, rfl, r.sq, q⟩
theorem Dq.nonI {v : V} (h : Dq K w H B v .none) : v = .non := by cases h; rfl
theorem Dq.blI {v : V} {b : Bool} (h : Dq K w H B v (.bool b)) : v = .bl b := by cases h; rfl
theorem Dq.intI {v : V} {b : Int} (h : Dq K w H B v (.int b)) : v = .int b := by cases h; rfl
theorem Dq.strI {v : V} {b : Str} (h : Dq K w H B v (.str b)) : v = .str b := by cases h; rfl
theorem OwnAt.list {a : Addr} {d : D} (h : OwnAt K w H B a d) : ∃ ds xs, d = .list ds ∧ B a ∧ H a = some (.lst xs) ∧ Dqs K w H B xs ds := by
  cases d with
  | list ds => obtain ⟨b, xs, e, q⟩ := h; exact ⟨ds, xs, rfl, b, e, q⟩
  | _ => exact h.elim
theorem OwnAt.there {a : Addr} {d : D} (h : OwnAt K w H B a d) : B a ∧ ∃ o, H a = some o := by
  obtain ⟨_, _, _, b, e, _⟩ := h.list
  exact ⟨b, _, e⟩
theorem OwnAt.keeps {a : Addr} {d : D} (k : Keeps H B H' B') (b : B' a) (e : H' a = H a) (h : OwnAt K w H B a d) : OwnAt K w H' B' a d := by
  obtain ⟨ds, xs, rfl, _, h1, q⟩ := h.list
  exact ⟨b, xs, e.trans h1, Dqs.keeps k _ _ q⟩

/-! ### a step: M the addresses that it may change -/
structure Stp (M : Own) (H : Hp) (B : Own) (H' : Hp) (B' : Own) : Prop where
  keep : ∀ a o, H a = some o → ¬ M a → H' a = some o ∧ (B' a ↔ B a)
  tr : ∀ a, H a ≠ none → H' a ≠ none
  fr : ∀ a, M a → B a
theorem Stp.refl {M : Own} (h : ∀ a, M a → B a) : Stp M H B H B := ⟨fun _ _ e _ => ⟨e, Iff.rfl⟩, fun _ h => h, h⟩
theorem Stp.keeps {M : Own} (s : Stp M H B H' B') : Keeps H B H' B' := fun a o e n => by
  have nm : ¬ M a := fun m => n (s.fr a m)
  obtain ⟨h1, h2⟩ := s.keep a o e nm
  exact ⟨h1, fun z => n (h2.mp z)⟩
theorem Stp.trans {M M2 : Own} {H2 : Hp} {B2 : Own} (s : Stp M H B H' B') (t : Stp M2 H' B' H2 B2) (h : ∀ a, H a ≠ none → M2 a → M a) : Stp M H B H2 B2 :=
  ⟨fun a o e n => by
    obtain ⟨h1, h2⟩ := s.keep a o e n
    obtain ⟨h3, h4⟩ := t.keep a o h1 fun m => n (h a (by rw [e]; simp) m)
    exact ⟨h3, h4.trans h2⟩, fun a z => t.tr a (s.tr a z), s.fr⟩
theorem Stp.mono {M M2 : Own} (s : Stp M H B H' B') (h : ∀ a, M a → M2 a) (h2 : ∀ a, M2 a → B a) : Stp M2 H B H' B' :=
  ⟨fun a o e n => s.keep a o e fun m => n (h a m), s.tr, h2⟩

/-! ### slots -/
/-- the slots hold what ρ says -/
structure Rel (K : PySem.W.Frag) (w : World) (σ : St) (H : Hp) (B : Own) (ρ : Env) : Prop where
  len : σ.length = ρ.length
  shr : ∀ i d, Env.at ρ i = some (.shr d) → ∃ v, σ[i]? = some (some v) ∧ Dq K w H B v d
  own : ∀ i l d, Env.at ρ i = some (.own l d) → ∃ a, σ[i]? = some (some (.ref a)) ∧ OwnAt K w H B a d
  one : ∀ i j l d l' d' a, Env.at ρ i = some (.own l d) → Env.at ρ j = some (.own l' d') → σ[i]? = some (some (.ref a)) → σ[j]? = some (some (.ref a)) → i = j
/-- the addresses that the slots own -/
def OA (σ : St) (ρ : Env) : Own := fun a => ∃ i l d, Env.at ρ i = some (.own l d) ∧ σ[i]? = some (some (.ref a))
theorem Rel.oaB {σ : St} {ρ : Env} (r : Rel K w σ H B ρ) : ∀ a, OA σ ρ a → B a := fun a ⟨i, l, d, e, z⟩ => by
  obtain ⟨a', e', o⟩ := r.own i l d e
  rw [z] at e'
  cases e'
  exact o.there.1
theorem Rel.oaH {σ : St} {ρ : Env} (r : Rel K w σ H B ρ) : ∀ a, OA σ ρ a → H a ≠ none := fun a ⟨i, l, d, e, z⟩ => by
  obtain ⟨a', e', o⟩ := r.own i l d e
  rw [z] at e'
  cases e'
  obtain ⟨_, h, q⟩ := o.there
  rw [q]
  simp
/-- a value's relation; H0 the heap ahead of the expression: what is new was not there -/
def RR (K : PySem.W.Frag) (w : World) (σ : St) (ρ : Env) (H0 H : Hp) (B : Own) (v : V) : R → Prop
  | .dat d => Dq K w H B v d
  | .frs d => ∃ a, v = .ref a ∧ H0 a = none ∧ OwnAt K w H B a d
  | .bor i => σ[i]? = some (some v) ∧ (∃ c, Env.at ρ i = some c)
theorem at_set {ρ : Env} {i j : Nat} {c : Option Cell} : Env.at (ρ.set i c) j = if i = j ∧ i < ρ.length then c else Env.at ρ j := by
  unfold Env.at
  rw [List.getElem?_set]
  by_cases h : i = j
  · subst h
    by_cases h2 : i < ρ.length
    · simp [h2]
    · rw [if_pos rfl, if_neg h2, if_neg (fun z => h2 z.2), List.getElem?_eq_none (by omega)]
  · rw [if_neg h, if_neg (fun z => h z.1)]
theorem at_lt {ρ : Env} {i : Nat} {c : Cell} (h : Env.at ρ i = some c) : i < ρ.length := by
  unfold Env.at at h
  by_cases h2 : i < ρ.length
  · exact h2
  · rw [List.getElem?_eq_none (by omega)] at h; cases h
/-- a step that spares the slots' own -/
theorem Rel.stp {M : Own} {σ : St} {ρ : Env} (r : Rel K w σ H B ρ) (s : Stp M H B H' B') (h : ∀ a, OA σ ρ a → ¬ M a) : Rel K w σ H' B' ρ := by
  refine ⟨r.len, fun i d e => ?_, fun i l d e => ?_, r.one⟩
  · obtain ⟨v, h1, h2⟩ := r.shr i d e
    exact ⟨v, h1, h2.keeps s.keeps⟩
  · obtain ⟨a, h1, h2⟩ := r.own i l d e
    obtain ⟨b, o, h3⟩ := h2.there
    obtain ⟨h4, h5⟩ := s.keep a o h3 (h a ⟨i, l, d, e, h1⟩)
    exact ⟨a, h1, h2.keeps s.keeps (h5.mpr b) (h4.trans h3.symm)⟩
/-- nothing is changed but new things -/
theorem stp_new {M : Own} {p : Addr} {o : HO} (np : H p = none) (h : ∀ a, M a → B a) : Stp M H B (upd H p o) B := ⟨fun a u e n => ⟨by rw [upd_ne (ne_of_none e np)]; exact e, Iff.rfl⟩, fun a z => by
    by_cases e : a = p
    · subst e; exact absurd np z
    · rw [upd_ne e]; exact z, h⟩
/-- a new thing that is nobody's own -/
theorem stp_new' {M : Own} {p : Addr} {o : HO} (np : H p = none) (h : ∀ a, M a → B a) : Stp M H B (upd H p o) (fun a => B a ∧ a ≠ p) := ⟨fun a u e n => ⟨by rw [upd_ne (ne_of_none e np)]; exact e, ⟨fun z => z.1, fun z => ⟨z, ne_of_none e np⟩⟩⟩, fun a z => by
    by_cases e : a = p
    · subst e; exact absurd np z
    · rw [upd_ne e]; exact z, h⟩
/-- a new thing of one's own -/
theorem stp_own {M : Own} {p : Addr} {o : HO} (np : H p = none) (h : ∀ a, M a → B a) : Stp M H B (upd H p o) (fun a => B a ∨ a = p) := ⟨fun a u e n => ⟨by rw [upd_ne (ne_of_none e np)]; exact e, ⟨fun z => z.elim id fun z => absurd z (ne_of_none e np), .inl⟩⟩, fun a z => by
    by_cases e : a = p
    · subst e; exact absurd np z
    · rw [upd_ne e]; exact z, h⟩
/-- an own thing is changed -/
theorem stp_set {M : Own} {p : Addr} {o : HO} (mp : M p) (h : ∀ a, M a → B a) : Stp M H B (upd H p o) B := ⟨fun a u e n => ⟨by rw [upd_ne (fun z => n (by rw [z]; exact mp))]; exact e, Iff.rfl⟩, fun a z => by
    by_cases e : a = p
    · subst e; rw [upd_same]; simp
    · rw [upd_ne e]; exact z, h⟩
/-- an own thing is no more one's own -/
theorem stp_frz {M : Own} {p : Addr} (mp : M p) (h : ∀ a, M a → B a) : Stp M H B H (fun a => B a ∧ a ≠ p) := ⟨fun a u e n => ⟨e, ⟨fun z => z.1, fun z => ⟨z, fun y => n (y ▸ mp)⟩⟩⟩, fun _ z => z, h⟩
end
end Mp

namespace Mp
open PySem PySem.Spec L2

/-- a looked-at value: data, or a list of someone's own -/
def Vr (K : PySem.W.Frag) (w : World) (H : Hp) (B : Own) (x : V) (d : D) : Prop := Dq K w H B x d ∨ ∃ p, x = .ref p ∧ OwnAt K w H B p d
/-- an operation's answer -/
structure Out (K : PySem.W.Frag) (w : World) (H : Hp) (B : Own) (z : D × Bool) (x : V) (H' : Hp) (B' : Own) : Prop where
  st : ∀ M : Own, (∀ a, M a → B a) → Stp M H B H' B'
  va : if z.2 = true then ∃ a, x = .ref a ∧ H a = none ∧ OwnAt K w H' B' a z.1 else Dq K w H' B' x z.1
def rB (K : PySem.W.Frag) (w : World) (g : D → D → Option (D × Bool)) : R2 := fun x y H Q => ∃ B a b z, Vr K w H B x a ∧ Vr K w H B y b ∧ g a b = some z ∧ ∀ x' H' B', Out K w H B z x' H' B' → Q x' H'

section
variable {K : PySem.W.Frag} {w : World} {H H' : Hp} {B B' : Own} {x y : V}
theorem Vr.list {ds : List D} (h : Vr K w H B x (.list ds)) : ∃ a xs, x = .ref a ∧ (Rd H a (.lst xs) ∨ WL K a xs) ∧ Dqs K w H B xs ds := by
  rcases h with h | ⟨p, rfl, h⟩
  · exact h.list
  · obtain ⟨b, xs, e, q⟩ := h
    exact ⟨p, xs, rfl, .inl (.inl e), q⟩
theorem Vr.tuple {ds : List D} (h : Vr K w H B x (.tuple ds)) : ∃ a xs, x = .ref a ∧ SqT K H a xs ∧ Dqs K w H B xs ds := by
  rcases h with h | ⟨p, rfl, h⟩
  · exact h.tuple
  · exact h.elim
theorem Vr.dq {d : D} (h : Vr K w H B x d) (n : ∀ ds, d ≠ .list ds) : Dq K w H B x d := by
  rcases h with h | ⟨p, rfl, h⟩
  · exact h
  · obtain ⟨ds, _, e, _⟩ := h.list
    exact absurd e (n ds)
theorem Vr.int {i : Int} (h : Vr K w H B x (.int i)) : x = .int i := (h.dq fun _ z => by cases z).intI
theorem Vr.str {i : Str} (h : Vr K w H B x (.str i)) : x = .str i := (h.dq fun _ z => by cases z).strI
theorem Vr.bl {i : Bool} (h : Vr K w H B x (.bool i)) : x = .bl i := (h.dq fun _ z => by cases z).blI
theorem Vr.non (h : Vr K w H B x .none) : x = .non := (h.dq fun _ z => by cases z).nonI
theorem dq_int (i : Int) : Dq K w H B (.int i) (.int i) := .int i
/-- the answer is data that was there -/
theorem Out.same {d : D} (h : Dq K w H B x d) : Out K w H B (d, false) x H B := ⟨fun _ h => .refl h, by rw [if_neg (by simp)]; exact h⟩
theorem dq_upd {p : Addr} {o : HO} (np : H p = none) {v : V} {d : D} (h : Dq K w H B v d) : Dq K w (upd H p o) B v d := h.keeps (stp_new (M := fun _ => False) np fun _ z => z.elim).keeps
theorem dqs_upd {p : Addr} {o : HO} (np : H p = none) {v : List V} {d : List D} (h : Dqs K w H B v d) : Dqs K w (upd H p o) B v d := h.keeps (stp_new (M := fun _ => False) np fun _ z => z.elim).keeps
/-- the answer is a new tuple -/
theorem Out.tup {p : Addr} {xs : List V} {ds : List D} (np : H p = none) (h : Dqs K w H B xs ds) : Out K w H B (.tuple ds, false) (.ref p) (upd H p (.tup xs)) (fun a => B a ∧ a ≠ p) :=
  ⟨fun _ h => stp_new' np h, by rw [if_neg (by simp)]; exact .tup (.inl upd_same) (fun z => z.2 rfl) (h.keeps (stp_new' (M := fun _ => False) np fun _ z => z.elim).keeps)⟩
/-- the answer is a new list -/
theorem Out.lst {p : Addr} {xs : List V} {ds : List D} (np : H p = none) (h : Dqs K w H B xs ds) : Out K w H B (.list ds, true) (.ref p) (upd H p (.lst xs)) (fun a => B a ∨ a = p) :=
  ⟨fun _ h => stp_own np h, by rw [if_pos rfl]; exact ⟨p, rfl, np, .inr rfl, xs, upd_same, h.keeps (stp_own (M := fun _ => False) np fun _ z => z.elim).keeps⟩⟩
end

section
variable {X : Cx}
/-- the list object at a -/
theorem lst_at {pins : List (Addr × Obj)} {s : Shared} {σ : St} {H : Hp} {a : Addr} {xs : List V} (I : Inv X pins σ H s) (h : Rd H a (.lst xs) ∨ WL X.K a xs) :
    ∃ (its : List Value) (n : Nat), Vals xs its ∧ xs.length = its.length ∧ xs.length ≤ sizeLine ∧ s.heap.get? a = some { cls := .type "list", data := .seq its.toArray n } := by
  rcases h with h | ⟨its, n, e, z, r⟩
  · obtain ⟨z, its, n, r, e⟩ := h.ok I.hok
    exact ⟨its, n, r, r.length, z, e⟩
  · exact ⟨its, n, r, r.length, by rw [r.length]; exact z, I.kIn a _ e⟩
theorem ob_add : OpR X (binaryOp .Add) (rB X.K X.w addD) := by
  intro pins s σ H x y v u Q I rx ry h
  obtain ⟨B, a, b, z, va, vb, e, q⟩ := h
  unfold addD at e
  split at e
  · cases va.int; cases vb.int; cases e
    exact op_add pins s σ H _ _ v u Q I rx ry ⟨_, _, rfl, rfl, q _ _ _ (.same (.int _))⟩
  · cases va.str; cases vb.str
    split at e
    · cases e
      rename_i hz
      exact op_add_str pins s σ H _ _ v u Q I rx ry ⟨_, _, rfl, rfl, hz, q _ _ _ (.same (.str _))⟩
    · cases e
  · split at e
    · cases e
      rename_i hz
      obtain ⟨p, xs, rfl, h1, d1⟩ := va.list
      obtain ⟨p2, ys, rfl, h2, d2⟩ := vb.list
      cases rx
      cases ry
      obtain ⟨its, n, r, hl, hs, e1⟩ := lst_at I h1
      obtain ⟨its2, n2, r2, hl2, hs2, e2⟩ := lst_at I h2
      have hz' : its.length + its2.length ≤ sizeLine := by rw [← hl, ← hl2, d1.length, d2.length]; exact hz
      refine PySem.P.add_list e1 e2 ?_ (by rw [List.size_toArray, List.size_toArray]; exact hz')
      have ea : its.toArray ++ its2.toArray = (its ++ its2).toArray := by simp
      rw [ea]
      exact ⟨.ref _, _, I.lnew (t' := s.toks) (r.append r2) (by rw [List.length_append]; omega), rfl, q _ _ _ (.lst I.fresh (d1.append d2))⟩
    · cases e
  · split at e
    · cases e
      rename_i xs0 ys0 hz
      obtain ⟨p, xs, rfl, h1, d1⟩ := va.tuple
      obtain ⟨p2, ys, rfl, h2, d2⟩ := vb.tuple
      have k1 := d1.length
      have k2 := d2.length
      refine op_catA pins s σ H _ _ v u Q I rx ry ⟨_, _, _, _, rfl, rfl, h1, h2, by omega, fun e => ?_, fun _ e => ?_, fun _ _ p np => ?_⟩
      · subst e
        have : xs0 = [] := by cases xs0 with | nil => rfl | cons => simp at k1
        subst this
        exact q _ _ _ (.same (vb.dq fun _ z => by cases z))
      · subst e
        have : ys0 = [] := by cases ys0 with | nil => rfl | cons => simp at k2
        subst this
        rw [List.append_nil] at q
        exact q _ _ _ (.same (va.dq fun _ z => by cases z))
      · exact q _ _ _ (.tup np (d1.append d2))
    · cases e
  · cases e
theorem int2_inv {f : Int → Int → Option D} {a b : D} {z : D × Bool} (e : int2 f a b = some z) : ∃ i j k, a = .int i ∧ b = .int j ∧ f i j = some k ∧ z = (k, false) := by
  unfold int2 at e
  split at e
  · cases h : f _ _ with
    | none => rw [h] at e; cases e
    | some k => rw [h] at e; cases e; exact ⟨_, _, _, rfl, rfl, h, rfl⟩
  · cases e
theorem ob_int {op : Operator} {C : Int → Int → Prop} {g : Int → Int → Int} {f : Int → Int → Option D} (ho : OpR X (binaryOp op) (rI C fun i j => .int (g i j)))
    (hf : ∀ i j k, f i j = some k → C i j ∧ k = .int (g i j)) : OpR X (binaryOp op) (rB X.K X.w (int2 f)) := by
  intro pins s σ H x y v u Q I rx ry h
  obtain ⟨B, a, b, z, va, vb, e, q⟩ := h
  obtain ⟨i, j, k, rfl, rfl, e2, rfl⟩ := int2_inv e
  obtain ⟨hc, rfl⟩ := hf i j k e2
  cases va.int; cases vb.int
  exact ho pins s σ H _ _ v u Q I rx ry ⟨_, _, rfl, rfl, hc, q _ _ _ (.same (.int _))⟩
theorem op_fdivA : OpR X (binaryOp .FloorDiv) (rI (fun _ j => divOk j = true) fun i j => .int (i.fdiv j)) := opI fun i j _ _ _ _ _ hc q => by
  obtain ⟨h1, h2⟩ := of_decide_eq_true hc
  exact PyProof.Rows.floordiv_int h1 q (.inl (PyProof.noPylong_of_log2 h2))
theorem ob_bin (op : Op) : OpR X (binaryOp (match op with | .add => .Add | .sub => .Sub | .mul => .Mult | .fdiv => .FloorDiv | .mod => .Mod | .pow => .Pow)) (rB X.K X.w (binD op)) := by
  cases op with
  | add => exact ob_add
  | sub => exact ob_int (C := fun _ _ => True) (g := fun i j => i - j) (opI fun _ _ _ _ _ _ _ _ q => PyProof.Rows.sub_int q) fun i j k h => ⟨trivial, by cases h; rfl⟩
  | mul =>
    refine ob_int op_mul fun i j k h => ?_
    split at h
    · cases h
      rename_i h
      refine ⟨?_, rfl⟩
      unfold mulOk at h
      rw [Bool.or_eq_true] at h
      exact h.elim (fun h => .inl (of_decide_eq_true h)) fun h => .inr (of_decide_eq_true h)
    · cases h
  | fdiv =>
    refine ob_int op_fdivA fun i j k h => ?_
    split at h
    · cases h
      rename_i h
      exact ⟨h, rfl⟩
    · cases h
  | mod =>
    refine ob_int op_modN fun i j k h => ?_
    split at h
    · cases h
    · cases h
      rename_i h
      exact ⟨h, rfl⟩
  | pow =>
    refine ob_int op_pow fun i j k h => ?_
    split at h
    · cases h
      rename_i h
      unfold powOk at h
      have h2 := of_decide_eq_true h
      exact ⟨h2, rfl⟩
    · cases h

/-! ### == -/
mutual
theorem dp_of {H : Hp} {B : Own} {w : World} {K : PySem.W.Frag} : ∀ (d : D) (v : V), d.canLay0 = true → Dq K w H B v d → Dp K H v d
  | .none, _, _, h => by cases h; exact .non
  | .bool _, _, _, h => by cases h; exact .bl _
  | .int _, _, _, h => by cases h; exact .int _
  | .str _, _, _, h => by cases h; exact .str _
  | .list ds, _, l, h => by
    obtain ⟨a, xs, rfl, h1, h2⟩ := h.list
    exact .lst (sq_of h1) (dps_of ds xs l h2)
  | .tuple ds, _, l, h => by
    obtain ⟨a, xs, rfl, h1, h2⟩ := h.tuple
    exact .tup h1 (dps_of ds xs l h2)
  | .dict _, _, l, _ => by simp [PyData.canLay0] at l
theorem dps_of {H : Hp} {B : Own} {w : World} {K : PySem.W.Frag} : ∀ (ds : List D) (vs : List V), PyData.canLayAll0 ds = true → Dqs K w H B vs ds → DpAll K H vs ds
  | [], _, _, h => by cases h; exact .nil
  | d :: ds, _, l, h => by
    have l' : (d.canLay0 && PyData.canLayAll0 ds) = true := l
    rw [Bool.and_eq_true] at l'
    cases h with
    | cons h1 h2 => exact .cons (dp_of d _ l'.1 h1) (dps_of ds _ l'.2 h2)
end
theorem vr_dp {H : Hp} {B : Own} {w : World} {K : PySem.W.Frag} {d : D} {v : V} (l : d.canLay0 = true) (h : Vr K w H B v d) : Dp K H v d := by
  rcases h with h | ⟨p, rfl, h⟩
  · exact dp_of d v l h
  · obtain ⟨ds, xs, rfl, _, e, q⟩ := h.list
    exact .lst (.inl (.inl e)) (dps_of ds xs l q)
/-- room for deep comparisons -/
abbrev Deep (A : Around) : Prop := A.units + 300 < cLine
theorem laid_inv {d : D} (h : laid d = true) : d.canLay0 = true ∧ d.depth ≤ 150 := by
  unfold laid at h
  rw [Bool.and_eq_true] at h
  exact ⟨h.1, of_decide_eq_true h.2⟩
theorem eq_laid (hu : Deep X.A) {pins : List (Addr × Obj)} {s : Shared} {σ : St} {H : Hp} {x y : V} {v u : Value} {a b : D} {Q : Value → Shared → Prop} {B : Own} (I : Inv X pins σ H s) (rx : RelV x v) (ry : RelV y u)
    (va : Vr X.K X.w H B x a) (vb : Vr X.K X.w H B y b) (la : laid a = true) (lb : laid b = true) (q : Q (.bool (PyData.eqv a b)) s) : wpAny (model X.prog X.w) X.A (compareOp .Eq v u) Q X.xe s := by
  obtain ⟨as, r1⟩ := Dp.reads I a x v (vr_dp (laid_inv la).1 va) rx
  obtain ⟨bs, r2⟩ := Dp.reads I b y u (vr_dp (laid_inv lb).1 vb) ry
  have := (laid_inv la).2
  have hu' : X.A.units + 300 < cLine := hu
  exact SeqAt.compareEq_reads r1 r2 (laid_inv la).1 (laid_inv lb).1 (by have := Nat.min_le_left a.depth b.depth; omega) q
theorem ne_laid (hu : Deep X.A) {pins : List (Addr × Obj)} {s : Shared} {σ : St} {H : Hp} {x y : V} {v u : Value} {a b : D} {Q : Value → Shared → Prop} {B : Own} (I : Inv X pins σ H s) (rx : RelV x v) (ry : RelV y u)
    (va : Vr X.K X.w H B x a) (vb : Vr X.K X.w H B y b) (la : laid a = true) (lb : laid b = true) (q : Q (.bool (!PyData.eqv a b)) s) : wpAny (model X.prog X.w) X.A (compareOp .NotEq v u) Q X.xe s := by
  obtain ⟨as, r1⟩ := Dp.reads I a x v (vr_dp (laid_inv la).1 va) rx
  obtain ⟨bs, r2⟩ := Dp.reads I b y u (vr_dp (laid_inv lb).1 vb) ry
  have := (laid_inv la).2
  have hu' : X.A.units + 300 < cLine := hu
  exact SeqAt.compareNe_reads r1 r2 (laid_inv la).1 (laid_inv lb).1 (by have := Nat.min_le_left a.depth b.depth; omega) q
def bD (f : D → D → Option Bool) : D → D → Option (D × Bool) := fun x y => (f x y).map fun k => (.bool k, false)
theorem bD_inv {f : D → D → Option Bool} {a b : D} {z : D × Bool} (e : bD f a b = some z) : ∃ k, f a b = some k ∧ z = (.bool k, false) := by
  unfold bD at e
  cases h : f a b with
  | none => rw [h] at e; cases e
  | some k => rw [h] at e; cases e; exact ⟨_, rfl, rfl⟩
theorem ob_cmp {op : CmpOp} {f : D → D → Option Bool}
    (h : ∀ (pins : List (Addr × Obj)) (s : Shared) (σ : St) (H : Hp) (x y : V) (v u : Value) (a b : D) (B : Own) (k : Bool) (Q : VK), Inv X pins σ H s → RelV x v → RelV y u → Vr X.K X.w H B x a → Vr X.K X.w H B y b → f a b = some k → Q (.bl k) H →
      wpAny (model X.prog X.w) X.A (compareOp op v u) (EP X pins σ Q) X.xe s) : OpR X (compareOp op) (rB X.K X.w (bD f)) := by
  intro pins s σ H x y v u Q I rx ry hq
  obtain ⟨B, a, b, z, va, vb, e, q⟩ := hq
  obtain ⟨k, e2, rfl⟩ := bD_inv e
  exact h pins s σ H x y v u a b B k Q I rx ry va vb e2 (q _ _ _ (.same (.bl _)))
theorem oc_eq (hu : Deep X.A) : OpR X (compareOp .Eq) (rB X.K X.w (bD eqD)) := ob_cmp fun pins s σ H x y v u a b B k Q I rx ry va vb e q => by
  unfold eqD at e
  split at e
  · cases va.str; cases vb.str; cases e
    exact op_eq pins s σ H _ _ v u Q I rx ry ⟨rfl, by rw [dec_str]; exact q⟩
  · cases va.int; cases vb.int; cases e
    exact op_eq pins s σ H _ _ v u Q I rx ry ⟨rfl, by rw [dec_int]; exact q⟩
  · split at e
    · cases e
      rename_i h
      rw [Bool.and_eq_true] at h
      exact eq_laid hu I rx ry va vb h.1 h.2 ⟨.bl _, H, I, rfl, q⟩
    · cases e
theorem oc_ne (hu : Deep X.A) : OpR X (compareOp .NotEq) (rB X.K X.w (bD fun a b => (eqD a b).map not)) := ob_cmp fun pins s σ H x y v u a b B k Q I rx ry va vb e q => by
  cases h : eqD a b with
  | none => rw [h] at e; cases e
  | some k' =>
    rw [h] at e
    cases e
    unfold eqD at h
    split at h
    · cases va.str; cases vb.str; cases h
      exact op_ne pins s σ H _ _ v u Q I rx ry ⟨rfl, by rw [dec_str]; exact q⟩
    · cases va.int; cases vb.int; cases h
      exact op_ne pins s σ H _ _ v u Q I rx ry ⟨rfl, by rw [dec_int]; exact q⟩
    · split at h
      · cases h
        rename_i h
        rw [Bool.and_eq_true] at h
        exact ne_laid hu I rx ry va vb h.1 h.2 ⟨.bl _, H, I, rfl, q⟩
      · cases h

theorem flat_v {H : Hp} {B : Own} {d : D} {v : V} (f : flat d = true) (h : Dq X.K X.w H B v d) : flatV v = true := by
  cases h <;> first | rfl | (simp [flat] at f; done)
theorem eqv_flat {H : Hp} {B : Own} {a b : D} {x y : V} (fa : flat a = true) (fb : flat b = true) (ha : Dq X.K X.w H B x a) (hb : Dq X.K X.w H B y b) : eqV x y = PyData.eqv a b := by
  cases ha <;> cases hb <;> first
    | (simp [eqV, PyData.eqv]; done)
    | (simp [flat] at fa; done)
    | (simp [flat] at fb; done)
theorem all_flat {H : Hp} {B : Own} : ∀ {ds : List D} {vs : List V}, ds.all flat = true → Dqs X.K X.w H B vs ds → vs.all flatV = true
  | [], _, _, h => by cases h; rfl
  | d :: ds, _, f, h => by
    cases h with
    | cons h1 h2 =>
      rw [List.all_cons, Bool.and_eq_true] at f
      rw [List.all_cons, flat_v f.1 h1, all_flat f.2 h2]
      rfl
theorem mem_flat {H : Hp} {B : Own} {a : D} {x : V} (fa : flat a = true) (ha : Dq X.K X.w H B x a) : ∀ {ds : List D} {vs : List V}, ds.all flat = true → Dqs X.K X.w H B vs ds → inV x vs = memD a ds
  | [], _, _, h => by cases h; rfl
  | d :: ds, _, f, h => by
    cases h with
    | cons h1 h2 =>
      rw [List.all_cons, Bool.and_eq_true] at f
      have ih := mem_flat fa ha f.2 h2
      unfold inV memD at ih ⊢
      rw [List.any_cons, List.any_cons, ih, eqv_flat f.1 fa h1 ha]
theorem flat_nl {d : D} (f : flat d = true) : ∀ ds, d ≠ .list ds := fun ds z => by subst z; cases f
theorem in_list_any (hu : Deep X.A) {pins : List (Addr × Obj)} {s : Shared} {σ : St} {H : Hp} {x y : V} {v u : Value} {a : D} {ds : List D} {B : Own} {Q : VK} (I : Inv X pins σ H s) (rx : RelV x v) (ry : RelV y u)
    (va : Vr X.K X.w H B x a) (vb : Vr X.K X.w H B y (.list ds) ∨ Vr X.K X.w H B y (.tuple ds)) (l : ((flat a && ds.all flat) || (laid a && laid (.list ds))) = true) (neg : Bool) (q : Q (.bl (if neg then !memD a ds else memD a ds)) H) :
    wpAny (model X.prog X.w) X.A (compareOp (if neg then .NotIn else .In) v u) (EP X pins σ Q) X.xe s := by
  rw [Bool.or_eq_true, Bool.and_eq_true, Bool.and_eq_true] at l
  rcases l with ⟨fa, fs⟩ | ⟨la, ls⟩
  · have ha := va.dq (flat_nl fa)
    have fl := flat_v fa ha
    have sq : ∃ p xs, y = .ref p ∧ (SqL X.K H p xs ∨ SqT X.K H p xs) ∧ Dqs X.K X.w H B xs ds := by
      rcases vb with vb | vb
      · obtain ⟨p, xs, e, h1, h2⟩ := vb.list
        exact ⟨p, xs, e, .inl (sq_of h1), h2⟩
      · obtain ⟨p, xs, e, h1, h2⟩ := vb.tuple
        exact ⟨p, xs, e, .inr h1, h2⟩
    obtain ⟨p, xs, rfl, h1, h2⟩ := sq
    cases neg with
    | false => exact op_in_seq pins s σ H x _ v u Q I rx ry ⟨p, xs, rfl, h1, fl, all_flat fs h2, by rw [mem_flat fa ha fs h2]; exact q⟩
    | true => exact op_notIn_seq pins s σ H x _ v u Q I rx ry ⟨p, xs, rfl, h1, fl, all_flat fs h2, by rw [mem_flat fa ha fs h2]; exact q⟩
  · obtain ⟨l1, l2⟩ := laid_inv la
    obtain ⟨l3, l4⟩ := laid_inv ls
    have l5 : PyData.canLayAll0 ds = true := l3
    obtain ⟨as, r1⟩ := Dp.reads I a x v (vr_dp l1 va) rx
    have hu' : X.A.units + 300 < cLine := hu
    have hr : X.A.units + 1 + min (PyData.depthAll ds) a.depth < cLine := by have := Nat.min_le_right (PyData.depthAll ds) a.depth; omega
    rcases vb with vb | vb
    · obtain ⟨bs, r2⟩ := Dp.reads I (.list ds) y u (vr_dp l3 vb) ry
      cases neg with
      | false => exact SeqAt.in_list_reads r2 r1 l5 l1 hr ⟨.bl _, H, I, rfl, q⟩
      | true => exact SeqAt.notIn_list_reads r2 r1 l5 l1 hr ⟨.bl _, H, I, rfl, q⟩
    · obtain ⟨bs, r2⟩ := Dp.reads I (.tuple ds) y u (vr_dp (d := .tuple ds) l3 vb) ry
      cases neg with
      | false => exact SeqAt.in_tuple_reads r2 r1 l5 l1 hr ⟨.bl _, H, I, rfl, q⟩
      | true => exact SeqAt.notIn_tuple_reads r2 r1 l5 l1 hr ⟨.bl _, H, I, rfl, q⟩
theorem Vr.dict {H : Hp} {B : Own} {K : PySem.W.Frag} {w : World} {x : V} {kvs : List (D × D)} (h : Vr K w H B x (.dict kvs)) : ∃ a, x = .ref a ∧ WD K w a kvs := by
  have q := h.dq fun _ z => by cases z
  cases q with
  | dicW r => exact ⟨_, rfl, r⟩
theorem oc_inG (hu : Deep X.A) (neg : Bool) : OpR X (compareOp (if neg then .NotIn else .In)) (rB X.K X.w (bD fun a b => if neg then (inD a b).map not else inD a b)) := ob_cmp fun pins s σ H x y v u a b B k Q I rx ry va vb e q => by
  obtain ⟨k', e2, rfl⟩ : ∃ k', inD a b = some k' ∧ k = (if neg then !k' else k') := by
    cases neg with
    | false => exact ⟨k, e, rfl⟩
    | true =>
      cases h : inD a b with
      | none => rw [if_pos rfl, h] at e; cases e
      | some k' => rw [if_pos rfl, h] at e; cases e; exact ⟨k', rfl, rfl⟩
  clear e
  unfold inD at e2
  split at e2
  · split at e2
    · cases e2
      rename_i l
      exact in_list_any hu I rx ry va (.inl vb) l neg q
    · cases e2
  · split at e2
    · cases e2
      rename_i l
      exact in_list_any hu I rx ry va (.inr vb) l neg q
    · cases e2
  · cases va.str; cases vb.str
    cases e2
    cases neg with
    | false => exact op_in_str pins s σ H _ _ v u Q I rx ry ⟨_, _, rfl, rfl, q⟩
    | true => exact op_notin_str pins s σ H _ _ v u Q I rx ry ⟨_, _, rfl, rfl, q⟩
  · obtain ⟨p, rfl, W⟩ := vb.dict
    split at e2
    · cases e2
      rename_i hk
      obtain ⟨z, rfl⟩ : ∃ z, a = .str z := by
        unfold keyOk at hk
        split at hk
        · exact ⟨_, rfl⟩
        · cases hk
      cases va.str
      cases ry
      obtain ⟨t, rfl⟩ := rx
      obtain ⟨es, n, hl, lit, _⟩ := W.ex
      have hm := PySem.W.mapOf_K (prog := X.prog) (w := X.w) I.kIn hl lit
      have key : ∀ r, PySem.W.nsIn X.K p z = some r → r.isSome = (lookD _ (PyData.str z)).isSome → wpAny (model X.prog X.w) X.A (compareOp (if neg = true then .NotIn else .In) (Value.str z t) (.ref p)) (EP X pins σ Q) X.xe s := fun r hr e => by
        cases neg with
        | false =>
          refine wpAny_in_of (strKind_is X.prog X.w z t) W.sys hm ?_
          rw [PySem.W.find_K hl hr]
          refine ⟨.bl r.isSome, H, I.tok _, rfl, ?_⟩
          rw [e]
          exact q
        | true =>
          refine wpAny_notIn_of (strKind_is X.prog X.w z t) W.sys hm ?_
          rw [PySem.W.find_K hl hr]
          refine ⟨.bl (!r.isSome), H, I.tok _, rfl, ?_⟩
          rw [e]
          exact q
      cases h : lookD _ (PyData.str z) with
      | none => exact key none (W.miss z h) (by rw [h]; rfl)
      | some d =>
        obtain ⟨u, h1, _⟩ := W.hit z d h
        exact key _ h1 (by rw [h]; rfl)
    · cases e2
  · cases e2
theorem isN_dq {H : Hp} {B : Own} {a : D} {x : V} (va : Vr X.K X.w H B x a) : decide (x = .non) = isNoneD a := by
  rcases va with va | ⟨p, rfl, va⟩
  · cases va <;> rfl
  · obtain ⟨ds, _, rfl, _⟩ := va.list
    rfl
theorem oc_isG (neg : Bool) : OpR X (compareOp (if neg then .IsNot else .Is)) (rB X.K X.w (bD fun a b => if neg then (isD a b).map not else isD a b)) := ob_cmp fun pins s σ H x y v u a b B k Q I rx ry va vb e q => by
  obtain ⟨k', e2, rfl⟩ : ∃ k', isD a b = some k' ∧ k = (if neg then !k' else k') := by
    cases neg with
    | false => exact ⟨k, e, rfl⟩
    | true =>
      cases h : isD a b with
      | none => rw [if_pos rfl, h] at e; cases e
      | some k' => rw [if_pos rfl, h] at e; cases e; exact ⟨k', rfl, rfl⟩
  clear e
  unfold isD at e2
  split at e2
  · cases vb.non
    cases e2
    cases neg with
    | false => exact op_isN pins s σ H _ _ v u Q I rx ry ⟨rfl, by rw [isN_dq va]; exact q⟩
    | true => exact op_notN pins s σ H _ _ v u Q I rx ry ⟨rfl, by rw [isN_dq va]; exact q⟩
  · cases vb.bl
    split at e2
    · cases va.bl
      cases e2
      cases neg with
      | false => exact op_isBl pins s σ H _ _ v u Q I rx ry ⟨_, _, rfl, rfl, q⟩
      | true => exact op_notBl pins s σ H _ _ v u Q I rx ry ⟨_, _, rfl, rfl, q⟩
    · cases e2
  · cases e2
theorem oc_int {op : CmpOp} {g : Int → Int → Bool} (ho : OpR X (compareOp op) (rI0 fun i j => .bl (g i j))) : OpR X (compareOp op) (rB X.K X.w (bD (cmp2 g))) := ob_cmp fun pins s σ H x y v u a b B k Q I rx ry va vb e q => by
  unfold cmp2 at e
  split at e
  · cases va.int; cases vb.int; cases e
    exact ho pins s σ H _ _ v u Q I rx ry ⟨_, _, rfl, rfl, q⟩
  · cases e
def opC : Cmp → CmpOp
  | .eq => .Eq | .ne => .NotEq | .lt => .Lt | .le => .LtE | .gt => .Gt | .ge => .GtE | .isin => .In | .notin => .NotIn | .is => .Is | .isnot => .IsNot
theorem oc_cmp (hu : Deep X.A) (op : Cmp) : OpR X (compareOp (opC op)) (rB X.K X.w (bD (cmpD op))) := by
  cases op with
  | eq => exact oc_eq hu
  | ne => exact oc_ne hu
  | lt => exact oc_int op_lt
  | le => exact oc_int op_le
  | gt => exact oc_int op_gt
  | ge => exact oc_int op_ge
  | isin => exact oc_inG hu false
  | notin => exact oc_inG hu true
  | is => exact oc_isG false
  | isnot => exact oc_isG true
def opB : Op → Operator
  | .add => .Add | .sub => .Sub | .mul => .Mult | .fdiv => .FloorDiv | .mod => .Mod | .pow => .Pow
theorem ob_op (op : Op) : OpR X (binaryOp (opB op)) (rB X.K X.w (binD op)) := ob_bin op
end
end Mp

namespace Mp
open PySem PySem.Spec L2

section
variable {K : PySem.W.Frag} {w : World} {σ : L2.St} {H H' H0 H1 H2 : Hp} {B B' B0 B1 B2 : Own} {ρ ρ' ρ0 ρ1 ρ2 : Env}
/-- the slots that own behind it, owned ahead of it -/
def Kin (ρ ρ' : Env) : Prop := ∀ i l d, Env.at ρ' i = some (.own l d) → ∃ d', Env.at ρ i = some (.own l d')
theorem Kin.oa (k : Kin ρ ρ') : ∀ a, OA σ ρ' a → OA σ ρ a := fun a ⟨i, l, d, z, y⟩ => by
  obtain ⟨d', z'⟩ := k i l d z
  exact ⟨i, l, d', z', y⟩
theorem Kin.refl : Kin ρ ρ := fun _ _ d h => ⟨d, h⟩
theorem Kin.trans (a : Kin ρ ρ1) (b : Kin ρ1 ρ2) : Kin ρ ρ2 := fun i l d z => by
  obtain ⟨d', z'⟩ := b i l d z
  exact a i l d' z'
/-- what stands behind an expression -/
structure Pst (K : PySem.W.Frag) (w : World) (σ : L2.St) (H : Hp) (B : Own) (ρ : Env) (H' : Hp) (B' : Own) (ρ' : Env) : Prop where
  rel : Rel K w σ H' B' ρ'
  stp : Stp (OA σ ρ) H B H' B'
  kin : Kin ρ ρ'
  som : ∀ i, Env.at ρ i ≠ none → Env.at ρ' i ≠ none
theorem Pst.oa (p : Pst K w σ H B ρ H' B' ρ') : ∀ a, OA σ ρ' a → OA σ ρ a := p.kin.oa
theorem Pst.refl (r : Rel K w σ H B ρ) : Pst K w σ H B ρ H B ρ := ⟨r, .refl r.oaB, .refl, fun _ h => h⟩
theorem Pst.trans (a : Pst K w σ H B ρ H1 B1 ρ1) (b : Pst K w σ H1 B1 ρ1 H2 B2 ρ2) : Pst K w σ H B ρ H2 B2 ρ2 :=
  ⟨b.rel, a.stp.trans b.stp fun x _ h => a.oa x h, a.kin.trans b.kin, fun i h => b.som i (a.som i h)⟩
/-- the slots' own were there -/
theorem Pst.there (r : Rel K w σ H B ρ) (a : Pst K w σ H B ρ H1 B1 ρ1) : ∀ x, OA σ ρ1 x → H x ≠ none := fun x h => r.oaH x (a.oa x h)
/-- a value keeps its relation over a further step -/
theorem RR.keeps {v : V} {r : R} (hr : Rel K w σ H0 B0 ρ0) (p : Pst K w σ H0 B0 ρ0 H B ρ) (h : RR K w σ ρ H0 H B v r) (q : Pst K w σ H B ρ H' B' ρ') : RR K w σ ρ' H0 H' B' v r := by
  cases r with
  | dat d => exact Dq.keeps q.stp.keeps _ _ h
  | frs d =>
    obtain ⟨a, rfl, h1, h2⟩ := h
    refine ⟨a, rfl, h1, ?_⟩
    obtain ⟨b, o, h3⟩ := h2.there
    obtain ⟨h4, h5⟩ := q.stp.keep a o h3 fun m => p.there hr a m h1
    exact h2.keeps q.stp.keeps (h5.mpr b) (h4.trans h3.symm)
  | bor i =>
    obtain ⟨h1, c, h2⟩ := h
    refine ⟨h1, ?_⟩
    have := q.som i (by rw [h2]; simp)
    cases e : Env.at ρ' i with
    | none => exact absurd e this
    | some c => exact ⟨c, rfl⟩
theorem RR.low {v : V} {r : R} (t : ∀ a, H0 a ≠ none → H1 a ≠ none) (h : RR K w σ ρ H1 H B v r) : RR K w σ ρ H0 H B v r := by
  cases r with
  | dat d => exact h
  | frs d =>
    obtain ⟨a, rfl, h1, h2⟩ := h
    exact ⟨a, rfl, Classical.byContradiction fun z => t a z h1, h2⟩
  | bor i => exact h
/-- looked at -/
theorem res_ok {v : V} {r : R} {d : D} (rel : Rel K w σ H B ρ) (h : RR K w σ ρ H0 H B v r) (e : res ρ r = some d) : Vr K w H B v d := by
  cases r with
  | dat d' => cases e; exact .inl h
  | frs d' =>
    cases e
    obtain ⟨a, rfl, _, h2⟩ := h
    exact .inr ⟨a, rfl, h2⟩
  | bor i =>
    obtain ⟨h1, _⟩ := h
    dsimp only [res] at e
    split at e
    · cases e
      rename_i e
      obtain ⟨v', e1, q⟩ := rel.shr i _ e
      rw [h1] at e1
      cases e1
      exact .inl q
    · cases e
      rename_i e
      obtain ⟨a, e1, q⟩ := rel.own i _ _ e
      rw [h1] at e1
      cases e1
      exact .inr ⟨a, rfl, q⟩
    · cases e
theorem RR.out {z : D × Bool} {x : V} (o : Out K w H B z x H' B') : RR K w σ ρ' H H' B' x (mkR z) := by
  obtain ⟨d, b⟩ := z
  have h := o.va
  cases b with
  | false => rw [if_neg (by simp)] at h; exact h
  | true => rw [if_pos rfl] at h; exact h
/-- an operation changes no slot -/
theorem Pst.out {z : D × Bool} {x : V} (r : Rel K w σ H B ρ) (o : Out K w H B z x H' B') : Pst K w σ H B ρ H' B' ρ :=
  ⟨r.stp (o.st (fun _ => False) fun _ h => h.elim) fun _ _ h => h, o.st _ r.oaB, .refl, fun _ h => h⟩
/-- made data -/
structure Frz (K : PySem.W.Frag) (w : World) (σ : L2.St) (H0 H : Hp) (B : Own) (ρ : Env) (v : V) (r : R) (d : D) (B' : Own) (ρ' : Env) : Prop where
  st : ∃ M : Own, (∀ a, M a → OA σ ρ a ∨ (∃ d, r = .frs d ∧ v = .ref a ∧ H0 a = none)) ∧ Stp M H B H B'
  rel : Rel K w σ H B' ρ'
  dq : Dq K w H B' v d
  oa : ∀ i l d, Env.at ρ' i = some (.own l d) → Env.at ρ i = some (.own l d)
  som : ∀ i, Env.at ρ i ≠ none → Env.at ρ' i ≠ none
  sub : ∀ a, B' a → B a
  oth : ∀ y r', RR K w σ ρ H0 H B y r' → (∀ d d', r = .frs d → r' = .frs d' → y ≠ v) → RR K w σ ρ' H0 H B' y r'
theorem frz_ok {v : V} {r : R} {d : D} (rel : Rel K w σ H B ρ) (hO : ∀ a, OA σ ρ a → H0 a ≠ none) (h : RR K w σ ρ H0 H B v r) (e : frz ρ r = some (d, ρ')) : ∃ B', Frz K w σ H0 H B ρ v r d B' ρ' := by
  have oth : ∀ {B' : Own} {ρ' : Env} {M : Own}, Stp M H B H B' → (∀ i, Env.at ρ i ≠ none → Env.at ρ' i ≠ none) → ∀ y r', RR K w σ ρ H0 H B y r' → (∀ a d, r' = .frs d → y = .ref a → H0 a = none → ¬ M a) → RR K w σ ρ' H0 H B' y r' := fun {B' ρ' M} st som y r' q n => by
    cases r' with
    | dat d => exact Dq.keeps st.keeps _ _ q
    | frs d =>
      obtain ⟨a, rfl, z1, z2⟩ := q
      obtain ⟨b, o, z3⟩ := z2.there
      exact ⟨a, rfl, z1, z2.keeps st.keeps ((st.keep a o z3 (n a d rfl rfl z1)).2.mpr b) rfl⟩
    | bor i =>
      obtain ⟨z1, c, z2⟩ := q
      refine ⟨z1, ?_⟩
      have := som i (by rw [z2]; simp)
      cases e : Env.at ρ' i with
      | none => exact absurd e this
      | some c => exact ⟨c, rfl⟩
  cases r with
  | dat d' =>
    cases e
    have st : Stp (fun _ => False) H B H B := .refl fun _ h => h.elim
    exact ⟨B, ⟨_, fun _ h => h.elim, st⟩, rel, h, fun _ _ _ h => h, fun _ h => h, fun _ h => h, fun y r' q n => oth st (fun _ h => h) y r' q fun _ _ _ _ _ z => z⟩
  | frs d' =>
    cases e
    obtain ⟨a, rfl, h1, h2⟩ := h
    obtain ⟨b, o, h3⟩ := h2.there
    have st : Stp (fun x => x = a) H B H (fun x => B x ∧ x ≠ a) := stp_frz rfl fun x e => by subst e; exact b
    refine ⟨_, ⟨_, fun x e => .inr ⟨_, rfl, by rw [e], by rw [e]; exact h1⟩, st⟩, rel.stp st fun x m e => ?_, ?_, fun _ _ _ h => h, fun _ h => h, fun _ h => h.1, fun y r' q n => oth st (fun _ h => h) y r' q fun a' d e1 e2 _ z => ?_⟩
    · subst e; exact hO x m h1
    · obtain ⟨ds, xs, rfl, _, e1, q⟩ := h2.list
      exact .lst (.inl e1) (fun z => z.2 rfl) (q.keeps fun b o e n => ⟨e, fun z => n z.1⟩)
    · subst z
      exact n _ _ rfl e1 e2
  | bor i =>
    obtain ⟨h1, _⟩ := h
    dsimp only [frz] at e
    split at e
    · cases e
      rename_i e
      obtain ⟨v', e1, q⟩ := rel.shr i _ e
      rw [h1] at e1
      cases e1
      have st : Stp (fun _ => False) H B H B := .refl fun _ h => h.elim
      exact ⟨B, ⟨_, fun _ h => h.elim, st⟩, rel, q, fun _ _ _ h => h, fun _ h => h, fun _ h => h, fun y r' q n => oth st (fun _ h => h) y r' q fun _ _ _ _ _ z => z⟩
    · cases e
      rename_i e
      obtain ⟨a, e1, q⟩ := rel.own i _ _ e
      rw [h1] at e1
      cases e1
      have oaa : OA σ ρ a := ⟨i, _, _, e, h1⟩
      obtain ⟨b, o, h3⟩ := q.there
      have st : Stp (fun x => x = a) H B H (fun x => B x ∧ x ≠ a) := stp_frz rfl fun x e => by subst e; exact b
      have dq : Dq K w H (fun x => B x ∧ x ≠ a) (.ref a) d := by
        obtain ⟨ds, xs, rfl, _, e1, q⟩ := q.list
        exact .lst (.inl e1) (fun z => z.2 rfl) (q.keeps fun b o e n => ⟨e, fun z => n z.1⟩)
      have hl := at_lt e
      have sub : ∀ j l d', Env.at (ρ.set i (some (.shr d))) j = some (.own l d') → i ≠ j ∧ Env.at ρ j = some (.own l d') := fun j l d' z => by
        rw [at_set] at z
        split at z
        · cases z
        · rename_i n
          exact ⟨fun e => n ⟨e, hl⟩, z⟩
      have som : ∀ j, Env.at ρ j ≠ none → Env.at (ρ.set i (some (.shr d))) j ≠ none := fun j z => by
        rw [at_set]
        split
        · simp
        · exact z
      refine ⟨_, ⟨_, fun x z => .inl (by rw [z]; exact oaa), st⟩, ⟨by rw [List.length_set]; exact rel.len, fun j d' z => ?_, fun j l d' z => ?_, fun j k l d1 l' d2 x z1 z2 => ?_⟩, dq, fun j l d' z => (sub j l d' z).2, som, fun _ h => h.1,
        fun y r' q n => oth st som y r' q fun a' d e1 e2 e3 z => ?_⟩
      · rw [at_set] at z
        split at z
        · rename_i e'
          obtain ⟨rfl, _⟩ := e'
          cases z
          exact ⟨_, h1, dq⟩
        · obtain ⟨v', e2, q2⟩ := rel.shr j _ z
          exact ⟨v', e2, q2.keeps st.keeps⟩
      · obtain ⟨n, z⟩ := sub _ _ _ z
        obtain ⟨a', e2, q2⟩ := rel.own j _ _ z
        refine ⟨a', e2, ?_⟩
        obtain ⟨b', o', h3'⟩ := q2.there
        refine q2.keeps st.keeps ⟨b', fun e' => ?_⟩ rfl
        subst e'
        exact n (rel.one i j _ _ _ _ a' e z h1 e2)
      · exact rel.one j k _ _ _ _ x (sub _ _ _ z1).2 (sub _ _ _ z2).2
      · subst z
        exact hO _ oaa e3
    · cases e
theorem Frz.pst {v : V} {r : R} {d : D} (p : Pst K w σ H0 B0 ρ0 H B ρ) (f : Frz K w σ H0 H B ρ v r d B' ρ') : Pst K w σ H0 B0 ρ0 H B' ρ' := by
  obtain ⟨M, h1, h2⟩ := f.st
  exact ⟨f.rel, p.stp.trans h2 fun x z m => (h1 x m).elim (p.oa x) fun ⟨_, _, _, y⟩ => absurd y z, fun i l d z => p.kin i l d (f.oa i l d z), fun i z => f.som i (p.som i z)⟩
/-- .. behind a step -/
theorem frz_pst {v : V} {r : R} {d : D} (hr : Rel K w σ H0 B0 ρ0) (p : Pst K w σ H0 B0 ρ0 H B ρ) (h : RR K w σ ρ H0 H B v r) (e : frz ρ r = some (d, ρ')) :
    ∃ B', Pst K w σ H0 B0 ρ0 H B' ρ' ∧ Dq K w H B' v d := by
  obtain ⟨B', f⟩ := frz_ok p.rel (p.there hr) h e
  exact ⟨B', f.pst p, f.dq⟩

/-! ### several values -/
/-- the new ones among them -/
def frsOf : List V → List R → List V
  | v :: vs, .frs _ :: rs => v :: frsOf vs rs
  | _ :: vs, _ :: rs => frsOf vs rs
  | _, _ => []
inductive RRs (K : PySem.W.Frag) (w : World) (σ : L2.St) (ρ : Env) (H0 H : Hp) (B : Own) : List V → List R → Prop
  | nil : RRs K w σ ρ H0 H B [] []
  | cons {v : V} {r : R} {vs : List V} {rs : List R} : RR K w σ ρ H0 H B v r → (∀ d, r = .frs d → v ∉ frsOf vs rs) → RRs K w σ ρ H0 H B vs rs → RRs K w σ ρ H0 H B (v :: vs) (r :: rs)
theorem frs_mem : ∀ {vs : List V} {rs : List R}, RRs K w σ ρ H0 H B vs rs → ∀ v ∈ frsOf vs rs, ∃ a, v = .ref a ∧ H0 a = none ∧ H a ≠ none
  | _, _, .nil, _, h => by cases h
  | _, _, @RRs.cons _ _ _ _ _ _ _ v r vs rs h1 _ h3, u, h => by
    cases r with
    | frs d =>
      rcases List.mem_cons.mp h with rfl | h
      · obtain ⟨a, rfl, z, q⟩ := h1
        obtain ⟨_, o, e⟩ := q.there
        exact ⟨a, rfl, z, by rw [e]; simp⟩
      · exact frs_mem h3 u h
    | dat d => exact frs_mem h3 u h
    | bor i => exact frs_mem h3 u h
theorem RRs.keeps {vs : List V} {rs : List R} (hr : Rel K w σ H0 B0 ρ0) (p : Pst K w σ H0 B0 ρ0 H B ρ) (h : RRs K w σ ρ H0 H B vs rs) (q : Pst K w σ H B ρ H' B' ρ') : RRs K w σ ρ' H0 H' B' vs rs := by
  induction h with
  | nil => exact .nil
  | cons h1 h2 _ ih => exact .cons (h1.keeps hr p q) h2 ih
theorem RRs.low {vs : List V} {rs : List R} (t : ∀ a, H0 a ≠ none → H1 a ≠ none) (h : RRs K w σ ρ H1 H B vs rs) : RRs K w σ ρ H0 H B vs rs := by
  induction h with
  | nil => exact .nil
  | cons h1 h2 _ ih => exact .cons (h1.low t) h2 ih
theorem RRs.frz {v : V} {r : R} {d : D} {vs : List V} {rs : List R} (f : Frz K w σ H0 H B ρ v r d B' ρ') (n : ∀ d, r = .frs d → v ∉ frsOf vs rs) (h : RRs K w σ ρ H0 H B vs rs) : RRs K w σ ρ' H0 H B' vs rs := by
  induction h with
  | nil => exact .nil
  | @cons y r' vs rs h1 h2 _ ih =>
    refine .cons (f.oth y r' h1 fun d d' e1 e2 => ?_) h2 (ih fun d e z => n d e ?_)
    · subst e1 e2
      intro e
      subst e
      exact n d rfl List.mem_cons_self
    · cases r' with
      | frs d' => exact List.mem_cons_of_mem _ z
      | dat _ => exact z
      | bor _ => exact z
theorem frzAll_inv {r : R} {rs : List R} {ρ ρ' : Env} {ds : List D} (e : frzAll (r :: rs) ρ = some (ds, ρ')) : ∃ d ρ1 ds', frz ρ r = some (d, ρ1) ∧ frzAll rs ρ1 = some (ds', ρ') ∧ ds = d :: ds' := by
  unfold frzAll at e
  cases e1 : frz ρ r with
  | none => rw [e1] at e; cases e
  | some z =>
    obtain ⟨d, ρ1⟩ := z
    rw [e1] at e
    replace e : (do let (ds, ρ) ← frzAll rs ρ1; some (d :: ds, ρ)) = some (ds, ρ') := e
    cases e2 : frzAll rs ρ1 with
    | none => rw [e2] at e; cases e
    | some z =>
      obtain ⟨ds', ρ2⟩ := z
      rw [e2] at e
      cases e
      exact ⟨_, _, _, rfl, e2, rfl⟩
theorem frzAll_pst : ∀ {vs : List V} {rs : List R} {ds : List D} {ρ : Env} {B : Own}, Rel K w σ H0 B0 ρ0 → Pst K w σ H0 B0 ρ0 H B ρ → RRs K w σ ρ H0 H B vs rs → frzAll rs ρ = some (ds, ρ') →
    ∃ B', Pst K w σ H0 B0 ρ0 H B' ρ' ∧ Dqs K w H B' vs ds ∧ Keeps H B H B'
  | _, [], ds, ρ, B, hr, p, h, e => by
    cases e
    cases h
    exact ⟨B, p, .nil, fun _ _ h n => ⟨h, n⟩⟩
  | _, r :: rs, ds, ρ, B, hr, p, h, e => by
    cases h with
    | @cons v _ vs _ h1 h2 h3 =>
    obtain ⟨d, ρ1, ds', e1, e2, rfl⟩ := frzAll_inv e
    obtain ⟨B1, f⟩ := frz_ok p.rel (p.there hr) h1 e1
    obtain ⟨B', p', dq, sub⟩ := frzAll_pst hr (f.pst p) (h3.frz f h2) e2
    exact ⟨B', p', .cons (f.dq.keeps sub) dq, fun a o z n => sub a o z fun y => n (f.sub a y)⟩
end
end Mp

namespace Mp
open PySem PySem.Spec L2

theorem bi {α β : Type} {x : Option α} {f : α → Option β} {b : β} (h : (x >>= f) = some b) : ∃ a, x = some a ∧ f a = some b := by
  cases x with
  | none => cases h
  | some a => exact ⟨a, rfl, h⟩
theorem ifs {α : Type} {c : Prop} [Decidable c] {x : Option α} {b : α} (h : (if c then x else none) = some b) : c ∧ x = some b := by
  split at h
  · rename_i z; exact ⟨z, h⟩
  · cases h

def tE (K : PySem.W.Frag) (w : World) (v : Env → Option (R × Env)) : TE := fun σ H Q => ∃ B ρ r ρ', Rel K w σ H B ρ ∧ v ρ = some (r, ρ') ∧
  ∀ x H' B', Pst K w σ H B ρ H' B' ρ' → RR K w σ ρ' H H' B' x r → Q x H'
def tT (K : PySem.W.Frag) (w : World) (t : Env → Option (Bool × Env)) : TT := fun σ H Q => ∃ B ρ k ρ', Rel K w σ H B ρ ∧ t ρ = some (k, ρ') ∧
  ∀ H' B', Pst K w σ H B ρ H' B' ρ' → Q k H'
def tAs (K : PySem.W.Frag) (w : World) (v : Env → Option (List R × Env)) : TA := fun σ H Q => ∃ B ρ rs ρ', Rel K w σ H B ρ ∧ v ρ = some (rs, ρ') ∧
  ∀ xs H' B', Pst K w σ H B ρ H' B' ρ' → RRs K w σ ρ' H H' B' xs rs → Q xs H'
/-- e means s -/
structure PB (X : Cx) (e : Expr) (s : Sm) : Prop where
  v : PE X e (tE X.K X.w s.v)
  t : PT X e (tT X.K X.w s.t)
section
variable {X : Cx} {e a b c : Expr} {t t' : TE} {u u' : TT} {sa sb sc : Sm} {pos : Pos} {v : Env → Option (R × Env)} {va vb : Env → Option (R × Env)}
theorem PE.imp (h : PE X e t) (f : ∀ σ H Q, t' σ H Q → t σ H Q) : PE X e t' := ⟨fun pins s σ H Q I q => h.run pins s σ H Q I (f σ H Q q)⟩
theorem PT.imp (h : PT X e u) (f : ∀ σ H Q, u' σ H Q → u σ H Q) : PT X e u' := ⟨fun pins s σ H Q I q => h.run pins s σ H Q I (f σ H Q q)⟩
theorem PA.imp {es : List Expr} {t t' : TA} (h : PA X es t) (f : ∀ σ H Q, t' σ H Q → t σ H Q) : PA X es t' := ⟨fun pos pins s σ H Q I q => h.run pos pins s σ H Q I (f σ H Q q)⟩
/-- a value's truth -/
theorem tru_of {K : PySem.W.Frag} {w : World} {H : Hp} {B : Own} {x : V} {d : D} {k : Bool} (h : Vr K w H B x d) (e : truD d = some k) : TruV K x H k := by
  cases d with
  | none => cases h.non; cases e; rfl
  | bool b => cases h.bl; cases e; rfl
  | int i => cases h.int; cases e; rfl
  | str y =>
    cases h.str
    obtain ⟨h1, h2⟩ := ifs e
    cases h2
    exact ⟨h1, rfl⟩
  | list ds =>
    obtain ⟨p, xs, rfl, h1, h2⟩ := h.list
    cases e
    refine .inl ⟨xs, sq_of h1, ?_⟩
    have := h2.length
    cases xs <;> cases ds <;> first | rfl | (simp at this)
  | tuple ds =>
    obtain ⟨p, xs, rfl, h1, h2⟩ := h.tuple
    cases e
    refine .inr (.inl ⟨xs, h1, ?_⟩)
    have := h2.length
    cases xs <;> cases ds <;> first | rfl | (simp at this)
  | dict _ => cases e
/-- an expression whose test is its value's truth -/
theorem pb_of (h : PE X e (tE X.K X.w v)) (he : ∀ whole, isTrue e X.env whole = (do let v ← whole; standAt e.pos; holding [v] (truthy v))) : PB X e (ofV v) :=
  ⟨h, PT.imp (pt_truth h he) fun σ H Q q => by
    obtain ⟨B, ρ, k, ρ', rel, e1, q⟩ := q
    obtain ⟨⟨r, ρ1⟩, e2, e1⟩ := bi e1
    obtain ⟨d, e3, e1⟩ := bi e1
    obtain ⟨k', e4, e1⟩ := bi e1
    cases e1
    exact ⟨B, ρ, r, _, rel, e2, fun x H' B' p rr => ⟨k, tru_of (res_ok p.rel rr e3) e4, q H' B' p⟩⟩⟩
/-- a comparison's test -/
theorem pb_cmp {r : R2} {t : TE} {op : CmpOp} (h : PE X e (tE X.K X.w v)) (ht : PT X e (tTest t)) (hi : ∀ σ H Q, tE X.K X.w v σ H Q → t σ H Q) (hb : ∀ ρ r ρ', v ρ = some (r, ρ') → ∃ k, r = .dat (.bool k)) : PB X e (ofV v) :=
  ⟨h, PT.imp ht fun σ H Q q => by
    obtain ⟨B, ρ, k, ρ', rel, e1, q⟩ := q
    obtain ⟨⟨r, ρ1⟩, e2, e1⟩ := bi e1
    obtain ⟨d, e3, e1⟩ := bi e1
    obtain ⟨k', e4, e1⟩ := bi e1
    cases e1
    obtain ⟨k'', rfl⟩ := hb _ _ _ e2
    cases e3
    cases e4
    exact hi σ H _ ⟨B, ρ, _, _, rel, e2, fun x H' B' p rr => ⟨_, Dq.blI rr, q H' B' p⟩⟩⟩

theorem both_rd {K : PySem.W.Frag} {w : World} {g : D → D → Option (D × Bool)} : ∀ σ H Q, tE K w (bothV va vb g) σ H Q → tOp (rB K w g) (tE K w va) (tE K w vb) σ H Q := fun σ H Q q => by
  obtain ⟨B, ρ, r, ρ', rel, e, q⟩ := q
  obtain ⟨⟨x, ρ1⟩, e1, e⟩ := bi e
  obtain ⟨⟨y, ρ2⟩, e2, e⟩ := bi e
  obtain ⟨dx, e3, e⟩ := bi e
  obtain ⟨dy, e4, e⟩ := bi e
  obtain ⟨z, e5, e⟩ := bi e
  cases e
  refine ⟨B, ρ, x, ρ1, rel, e1, fun xv H1 B1 p1 r1 => ⟨B1, ρ1, y, _, p1.rel, e2, fun yv H2 B2 p2 r2 => ?_⟩⟩
  have p := p1.trans p2
  exact ⟨B2, dx, dy, z, res_ok p.rel (r1.keeps rel p1 p2) e3, res_ok p.rel (r2.low p1.stp.tr) e4, e5, fun x' H' B' o => q x' H' B' (p.trans (.out p.rel o)) (RR.low p.stp.tr (RR.out o))⟩
theorem pb_bin {op : Op} (ha : PB X a sa) (hb : PB X b sb) : PB X (.BinOp a (opB op) b pos) (ofV (bothV sa.v sb.v (binD op))) :=
  pb_of (PE.imp (pe_op (ob_op op) ha.v hb.v) both_rd) fun _ => rfl
theorem pb_cmp1 {op : Cmp} (hu : Deep X.A) (ha : PB X a sa) (hb : PB X b sb) (hm : behindInMarks (opC op) b = false) : PB X (.Compare a [opC op] [b] pos) (ofV (bothV sa.v sb.v (bD (cmpD op)))) :=
  pb_cmp (r := rB X.K X.w (bD (cmpD op))) (op := .Eq) (PE.imp (pe_cmpR (oc_cmp hu op) ha.v hb.v hm) both_rd) (pt_cmpR (oc_cmp hu op) ha.v hb.v hm) both_rd fun ρ r ρ' e => by
    obtain ⟨⟨x, ρ1⟩, e1, e⟩ := bi e
    obtain ⟨⟨y, ρ2⟩, e2, e⟩ := bi e
    obtain ⟨dx, e3, e⟩ := bi e
    obtain ⟨dy, e4, e⟩ := bi e
    obtain ⟨z, e5, e⟩ := bi e
    cases e
    obtain ⟨k, _, rfl⟩ := bD_inv e5
    exact ⟨k, rfl⟩
/-! ### names, constants -/
theorem pb_cst {d : D} (h : ∀ pins s σ H B Q, Inv X pins σ H s → (∀ x, Dq X.K X.w H B x d → Q x H) → wpAny (model X.prog X.w) X.A (eval e X.env) (EP X pins σ Q) X.xe s)
    (he : ∀ whole, isTrue e X.env whole = (do let v ← whole; standAt e.pos; holding [v] (truthy v))) : PB X e (ofV fun ρ => some (.dat d, ρ)) :=
  pb_of ⟨fun pins s σ H Q I ⟨B, ρ, r, ρ', rel, e1, q⟩ => by
    cases e1
    exact h pins s σ H B Q I fun x dq => q x H B (.refl rel) dq⟩ he
theorem pb_int {i : Int} {j : Nat} : PB X (.Constant (.int i) j pos) (ofV fun ρ => some (.dat (.int i), ρ)) := pb_cst (fun pins s σ H B Q I q => pe_int.run pins s σ H Q I (q _ (.int i))) fun _ => rfl
theorem pb_str {i : Str} {j : Nat} : PB X (.Constant (.str i) j pos) (ofV fun ρ => some (.dat (.str i), ρ)) := pb_cst (fun pins s σ H B Q I q => pe_str.run pins s σ H Q I (q _ (.str i))) fun _ => rfl
theorem pb_bool {i : Bool} {j : Nat} : PB X (.Constant (.bool i) j pos) (ofV fun ρ => some (.dat (.bool i), ρ)) := pb_cst (fun pins s σ H B Q I q => pe_bl.run pins s σ H Q I (q _ (.bl i))) fun _ => rfl
theorem pb_none {j : Nat} : PB X (.Constant .none j pos) (ofV fun ρ => some (.dat .none, ρ)) := pb_cst (fun pins s σ H B Q I q => pe_non.run pins s σ H Q I (q _ .non)) fun _ => rfl
theorem pb_glob {x : Str} {u : Value} {y : V} {d : D} (hg : Gl X x) (hm : X.mg x = some u) (r : RelV y u) (h : ∀ H B, Dq X.K X.w H B y d) (hd : (x == ("__debug__" : Str)) = false) : PB X (.Name x pos) (ofV fun ρ => some (.dat d, ρ)) :=
  pb_cst (fun pins s σ H B Q I q => (pe_glob hg hm r hd).run pins s σ H Q I (q _ (h H B))) fun _ => rfl
def varV (i : Nat) : Env → Option (R × Env) := fun ρ => match Env.at ρ i with
  | some (.shr d) => some (.dat d, ρ)
  | some (.own _ _) => some (.bor i, ρ)
  | none => none
theorem pb_var {x : Str} {i : Nat} (hN : X.N[i]? = some x) (hv : Vis X.env.scope x) (hd : (x == ("__debug__" : Str)) = false) (hcd : (x == ("__classdict__" : Str)) = false) : PB X (.Name x pos) (ofV (varV i)) :=
  pb_of (PE.imp (pe_var hN hv hd hcd) fun σ H Q ⟨B, ρ, r, ρ', rel, e1, q⟩ => by
    unfold varV at e1
    split at e1
    · cases e1
      rename_i e
      obtain ⟨v, e2, dq⟩ := rel.shr i _ e
      exact ⟨v, e2, q v H B (.refl rel) dq⟩
    · cases e1
      rename_i e
      obtain ⟨a, e2, o⟩ := rel.own i _ _ e
      exact ⟨_, e2, q _ H B (.refl rel) ⟨e2, _, e⟩⟩
    · cases e1) fun _ => rfl
/-! ### -x, not, and, or, if -/
def negV (v : Env → Option (R × Env)) : Env → Option (R × Env) := fun ρ => do
  let (x, ρ) ← v ρ
  match ← res ρ x with
  | .int i => some (.dat (.int (-i)), ρ)
  | _ => none
theorem pb_neg (ha : PB X a sa) : PB X (.UnaryOp .USub a pos) (ofV (negV sa.v)) :=
  pb_of (PE.imp (pe_un un_neg ha.v) fun σ H Q ⟨B, ρ, r, ρ', rel, e, q⟩ => by
    obtain ⟨⟨x, ρ1⟩, e1, e⟩ := bi e
    obtain ⟨d, e2, e⟩ := bi e
    refine ⟨B, ρ, x, ρ1, rel, e1, fun y H1 B1 p rr => ?_⟩
    have vr := res_ok p.rel rr e2
    split at e
    · cases e
      cases vr.int
      exact ⟨_, rfl, q _ _ _ p (Dq.int _)⟩
    · cases e) fun _ => rfl
def notS (s : Sm) : Sm where
  v := fun ρ => do
    let (x, ρ) ← s.v ρ
    let b ← (res ρ x).bind truD
    some (.dat (.bool (!b)), ρ)
  t := fun ρ => do
    let (b, ρ) ← s.t ρ
    some (!b, ρ)
def andS (s u : Sm) : Sm where
  v := fun ρ => do
    let (x, ρ) ← s.v ρ
    let k ← (res ρ x).bind truD
    if k then u.v ρ else some (x, ρ)
  t := fun ρ => do
    let (k, ρ) ← s.t ρ
    if k then u.t ρ else some (false, ρ)
def orS (s u : Sm) : Sm where
  v := fun ρ => do
    let (x, ρ) ← s.v ρ
    let k ← (res ρ x).bind truD
    if k then some (x, ρ) else u.v ρ
  t := fun ρ => do
    let (k, ρ) ← s.t ρ
    if k then some (true, ρ) else u.t ρ
def iteS (c s u : Sm) : Sm where
  v := fun ρ => do
    let (k, ρ) ← c.t ρ
    if k then s.v ρ else u.v ρ
  t := fun ρ => do
    let (k, ρ) ← c.t ρ
    if k then s.t ρ else u.t ρ
theorem pb_not (ha : PB X a sa) : PB X (.UnaryOp .Not a pos) (notS sa) :=
  ⟨PE.imp (pe_notT ha.v) fun σ H Q ⟨B, ρ, r, ρ', rel, e, q⟩ => by
    obtain ⟨⟨x, ρ1⟩, e1, e⟩ := bi e
    obtain ⟨k, e2, e⟩ := bi e
    obtain ⟨d, e3, e5⟩ := bi e2
    cases e
    exact ⟨B, ρ, x, _, rel, e1, fun y H1 B1 p rr => ⟨k, tru_of (res_ok p.rel rr e3) e5, q _ _ _ p (Dq.bl _)⟩⟩,
  PT.imp (pt_not ha.t) fun σ H Q ⟨B, ρ, r, ρ', rel, e, q⟩ => by
    obtain ⟨⟨x, ρ1⟩, e1, e⟩ := bi e
    cases e
    exact ⟨B, ρ, x, _, rel, e1, fun H1 B1 p => q _ _ p⟩⟩
/-- a chain of and | or, told apart from its test's own first -/
structure PO2 (X : Cx) (e : Expr) (s : Sm) : Prop where
  v : PE X e (tE X.K X.w s.v)
  t : PW X e (tT X.K X.w s.t)
theorem PO2.pb {s : Sm} (h : PO2 X e s) : PB X e s := ⟨h.v, h.t.pt⟩
theorem PW.imp (h : PW X e u) (f : ∀ σ H Q, u' σ H Q → u σ H Q) : PW X e u' := ⟨fun wh pins s σ H Q I q => h.run wh pins s σ H Q I (f σ H Q q)⟩
theorem po_one1 (ha : PB X a sa) : PO2 X (.BoolOp .And [a] pos) sa := ⟨pe_one ha.v, pw_and1 ha.t⟩
theorem po_one2 (ha : PB X a sa) : PO2 X (.BoolOp .Or [a] pos) sa := ⟨pe_one ha.v, pw_or1 ha.t⟩
theorem po_and {rest : List Expr} (ha : PB X a sa) (hb : PO2 X (.BoolOp .And (b :: rest) pos) sb) : PO2 X (.BoolOp .And (a :: b :: rest) pos) (andS sa sb) :=
  ⟨PE.imp (pe_andT ha.v hb.v) fun σ H Q ⟨B, ρ, r, ρ', rel, e, q⟩ => by
    obtain ⟨⟨x, ρ1⟩, e1, e⟩ := bi e
    obtain ⟨k, e2, e⟩ := bi e
    obtain ⟨d, e3, e5⟩ := bi e2
    refine ⟨B, ρ, x, ρ1, rel, e1, fun y H1 B1 p rr => ⟨k, tru_of (res_ok p.rel rr e3) e5, ?_⟩⟩
    cases k with
    | true => exact ⟨B1, ρ1, r, ρ', p.rel, e, fun y2 H2 B2 p2 r2 => q _ _ _ (p.trans p2) (r2.low p.stp.tr)⟩
    | false =>
      cases e
      exact q _ _ _ p rr,
  PW.imp (pw_and ha.t hb.t) fun σ H Q ⟨B, ρ, r, ρ', rel, e, q⟩ => by
    obtain ⟨⟨k, ρ1⟩, e1, e⟩ := bi e
    refine ⟨B, ρ, k, ρ1, rel, e1, fun H1 B1 p => ?_⟩
    cases k with
    | true => exact ⟨B1, ρ1, r, ρ', p.rel, e, fun H2 B2 p2 => q _ _ (p.trans p2)⟩
    | false =>
      cases e
      exact q _ _ p⟩
theorem po_or {rest : List Expr} (ha : PB X a sa) (hb : PO2 X (.BoolOp .Or (b :: rest) pos) sb) : PO2 X (.BoolOp .Or (a :: b :: rest) pos) (orS sa sb) :=
  ⟨PE.imp (pe_orT ha.v hb.v) fun σ H Q ⟨B, ρ, r, ρ', rel, e, q⟩ => by
    obtain ⟨⟨x, ρ1⟩, e1, e⟩ := bi e
    obtain ⟨k, e2, e⟩ := bi e
    obtain ⟨d, e3, e5⟩ := bi e2
    refine ⟨B, ρ, x, ρ1, rel, e1, fun y H1 B1 p rr => ⟨k, tru_of (res_ok p.rel rr e3) e5, ?_⟩⟩
    cases k with
    | false => exact ⟨B1, ρ1, r, ρ', p.rel, e, fun y2 H2 B2 p2 r2 => q _ _ _ (p.trans p2) (r2.low p.stp.tr)⟩
    | true =>
      cases e
      exact q _ _ _ p rr,
  PW.imp (pw_or ha.t hb.t) fun σ H Q ⟨B, ρ, r, ρ', rel, e, q⟩ => by
    obtain ⟨⟨k, ρ1⟩, e1, e⟩ := bi e
    refine ⟨B, ρ, k, ρ1, rel, e1, fun H1 B1 p => ?_⟩
    cases k with
    | false => exact ⟨B1, ρ1, r, ρ', p.rel, e, fun H2 B2 p2 => q _ _ (p.trans p2)⟩
    | true =>
      cases e
      exact q _ _ p⟩
theorem isTrue_if {M : Model} {A : Around} {E : Value → Shared → Prop} {s : Shared} {c a b : Expr} {env : PySem.Env} {wh : Sem Value} {Q : Bool → Shared → Prop}
    (h : wpAny M A (isTrue c env (eval c env)) (fun k s => wpAny M A (if k = true then isTrue a env (eval a env) else isTrue b env (eval b env)) Q E s) E s) : wpAny M A (isTrue (.IfExp c a b pos) env wh) Q E s := by
  show wpAny M A (do if ← isTrue c env (eval c env) then isTrue a env (eval a env) else isTrue b env (eval b env)) Q E s
  exact wpAny_bind h
theorem pb_ite (hc : PB X c sc) (ha : PB X a sa) (hb : PB X b sb) : PB X (.IfExp c a b pos) (iteS sc sa sb) :=
  ⟨PE.imp (pe_ifExp hc.t ha.v hb.v) fun σ H Q ⟨B, ρ, r, ρ', rel, e, q⟩ => by
    obtain ⟨⟨k, ρ1⟩, e1, e⟩ := bi e
    refine ⟨B, ρ, k, ρ1, rel, e1, fun H1 B1 p => ?_⟩
    cases k with
    | true => exact ⟨B1, ρ1, r, ρ', p.rel, e, fun y2 H2 B2 p2 r2 => q _ _ _ (p.trans p2) (r2.low p.stp.tr)⟩
    | false => exact ⟨B1, ρ1, r, ρ', p.rel, e, fun y2 H2 B2 p2 r2 => q _ _ _ (p.trans p2) (r2.low p.stp.tr)⟩,
  ⟨fun pins s σ H Q I ⟨B, ρ, r, ρ', rel, e, q⟩ => by
    obtain ⟨⟨k, ρ1⟩, e1, e⟩ := bi e
    refine isTrue_if (thn (hc.t.run pins s σ H (fun k H1 => ∃ B1 ρ1 r ρ', Rel X.K X.w σ H1 B1 ρ1 ∧ (if k = true then sa.t ρ1 else sb.t ρ1) = some (r, ρ') ∧ ∀ H2 B2, Pst X.K X.w σ H1 B1 ρ1 H2 B2 ρ' → Q r H2) I ⟨B, ρ, k, ρ1, rel, e1, fun H1 B1 p => ⟨B1, ρ1, r, ρ', p.rel, e, fun H2 B2 p2 => q _ _ (p.trans p2)⟩⟩) fun k s1 ⟨H1, I1, B1, ρ1, r, ρ', rel1, e, q⟩ => ?_)
    cases k with
    | true => exact ha.t.run pins s1 σ H1 Q I1 ⟨B1, ρ1, r, ρ', rel1, e, q⟩
    | false => exact hb.t.run pins s1 σ H1 Q I1 ⟨B1, ρ1, r, ρ', rel1, e, q⟩⟩⟩
end
end Mp

namespace Mp
open PySem PySem.Spec L2
section
variable {X : Cx} {e a b c : Expr} {es : List Expr} {t t' : TE} {sa sb sc s : Sm} {pos : Pos} {vs : Env → Option (List R × Env)}
/-! ### arguments, displays -/
def nilV : Env → Option (List R × Env) := fun ρ => some ([], ρ)
def consV (v : Env → Option (R × Env)) (vs : Env → Option (List R × Env)) : Env → Option (List R × Env) := fun ρ => do
  let (r, ρ) ← v ρ
  let (rs, ρ) ← vs ρ
  some (r :: rs, ρ)
theorem pas_nil : PA X [] (tAs X.K X.w nilV) := PA.imp pa_nil fun σ H Q ⟨B, ρ, rs, ρ', rel, e, q⟩ => by
  cases e
  exact q [] H B (.refl rel) .nil
theorem pas_cons (h : PB X e s) (hs : PA X es (tAs X.K X.w vs)) (he : starEach (e :: es) X.env = (false, eval e X.env) :: starEach es X.env) : PA X (e :: es) (tAs X.K X.w (consV s.v vs)) :=
  PA.imp (pa_cons h.v hs he) fun σ H Q ⟨B, ρ, rs, ρ', rel, e, q⟩ => by
    obtain ⟨⟨r, ρ1⟩, e1, e⟩ := bi e
    obtain ⟨⟨rs', ρ2⟩, e2, e⟩ := bi e
    cases e
    refine ⟨B, ρ, r, ρ1, rel, e1, fun x H1 B1 p1 r1 => ⟨B1, ρ1, rs', _, p1.rel, e2, fun xs H2 B2 p2 r2 => ?_⟩⟩
    refine q _ _ _ (p1.trans p2) (.cons (r1.keeps rel p1 p2) (fun d z m => ?_) (r2.low p1.stp.tr))
    subst z
    obtain ⟨a, rfl, _, o⟩ := r1
    obtain ⟨a', z1, z2, _⟩ := frs_mem r2 _ m
    cases z1
    obtain ⟨_, u, z3⟩ := o.there
    rw [z2] at z3
    cases z3
def tupV (vs : Env → Option (List R × Env)) : Env → Option (R × Env) := fun ρ => do
  let (rs, ρ) ← vs ρ
  let (ds, ρ) ← frzAll rs ρ
  if ds.length ≤ sizeLine then some (.dat (.tuple ds), ρ) else none
def lstV (vs : Env → Option (List R × Env)) : Env → Option (R × Env) := fun ρ => do
  let (rs, ρ) ← vs ρ
  let (ds, ρ) ← frzAll rs ρ
  if ds.length ≤ sizeLine then some (.frs (.list ds), ρ) else none
theorem Stp.bring {K : PySem.W.Frag} {w : World} {σ : L2.St} {H H1 H2 : Hp} {B B1 B2 : Own} {ρ ρ1 : Env} (p : Pst K w σ H B ρ H1 B1 ρ1) (s : ∀ M : Own, (∀ a, M a → B1 a) → Stp M H1 B1 H2 B2) : Pst K w σ H B ρ H2 B2 ρ1 :=
  p.trans ⟨p.rel.stp (s (fun _ => False) fun _ h => h.elim) fun _ _ h => h, s _ p.rel.oaB, .refl, fun _ h => h⟩
theorem pb_tup {k : Nat} (h : PA X es (tAs X.K X.w vs)) : PB X (.Tuple es k pos) (ofV (tupV vs)) :=
  pb_of (PE.imp (pe_tup h) fun σ H Q ⟨B, ρ, r, ρ', rel, e, q⟩ => by
    obtain ⟨⟨rs, ρ1⟩, e1, e⟩ := bi e
    obtain ⟨⟨ds, ρ2⟩, e2, e⟩ := bi e
    obtain ⟨hz, e⟩ := ifs e
    cases e
    refine ⟨B, ρ, rs, ρ1, rel, e1, fun xs H1 B1 p1 r1 => ?_⟩
    obtain ⟨B2, p2, dq, _⟩ := frzAll_pst rel p1 r1 e2
    refine ⟨by rw [dq.length]; exact hz, fun p np => ?_⟩
    exact q _ _ _ (Stp.bring p2 fun M hM => stp_new' np hM) (Out.tup np dq).va) fun _ => rfl
theorem pb_lst (h : PA X es (tAs X.K X.w vs)) : PB X (.List es pos) (ofV (lstV vs)) :=
  pb_of (PE.imp (pe_lst h) fun σ H Q ⟨B, ρ, r, ρ', rel, e, q⟩ => by
    obtain ⟨⟨rs, ρ1⟩, e1, e⟩ := bi e
    obtain ⟨⟨ds, ρ2⟩, e2, e⟩ := bi e
    obtain ⟨hz, e⟩ := ifs e
    cases e
    refine ⟨B, ρ, rs, ρ1, rel, e1, fun xs H1 B1 p1 r1 => ?_⟩
    obtain ⟨B2, p2, dq, _⟩ := frzAll_pst rel p1 r1 e2
    refine ⟨by rw [dq.length]; exact hz, fun p np => ?_⟩
    have o : Out X.K X.w H1 B2 (.list ds, true) _ _ _ := Out.lst np dq
    exact q _ _ _ (Stp.bring p2 o.st) (RR.low p2.stp.tr (RR.out (σ := σ) o))) fun _ => rfl
/-! ### subscripts -/
def idxR (x y : D) : Option (D × Bool) := (idxD x y).map fun d => (d, false)
theorem at_map {α : Type} {xs : List α} {i : Int} {v : α} (h : atI xs i = some v) : ∃ j, ixN xs.length i = some j ∧ xs[j]? = some v := by
  unfold atI at h
  cases e : ixN xs.length i with
  | none => rw [e] at h; cases h
  | some j => rw [e] at h; exact ⟨j, rfl, h⟩
theorem atI_of {α : Type} {xs : List α} {i : Int} {v : α} {j : Nat} (e : ixN xs.length i = some j) (h : xs[j]? = some v) : atI xs i = some v := by
  unfold atI
  rw [e]
  exact h
theorem dqs_at {K : PySem.W.Frag} {w : World} {H : Hp} {B : Own} {xs : List V} {ds : List D} {i : Int} {d : D} (h : Dqs K w H B xs ds) (e : atI ds i = some d) : ∃ v, atI xs i = some v ∧ Dq K w H B v d := by
  obtain ⟨j, e1, e2⟩ := at_map e
  obtain ⟨v, e3, dq⟩ := h.get e2
  exact ⟨v, atI_of (by rw [h.length]; exact e1) e3, dq⟩
theorem keyOk_inv {k : D} (h : keyOk k = true) : ∃ z, k = .str z := by
  unfold keyOk at h
  split at h
  · exact ⟨_, rfl⟩
  · cases h
theorem relS_dq {K : PySem.W.Frag} {w : World} {H : Hp} {B : Own} {d : D} {u : Value} (h : RelS d u) : ∃ v, RelV v u ∧ Dq K w H B v d := by
  cases d with
  | none => exact ⟨.non, h, .non⟩
  | bool b => exact ⟨.bl b, h, .bl b⟩
  | int b => exact ⟨.int b, h, .int b⟩
  | str b => exact ⟨.str b, h, .str b⟩
  | _ => exact h.elim
theorem ob_idx : IxR X (rB X.K X.w idxR) := by
  intro value slice pins s σ H x y v u Q I rx ry h hs
  obtain ⟨B, a, b, z, va, vb, e, q⟩ := h
  unfold idxR at e
  cases h1 : idxD a b with
  | none => rw [h1] at e; cases e
  | some d =>
    rw [h1] at e
    cases e
    unfold idxD at h1
    split at h1
    · cases vb.int
      obtain ⟨p, xs, rfl, h2, h3⟩ := va.list
      obtain ⟨r, e1, dq⟩ := dqs_at h3 h1
      exact ix_list value slice pins s σ H _ _ v u Q I rx ry ⟨p, xs, _, r, rfl, rfl, sq_of h2, e1, q _ _ _ (.same dq)⟩ hs
    · cases vb.int
      obtain ⟨p, xs, rfl, h2, h3⟩ := va.tuple
      obtain ⟨r, e1, dq⟩ := dqs_at h3 h1
      exact ix_tup value slice pins s σ H _ _ v u Q I rx ry ⟨p, xs, _, r, rfl, rfl, h2, e1, q _ _ _ (.same dq)⟩ hs
    · cases vb.int
      cases va.str
      obtain ⟨hz, h1⟩ := ifs h1
      rename_i z0 i0 _
      cases h2 : atI z0.cps.toList i0 with
      | none => rw [h2] at h1; cases h1
      | some c =>
        rw [h2] at h1
        cases h1
        exact ix_str value slice pins s σ H _ _ v u Q I rx ry ⟨_, _, c, rfl, rfl, hz, h2, q _ _ _ (.same (.str _))⟩ hs
    · obtain ⟨hk, h1⟩ := ifs h1
      obtain ⟨z, rfl⟩ := keyOk_inv hk
      cases vb.str
      obtain ⟨p, rfl, W⟩ := va.dict
      obtain ⟨es, n, hl, lit, _⟩ := W.ex
      obtain ⟨u0, hu, rs⟩ := W.hit z _ h1
      obtain ⟨v0, rv, dq⟩ := relS_dq (K := X.K) (w := X.w) (H := H) (B := B) rs
      exact ix_kdict value slice pins s σ H _ _ v u Q I rx ry ⟨p, z, v0, rfl, rfl, ⟨es, n, u0, hl, lit, hu, rv⟩, q _ _ _ (.same dq)⟩ hs
    · cases h1
theorem pb_idx (ha : PB X a sa) (hb : PB X b sb) (hs : PlainIx b) : PB X (.Subscript a b pos) (ofV (bothV sa.v sb.v idxR)) := pb_of (PE.imp (pe_ix ob_idx ha.v hb.v hs) both_rd) fun _ => rfl
def rS3 (K : PySem.W.Frag) (w : World) : V → Option Int → Option Int → Hp → VK → Prop := fun x lo hi H Q => ∃ B a z, Vr K w H B x a ∧ slcD a lo hi = some z ∧ ∀ x' H' B', Out K w H B z x' H' B' → Q x' H'
theorem cut_len {α β : Type} (xs : List α) (ys : List β) (h : xs.length = ys.length) (lo hi : Option Int) : HT.sIx xs.length 0 lo = HT.sIx ys.length 0 lo := by rw [h]
theorem dqs_cut {K : PySem.W.Frag} {w : World} {H : Hp} {B : Own} {xs : List V} {ds : List D} (h : Dqs K w H B xs ds) (lo hi : Option Int) : Dqs K w H B (cutV xs lo hi) (cutD ds lo hi) := by
  unfold cutV cutD
  rw [h.length]
  exact (h.drop _).take _
theorem ob_slc : SlR X (rS3 X.K X.w) := by
  intro pins s σ H x v vl vu lo hi sl Q I rx hs pl pu h
  obtain ⟨B, a, z, va, e, q⟩ := h
  unfold slcD at e
  split at e
  · cases e
    obtain ⟨p, xs, rfl, h1, h2⟩ := va.list
    exact sl_list pins s σ H _ v vl vu lo hi sl Q I rx hs pl pu ⟨p, xs, rfl, sq_of h1, fun p np => q _ _ _ (.lst np (dqs_cut h2 lo hi))⟩
  · cases e
    rename_i ds
    obtain ⟨p, xs, rfl, h1, h2⟩ := va.tuple
    refine sl_tupA pins s σ H _ v vl vu lo hi sl Q I rx hs pl pu ⟨p, xs, rfl, h1, fun ⟨w1, w2⟩ => ?_, fun _ p np => q _ _ _ (.tup np (dqs_cut h2 lo hi))⟩
    have e : cutD ds lo hi = ds := by
      unfold cutD
      rw [← h2.length, w1, w2]
      simp [h2.length]
    rw [e] at q
    exact q _ _ _ (.same (va.dq fun _ z => by cases z))
  · cases e
def tO (K : PySem.W.Frag) (w : World) (v : Env → Option (Option Int × Env)) : TO := fun σ H Q => ∃ B ρ o ρ', Rel K w σ H B ρ ∧ v ρ = some (o, ρ') ∧ ∀ H' B', Pst K w σ H B ρ H' B' ρ' → Q o H'
def noO : Env → Option (Option Int × Env) := fun ρ => some (none, ρ)
def someO (v : Env → Option (R × Env)) : Env → Option (Option Int × Env) := fun ρ => do
  let (r, ρ) ← v ρ
  match ← res ρ r with
  | .int i => some (some i, ρ)
  | _ => none
theorem PO.imp {o : Option Expr} {t t' : TO} (h : PO X o t) (f : ∀ σ H Q, t' σ H Q → t σ H Q) : PO X o t' := ⟨fun pins s σ H Q I q => h.run pins s σ H Q I (f σ H Q q)⟩
theorem pbo_none : PO X none (tO X.K X.w noO) := PO.imp po_none fun σ H Q ⟨B, ρ, o, ρ', rel, e, q⟩ => by
  cases e
  exact q H B (.refl rel)
theorem pbo_some (h : PB X e s) : PO X (some e) (tO X.K X.w (someO s.v)) := PO.imp (po_some h.v) fun σ H Q ⟨B, ρ, o, ρ', rel, e, q⟩ => by
  obtain ⟨⟨r, ρ1⟩, e1, e⟩ := bi e
  obtain ⟨d, e2, e⟩ := bi e
  refine ⟨B, ρ, r, ρ1, rel, e1, fun x H1 B1 p rr => ?_⟩
  have vr := res_ok p.rel rr e2
  split at e
  · cases e
    exact ⟨_, vr.int, q _ _ p⟩
  · cases e
def slcV (v : Env → Option (R × Env)) (lo hi : Env → Option (Option Int × Env)) : Env → Option (R × Env) := fun ρ => do
  let (x, ρ) ← v ρ
  let (l, ρ) ← lo ρ
  let (h, ρ) ← hi ρ
  let x ← res ρ x
  let z ← slcD x l h
  some (mkR z, ρ)
theorem pb_slc {lo hi : Option Expr} {vl vh : Env → Option (Option Int × Env)} {p2 : Pos} (ha : PB X a sa) (hl : PO X lo (tO X.K X.w vl)) (hh : PO X hi (tO X.K X.w vh)) : PB X (.Subscript a (.Slice lo hi none p2) pos) (ofV (slcV sa.v vl vh)) :=
  pb_of (PE.imp (pe_slice ob_slc ha.v hl hh) fun σ H Q ⟨B, ρ, r, ρ', rel, e, q⟩ => by
    obtain ⟨⟨x, ρ1⟩, e1, e⟩ := bi e
    obtain ⟨⟨l, ρ2⟩, e2, e⟩ := bi e
    obtain ⟨⟨h, ρ3⟩, e3, e⟩ := bi e
    obtain ⟨d, e4, e⟩ := bi e
    obtain ⟨z, e5, e⟩ := bi e
    cases e
    refine ⟨B, ρ, x, ρ1, rel, e1, fun xv H1 B1 p1 r1 => ⟨B1, ρ1, l, ρ2, p1.rel, e2, fun H2 B2 p2 => ⟨B2, ρ2, h, _, p2.rel, e3, fun H3 B3 p3 => ?_⟩⟩⟩
    have p := (p1.trans p2).trans p3
    exact ⟨B3, d, z, res_ok p.rel (r1.keeps rel p1 (p2.trans p3)) e4, e5, fun x' H' B' o => q x' H' B' (p.trans (.out p.rel o)) (RR.low p.stp.tr (RR.out o))⟩) fun _ => rfl
def revV (v : Env → Option (R × Env)) : Env → Option (R × Env) := fun ρ => do
  let (x, ρ) ← v ρ
  let x ← res ρ x
  let z ← revD x
  some (mkR z, ρ)
theorem pb_rev {k : Nat} {p1 p2 p3 : Pos} (ha : PB X a sa) : PB X (.Subscript a (.Slice none none (some (.UnaryOp .USub (.Constant (.int 1) k p1) p2)) p3) pos) (ofV (revV sa.v)) :=
  pb_of (PE.imp (pe_revL ha.v) fun σ H Q ⟨B, ρ, r, ρ', rel, e, q⟩ => by
    obtain ⟨⟨x, ρ1⟩, e1, e⟩ := bi e
    obtain ⟨d, e2, e⟩ := bi e
    obtain ⟨z, e3, e⟩ := bi e
    cases e
    refine ⟨B, ρ, x, _, rel, e1, fun xv H1 B1 p1 r1 => ?_⟩
    have vr := res_ok p1.rel r1 e2
    unfold revD at e3
    split at e3
    · cases e3
      obtain ⟨p, xs, rfl, h1, h2⟩ := vr.list
      refine ⟨p, xs, rfl, sq_of h1, fun p np => ?_⟩
      have o : Out X.K X.w H1 B1 (.list _, true) _ _ _ := Out.lst np h2.reverse
      exact q _ _ _ (Stp.bring p1 o.st) (RR.low p1.stp.tr (RR.out (ρ' := ρ') (σ := σ) o))
    · cases e3) fun _ => rfl
end
end Mp

namespace Mp
open PySem PySem.Spec L2
section
variable {X : Cx} {e a b c : Expr} {es : List Expr} {t t' : TE} {sa sb sc s : Sm} {pos p apos : Pos} {vs : Env → Option (List R × Env)}
def chainV (op op' : Cmp) (va vb vc : Env → Option (R × Env)) : Env → Option (R × Env) := fun ρ => do
  let (x, ρ) ← va ρ
  let (y, ρ) ← vb ρ
  let x ← res ρ x
  let y' ← res ρ y
  let k ← cmpD op x y'
  if k then do
    let (z, ρ) ← vc ρ
    let y' ← res ρ y
    let z ← res ρ z
    let k ← cmpD op' y' z
    some (.dat (.bool k), ρ)
  else some (.dat (.bool false), ρ)
theorem bD_of {f : D → D → Option Bool} {a b : D} {k : Bool} (h : f a b = some k) : bD f a b = some (.bool k, false) := by unfold bD; rw [h]; rfl
theorem chain_rd {op op' : Cmp} {K : PySem.W.Frag} {w : World} {va vb vc : Env → Option (R × Env)} : ∀ σ H Q, tE K w (chainV op op' va vb vc) σ H Q →
    tChain (rB K w (bD (cmpD op))) (rB K w (bD (cmpD op'))) (tE K w va) (tE K w vb) (tE K w vc) σ H Q := fun σ H Q ⟨B, ρ, r, ρ', rel, e, q⟩ => by
  obtain ⟨⟨x, ρ1⟩, e1, e⟩ := bi e
  obtain ⟨⟨y, ρ2⟩, e2, e⟩ := bi e
  obtain ⟨dx, e3, e⟩ := bi e
  obtain ⟨dy, e4, e⟩ := bi e
  obtain ⟨k, e5, e⟩ := bi e
  refine ⟨B, ρ, x, ρ1, rel, e1, fun xv H1 B1 p1 r1 => ⟨B1, ρ1, y, ρ2, p1.rel, e2, fun yv H2 B2 p2 r2 => ?_⟩⟩
  have p := p1.trans p2
  refine ⟨B2, dx, dy, _, res_ok p.rel (r1.keeps rel p1 p2) e3, res_ok p.rel (r2.low p1.stp.tr) e4, bD_of e5, fun z H3 B3 o => ⟨k, ?_, ?_⟩⟩
  · have h := o.va
    rw [if_neg (by simp)] at h
    exact h.blI
  · have p3 := Pst.out p.rel o
    cases k with
    | false =>
      rw [if_neg (by simp)] at e ⊢
      cases e
      exact q _ _ _ (p.trans p3) (Dq.bl _)
    | true =>
      rw [if_pos rfl] at e ⊢
      obtain ⟨⟨z', ρ3⟩, e6, e⟩ := bi e
      obtain ⟨dy', e7, e⟩ := bi e
      obtain ⟨dz, e8, e⟩ := bi e
      obtain ⟨k', e9, e⟩ := bi e
      cases e
      refine ⟨B3, ρ2, z', _, p3.rel, e6, fun zv H4 B4 p4 r4 => ?_⟩
      have q4 := (p.trans p3).trans p4
      have ry := (r2.low p1.stp.tr).keeps rel p (p3.trans p4)
      exact ⟨B4, dy', dz, _, res_ok q4.rel ry e7, res_ok q4.rel (r4.low (p.trans p3).stp.tr) e8, bD_of e9, fun x' H' B' o' => q _ _ _ (q4.trans (.out q4.rel o')) (RR.low q4.stp.tr (RR.out o'))⟩
theorem pb_chain {op op' : Cmp} (hu : Deep X.A) (ha : PB X a sa) (hb : PB X b sb) (hc : PB X c sc) (hm : lastMarks [opC op, opC op'] [b, c] = false) : PB X (.Compare a [opC op, opC op'] [b, c] pos) (ofV (chainV op op' sa.v sb.v sc.v)) :=
  pb_cmp (r := rB X.K X.w (bD (cmpD op))) (op := .Eq) (PE.imp (pe_chain (oc_cmp hu op) (oc_cmp hu op') ha.v hb.v hc.v hm) chain_rd) (pt_chain (oc_cmp hu op) (oc_cmp hu op') ha.v hb.v hc.v hm) chain_rd fun ρ r ρ' e => by
    obtain ⟨⟨x, ρ1⟩, e1, e⟩ := bi e
    obtain ⟨⟨y, ρ2⟩, e2, e⟩ := bi e
    obtain ⟨dx, e3, e⟩ := bi e
    obtain ⟨dy, e4, e⟩ := bi e
    obtain ⟨k, e5, e⟩ := bi e
    cases k with
    | false => cases e; exact ⟨_, rfl⟩
    | true =>
      rw [if_pos rfl] at e
      obtain ⟨⟨z', ρ3⟩, e6, e⟩ := bi e
      obtain ⟨dy', e7, e⟩ := bi e
      obtain ⟨dz, e8, e⟩ := bi e
      obtain ⟨k', e9, e⟩ := bi e
      cases e
      exact ⟨_, rfl⟩

/-! ### built-ins by name -/
inductive Vrs (K : PySem.W.Frag) (w : World) (H : Hp) (B : Own) : List V → List D → Prop
  | nil : Vrs K w H B [] []
  | cons {v : V} {d : D} {vs : List V} {ds : List D} : Vr K w H B v d → Vrs K w H B vs ds → Vrs K w H B (v :: vs) (d :: ds)
theorem ress_ok {K : PySem.W.Frag} {w : World} {σ : L2.St} {ρ : Env} {H0 H : Hp} {B : Own} (rel : Rel K w σ H B ρ) : ∀ {vs : List V} {rs : List R} {ds : List D}, RRs K w σ ρ H0 H B vs rs → rs.mapM (res ρ) = some ds → Vrs K w H B vs ds
  | _, [], ds, h, e => by
    cases h
    cases e
    exact .nil
  | _, r :: rs, ds, h, e => by
    cases h with
    | cons h1 h2 h3 =>
      rw [List.mapM_cons] at e
      obtain ⟨d, e1, e⟩ := bi e
      obtain ⟨ds', e2, e⟩ := bi e
      cases e
      exact .cons (res_ok rel h1 e1) (ress_ok rel h3 e2)
def rF (K : PySem.W.Frag) (w : World) (f : List D → Option (D × Bool)) : List V → Hp → VK → Prop := fun xs H Q => ∃ B ds z, Vrs K w H B xs ds ∧ f ds = some z ∧ ∀ x' H' B', Out K w H B z x' H' B' → Q x' H'
def bfV (f : List D → Option (D × Bool)) (vs : Env → Option (List R × Env)) : Env → Option (R × Env) := fun ρ => do
  let (rs, ρ) ← vs ρ
  let ds ← rs.mapM (res ρ)
  let z ← f ds
  some (mkR z, ρ)
theorem bf_rd {K : PySem.W.Frag} {w : World} {f : List D → Option (D × Bool)} : ∀ σ H Q, tE K w (bfV f vs) σ H Q → tCB (rF K w f) (tAs K w vs) σ H Q := fun σ H Q ⟨B, ρ, r, ρ', rel, e, q⟩ => by
  obtain ⟨⟨rs, ρ1⟩, e1, e⟩ := bi e
  obtain ⟨ds, e2, e⟩ := bi e
  obtain ⟨z, e3, e⟩ := bi e
  cases e
  exact ⟨B, ρ, rs, _, rel, e1, fun xs H1 B1 p1 r1 => ⟨B1, ds, z, ress_ok p1.rel r1 e2, e3, fun x' H' B' o => q _ _ _ (p1.trans (.out p1.rel o)) (RR.low p1.stp.tr (RR.out o))⟩⟩
theorem pb_bfB {id : String} {x : Str} {f : List D → Option (D × Bool)} (hc : CallR X (.builtin id) (rF X.K X.w f)) (hg : Gl X x) (hm : X.mg x = none) (hv : bootBuiltins x = some (.builtin id)) (ha : PA X (e :: es) (tAs X.K X.w vs)) (hn : x ≠ "__name__") (hdb : (x == ("__debug__" : Str)) = false)
    (he : starEach (e :: es) X.env = (false, eval e X.env) :: starEach es X.env) (hpl : (backTo pos (starEach es X.env)).any (·.1) = false) : PB X (.Call (.Name x p) (e :: es) [] pos) (ofV (bfV f vs)) :=
  pb_of (PE.imp (pe_callB hc hg hm hv ha hn hdb he hpl) bf_rd) fun _ => rfl
theorem pb_bfT {T : String} {x : Str} {f : List D → Option (D × Bool)} (hc : CallR X (.type T) (rF X.K X.w f)) (hg : Gl X x) (hm : X.mg x = none) (hv : bootBuiltins x = some (.type T)) (ha : PA X (e :: es) (tAs X.K X.w vs)) (hn : x ≠ "__name__") (hdb : (x == ("__debug__" : Str)) = false)
    (he : starEach (e :: es) X.env = (false, eval e X.env) :: starEach es X.env) (hpl : (backTo pos (starEach es X.env)).any (·.1) = false) : PB X (.Call (.Name x p) (e :: es) [] pos) (ofV (bfV f vs)) :=
  pb_of (PE.imp (pe_callTy hc hg hm hv ha hn hdb he hpl) bf_rd) fun _ => rfl
theorem vrs1 {K : PySem.W.Frag} {w : World} {H : Hp} {B : Own} {xs : List V} {d : D} (h : Vrs K w H B xs [d]) : ∃ x, xs = [x] ∧ Vr K w H B x d := by
  cases h with
  | cons h1 h2 => cases h2; exact ⟨_, rfl, h1⟩
theorem vrs2 {K : PySem.W.Frag} {w : World} {H : Hp} {B : Own} {xs : List V} {d d' : D} (h : Vrs K w H B xs [d, d']) : ∃ x y, xs = [x, y] ∧ Vr K w H B x d ∧ Vr K w H B y d' := by
  cases h with
  | cons h1 h2 =>
    obtain ⟨y, rfl, h3⟩ := vrs1 h2
    exact ⟨_, y, rfl, h1, h3⟩
theorem dqs_bools {K : PySem.W.Frag} {w : World} {H : Hp} {B : Own} : ∀ {ds : List D} {xs : List V} {bs : List Bool}, Dqs K w H B xs ds → allBools ds = some bs → xs = bs.map V.bl
  | [], _, _, h, e => by cases h; cases e; rfl
  | .bool b :: ds, _, _, h, e => by
    cases h with
    | cons h1 h2 =>
      unfold allBools at e
      cases e1 : allBools ds with
      | none => rw [e1] at e; cases e
      | some bs => rw [e1] at e; cases e; cases h1; rw [dqs_bools h2 e1]; rfl
theorem dqs_ints {K : PySem.W.Frag} {w : World} {H : Hp} {B : Own} : ∀ {ds : List D} {xs : List V} {bs : List Int}, Dqs K w H B xs ds → allInts ds = some bs → xs = bs.map V.int
  | [], _, _, h, e => by cases h; cases e; rfl
  | .int b :: ds, _, _, h, e => by
    cases h with
    | cons h1 h2 =>
      unfold allInts at e
      cases e1 : allInts ds with
      | none => rw [e1] at e; cases e
      | some bs => rw [e1] at e; cases e; cases h1; rw [dqs_ints h2 e1]; rfl
theorem dqs_strs {K : PySem.W.Frag} {w : World} {H : Hp} {B : Own} : ∀ {ds : List D} {xs : List V} {bs : List Str}, Dqs K w H B xs ds → allStrs ds = some bs → xs = bs.map V.str
  | [], _, _, h, e => by cases h; cases e; rfl
  | .str b :: ds, _, _, h, e => by
    cases h with
    | cons h1 h2 =>
      unfold allStrs at e
      cases e1 : allStrs ds with
      | none => rw [e1] at e; cases e
      | some bs => rw [e1] at e; cases e; cases h1; rw [dqs_strs h2 e1]; rfl
def idB : Bf → Value
  | .len => .builtin "len" | .int => .type "int" | .str => .type "str" | .list => .type "list" | .tuple => .type "tuple" | .sorted => .builtin "sorted" | .all => .builtin "all"
  | .any => .builtin "any" | .sum => .builtin "sum" | .max => .builtin "max" | .min => .builtin "min" | .abs => .builtin "abs"
theorem map_inv {α β : Type} {x : Option α} {f : α → β} {b : β} (h : x.map f = some b) : ∃ a, x = some a ∧ b = f a := by
  cases x with
  | none => cases h
  | some a => cases h; exact ⟨a, rfl, rfl⟩
theorem ob_bf (hcalm : X.calm = true) (b : Bf) : CallR X (idB b) (rF X.K X.w (bfD b)) := by
  intro pins s σ H xs us Q I r h
  obtain ⟨B, ds, z, vr, e, q⟩ := h
  unfold bfD at e
  split at e
  · cases e
    obtain ⟨x, rfl, v⟩ := vrs1 vr
    obtain ⟨p, ys, rfl, h1, h2⟩ := v.list
    exact call_len pins s σ H _ us Q I r ⟨_, _, rfl, .inl ⟨ys, sq_of h1, rfl⟩, by rw [h2.length]; exact q _ _ _ (.same (.int _))⟩
  · cases e
    obtain ⟨x, rfl, v⟩ := vrs1 vr
    obtain ⟨p, ys, rfl, h1, h2⟩ := v.tuple
    exact call_len pins s σ H _ us Q I r ⟨_, _, rfl, .inr ⟨ys, h1, rfl⟩, by rw [h2.length]; exact q _ _ _ (.same (.int _))⟩
  · obtain ⟨hz, e⟩ := ifs e
    cases e
    obtain ⟨x, rfl, v⟩ := vrs1 vr
    cases v.str
    exact call_len pins s σ H _ us Q I r ⟨_, _, rfl, ⟨hz, rfl⟩, q _ _ _ (.same (.int _))⟩
  · cases e
    obtain ⟨x, rfl, v⟩ := vrs1 vr
    cases v.int
    exact call_int1 pins s σ H _ us Q I r (.inl ⟨_, rfl, q _ _ _ (.same (.int _))⟩)
  · cases e
    obtain ⟨x, rfl, v⟩ := vrs1 vr
    cases v.bl
    exact call_int1 pins s σ H _ us Q I r (.inr ⟨_, rfl, q _ _ _ (.same (.int _))⟩)
  · obtain ⟨hz, e⟩ := ifs e
    cases e
    obtain ⟨x, rfl, v⟩ := vrs1 vr
    cases v.int
    exact call_str_int pins s σ H _ us Q I r ⟨_, rfl, hz, q _ _ _ (.same (.str _))⟩
  · cases e
    obtain ⟨x, rfl, v⟩ := vrs1 vr
    obtain ⟨p, ys, rfl, h1, h2⟩ := v.list
    exact call_list_of pins s σ H _ us Q I r ⟨_, _, rfl, .inl (sq_of h1), fun l nl => q _ _ _ (.lst nl h2)⟩
  · cases e
    obtain ⟨x, rfl, v⟩ := vrs1 vr
    obtain ⟨p, ys, rfl, h1, h2⟩ := v.tuple
    exact call_list_of pins s σ H _ us Q I r ⟨_, _, rfl, .inr h1, fun l nl => q _ _ _ (.lst nl h2)⟩
  · cases e
    obtain ⟨x, rfl, v⟩ := vrs1 vr
    obtain ⟨p, ys, rfl, h1, h2⟩ := v.list
    exact call_tuple_of pins s σ H _ us Q I r ⟨_, _, rfl, .inl ⟨sq_of h1, fun l nl => q _ _ _ (.tup nl h2)⟩⟩
  · cases e
    obtain ⟨x, rfl, v⟩ := vrs1 vr
    have dq := v.dq fun _ z => by cases z
    obtain ⟨p, ys, rfl, h1, h2⟩ := v.tuple
    exact call_tuple_of pins s σ H _ us Q I r ⟨_, _, rfl, .inr ⟨h1, q _ _ _ (.same dq)⟩⟩
  · obtain ⟨bs, e1, rfl⟩ := map_inv e
    obtain ⟨x, rfl, v⟩ := vrs1 vr
    obtain ⟨p, ys, rfl, h1, h2⟩ := v.list
    rw [dqs_bools h2 e1] at h1
    exact cr_all hcalm pins s σ H _ us Q I r ⟨_, bs, rfl, sq_of h1, q _ _ _ (.same (.bl _))⟩
  · obtain ⟨bs, e1, rfl⟩ := map_inv e
    obtain ⟨x, rfl, v⟩ := vrs1 vr
    obtain ⟨p, ys, rfl, h1, h2⟩ := v.list
    rw [dqs_bools h2 e1] at h1
    exact cr_any hcalm pins s σ H _ us Q I r ⟨_, bs, rfl, sq_of h1, q _ _ _ (.same (.bl _))⟩
  · obtain ⟨bs, e1, rfl⟩ := map_inv e
    obtain ⟨x, rfl, v⟩ := vrs1 vr
    obtain ⟨p, ys, rfl, h1, h2⟩ := v.list
    rw [dqs_ints h2 e1] at h1
    exact cr_sum hcalm pins s σ H _ us Q I r ⟨_, bs, rfl, sq_of h1, q _ _ _ (.same (.int _))⟩
  · cases e
    obtain ⟨x, rfl, v⟩ := vrs1 vr
    cases v.int
    exact call_abs pins s σ H _ us Q I r ⟨_, rfl, q _ _ _ (.same (.int _))⟩
  · cases e
/-! ### isinstance -/
def tyS : Ty → String
  | .int => "int" | .str => "str" | .tuple => "tuple" | .list => "list" | .dict => "dict" | .bool => "bool"
def dS : D → String
  | .none => "NoneType" | .bool _ => "bool" | .int _ => "int" | .str _ => "str" | .list _ => "list" | .tuple _ => "tuple" | .dict _ => "dict"
theorem ty_of {H : Hp} {B : Own} {K : PySem.W.Frag} {w : World} {x : V} {d : D} (h : Vr K w H B x d) : TyX K H x (.type (dS d)) := by
  rcases h with h | ⟨p, rfl, h⟩
  · cases h with
    | non => exact .base .non
    | bl b => exact .base (.bl b)
    | int b => exact .base (.int b)
    | str b => exact .base (.str b)
    | lst r n q =>
      rcases r with r | ⟨o, r⟩
      · exact .base (.lst r)
      · exact .base (.frz r)
    | lstW r q => obtain ⟨its, n, e, _⟩ := r; exact .kList e rfl
    | tup r n q =>
      rcases r with r | ⟨o, r⟩
      · exact .base (.tup r)
      · exact .fTuple r
    | tupW r q => obtain ⟨o, its, n, e, c, _⟩ := r; exact .kTuple e c
    | dicW r => obtain ⟨es, n, e, _⟩ := r.ex; exact .kDict e rfl
  · obtain ⟨ds, xs, rfl, _, e, _⟩ := h.list
    exact .base (.lst e)
theorem kit_all (K : PySem.W.Frag) (d : D) (t : Ty) : PySem.W.kitOne K (.type (dS d)) (.type (tyS t)) = some (tyOf d t) := by
  cases d <;> cases t <;> (refine kit_ty ?_; simp only [dS, tyS, tyOf]; decide +kernel)
def isiV (va : Env → Option (R × Env)) (t : Ty) : Env → Option (R × Env) := fun ρ => do
  let (x, ρ) ← va ρ
  let d ← res ρ x
  some (.dat (.bool ([t].any (tyOf d))), ρ)
theorem pb_isi {x2 : Str} {p2 : Pos} {t : Ty} (ha : PB X a sa) (hg : Gl X "isinstance") (hm : X.mg "isinstance" = none) (hg2 : Gl X x2) (hm2 : X.mg x2 = none) (hv2 : bootBuiltins x2 = some (.type (tyS t))) (hn2 : x2 ≠ "__name__") (hd2 : (x2 == ("__debug__" : Str)) = false)
    (hs : ∀ es, starEach (a :: es) X.env = (false, eval a X.env) :: starEach es X.env) : PB X (.Call (.Name "isinstance" p) [a, .Name x2 p2] [] pos) (ofV (isiV sa.v t)) :=
  pb_of (PE.imp (pe_callB call_isi hg hm (by decide +kernel) (pa_cons ha.v (pa_cons (pe_bltn hg2 hm2 hv2 (v := .ty (tyS t)) rfl hn2 hd2) pa_nil) (hs _)) (by decide) (by decide) (hs _)) fun σ H Q ⟨B, ρ, r, ρ', rel, e, q⟩ => by
    obtain ⟨⟨x, ρ1⟩, e1, e⟩ := bi e
    obtain ⟨d, e2, e⟩ := bi e
    cases e
    refine ⟨B, ρ, x, _, rel, e1, fun xv H1 B1 p1 r1 => ?_⟩
    have vr := res_ok p1.rel r1 e2
    refine ⟨xv, _, _, _, tyOf d t, rfl, .ty _, ty_of vr, kit_all _ d t, ?_⟩
    have : [t].any (tyOf d) = tyOf d t := by simp
    rw [this] at q
    exact q _ _ _ p1 (Dq.bl _)) fun _ => rfl
/-! ### methods -/
def rM (K : PySem.W.Frag) (w : World) (f : D → List D → Option (D × Bool)) : V → List V → Hp → VK → Prop := fun x xs H Q => ∃ B d ds z, Vr K w H B x d ∧ Vrs K w H B xs ds ∧ f d ds = some z ∧ ∀ x' H' B', Out K w H B z x' H' B' → Q x' H'
/-- an own list is changed in place -/
def rO (K : PySem.W.Frag) (w : World) (m : Mt) : V → List V → Hp → VK → Prop := fun x xs H Q => ∃ B p d ds y d', x = .ref p ∧ OwnAt K w H B p d ∧ Dqs K w H B xs ds ∧ ownMeth m d ds = some (y, d') ∧
  ∀ x' o, Dq K w (upd H p o) B x' y → OwnAt K w (upd H p o) B p d' → Q x' (upd H p o)
theorem keeps_upd {H : Hp} {B : Own} {p : Addr} {o : HO} (b : B p) : Keeps H B (upd H p o) B := fun a u e n => ⟨by rw [upd_ne (fun z => n (by rw [z]; exact b))]; exact e, n⟩
theorem mo_append : MtR X "list.append" (rO X.K X.w .append) := by
  intro pins s σ H x xs v us Q I rx rs h
  obtain ⟨B, p, d, ds, y, d', rfl, ow, dq, e, q⟩ := h
  change appD d ds = _ at e
  unfold appD at e
  split at e
  case h_2 => cases e
  obtain ⟨hz, e⟩ := ifs e
  cases e
  cases dq with
  | cons d1 d2 =>
    cases d2
    obtain ⟨b, zs, eh, dz⟩ := ow
    refine mt_append pins s σ H _ _ v us Q I rx rs ⟨p, zs, _, rfl, rfl, eh, by rw [dz.length]; exact hz, q _ _ .non ⟨b, _, upd_same, (dz.keeps (keeps_upd b)).append (.one (d1.keeps (keeps_upd b)))⟩⟩
theorem mo_extend : MtR X "list.extend" (rO X.K X.w .extend) := by
  intro pins s σ H x xs v us Q I rx rs h
  obtain ⟨B, p, d, ds, y, d', rfl, ow, dq, e, q⟩ := h
  change extD d ds = _ at e
  unfold extD at e
  split at e
  case h_2 => cases e
  obtain ⟨hz, e⟩ := ifs e
  cases e
  cases dq with
  | cons d1 d2 =>
    cases d2
    obtain ⟨b, zs, eh, dz⟩ := ow
    obtain ⟨p2, ys, rfl, h2, dy⟩ := d1.list
    have kp := keeps_upd (H := H) (o := HO.lst (zs ++ ys)) b
    cases rx
    obtain ⟨u, rfl, ru⟩ := rs.one
    cases ru
    obtain ⟨_, its, n, r, hl, e1⟩ := I.lstM eh
    obtain ⟨its2, n2, r2, hl2, _, e2⟩ := lst_at I h2
    have k1 := dz.length
    have k2 := dy.length
    have hz' : its.length + its2.length ≤ sizeLine := by omega
    have hsz : its.toArray.size + its2.toArray.size ≤ sizeLine := by rw [List.size_toArray, List.size_toArray]; exact hz'
    have hlong : ¬ (!its.toArray.isEmpty && Builtin.List.listTooLong (its.toArray.size + its2.toArray.size)) = true := by
      rw [notLongL hsz, Bool.and_false]
      exact Bool.false_ne_true
    have hs2 : its.length ≤ sizeLine := by omega
    refine call_meets F.slot_list_extend ⟨_, e1, rfl⟩ F.entry_list_extend (F.args_list_extend_2 _ _)
      (AutoSeq1.list_extend_list_list_0 p its.toArray n p2 its2.toArray n2 hlong (by rw [List.size_toArray]; exact hs2) (by omega)) ⟨e1, e2, ?_⟩
    exact ⟨.non, _, I.lset (its' := its ++ its2) eh e1 (by simp) (r.append r2) (by rw [List.length_append]; omega), rfl, q _ _ .non ⟨b, _, upd_same, (dz.keeps kp).append (dy.keeps kp)⟩⟩
theorem last_get {α : Type} (xs : List α) : xs.getLast? = xs[xs.length - 1]? := List.getLast?_eq_getElem?
theorem mo_pop : MtR X "list.pop" (rO X.K X.w .pop) := by
  intro pins s σ H x xs v us Q I rx rs h
  obtain ⟨B, p, d, ds, y, d', rfl, ow, dq, e, q⟩ := h
  change popD d ds = _ at e
  unfold popD at e
  split at e
  case h_2 => cases e
  obtain ⟨z, e1, e2⟩ := map_inv e
  cases e2
  cases dq
  obtain ⟨b, zs, eh, dz⟩ := ow
  rw [last_get] at e1
  obtain ⟨vz, e3, d3⟩ := dz.get e1
  have kp := keeps_upd (H := H) (o := HO.lst zs.dropLast) b
  exact mt_pop pins s σ H _ _ v us Q I rx rs ⟨p, zs, vz, rfl, rfl, eh, by rw [dz.length]; exact e3, q _ _ (d3.keeps kp) ⟨b, _, upd_same, (dz.keeps kp).dropLast⟩⟩

theorem dqs_flat {H : Hp} {B : Own} {y : D} {v : V} (fy : flat y = true) (hy : Dq X.K X.w H B v y) : ∀ {ds : List D} {vs : List V} {n : Nat}, ds.all flat = true → Dqs X.K X.w H B vs ds → indexD ds y = some n →
    ∃ z, vs[n]? = some z ∧ eqV z v = true ∧ ∀ (m : Nat) (z' : V), m < n → vs[m]? = some z' → eqV z' v = false
  | d :: ds, _, n, f, h, e => by
    cases h with
    | @cons x xs _ _ h1 h2 =>
      rw [List.all_cons, Bool.and_eq_true] at f
      unfold indexD at e
      split at e
      · cases e
        rename_i hz
        exact ⟨x, rfl, by rw [eqv_flat f.1 fy h1 hy]; exact hz, fun m z' hm => absurd hm (Nat.not_lt_zero m)⟩
      · rename_i hz
        obtain ⟨n', e1, rfl⟩ := map_inv e
        obtain ⟨z, k1, k2, k3⟩ := dqs_flat fy hy f.2 h2 e1
        refine ⟨z, by simpa using k1, k2, fun m z' hm hz' => ?_⟩
        cases m with
        | zero =>
          simp at hz'
          subst hz'
          rw [eqv_flat f.1 fy h1 hy]
          simpa using hz
        | succ m => exact k3 m z' (by omega) (by simpa using hz')
theorem index_strs {y : Str} : ∀ {ds : List D} {ys : List Str} {n : Nat}, allStrs ds = some ys → indexD ds (.str y) = some n → ys[n]? = some y ∧ ∀ m, m < n → ys[m]? ≠ some y
  | .str x :: ds, ys, n, e1, e2 => by
    unfold allStrs at e1
    obtain ⟨zs, k1, rfl⟩ := map_inv e1
    unfold indexD at e2
    split at e2
    · cases e2
      rename_i hz
      have : x = y := by simpa [PyData.eqv] using hz
      subst this
      exact ⟨rfl, fun m hm => absurd hm (Nat.not_lt_zero m)⟩
    · rename_i hz
      obtain ⟨n', k2, rfl⟩ := map_inv e2
      obtain ⟨k3, k4⟩ := index_strs k1 k2
      refine ⟨by simpa using k3, fun m hm => ?_⟩
      cases m with
      | zero =>
        intro z
        simp at z
        subst z
        exact hz (by simp [PyData.eqv])
      | succ m => simpa using k4 m (by omega)
theorem md_indexL : MtR X "list.index" (rM X.K X.w indexLD) := by
  intro pins s σ H x xs v us Q I rx rs h
  obtain ⟨B, d, ds, z, va, vb, e, q⟩ := h
  unfold indexLD at e
  split at e
  · obtain ⟨f, e⟩ := ifs e
    obtain ⟨n, e1, rfl⟩ := map_inv e
    rw [List.all_cons, Bool.and_eq_true] at f
    obtain ⟨y, rfl, vy⟩ := vrs1 vb
    obtain ⟨p, ys, rfl, h1, h2⟩ := va.list
    have dy := vy.dq (flat_nl f.1)
    obtain ⟨z, k1, k2, k3⟩ := dqs_flat f.1 dy f.2 h2 e1
    exact mt_index pins s σ H _ _ v us Q I rx rs ⟨p, ys, y, n, z, rfl, rfl, sq_of h1, flat_v f.1 dy, all_flat f.2 h2, k1, k2, k3, q _ _ _ (.same (.int _))⟩
  · cases e
theorem md_indexT : MtR X "tuple.index" (rM X.K X.w indexTD) := by
  intro pins s σ H x xs v us Q I rx rs h
  obtain ⟨B, d, ds, z, va, vb, e, q⟩ := h
  unfold indexTD at e
  split at e
  · obtain ⟨ys, e1, e⟩ := bi e
    obtain ⟨n, e2, rfl⟩ := map_inv e
    obtain ⟨y, rfl, vy⟩ := vrs1 vb
    cases vy.str
    obtain ⟨p, zs, rfl, h1, h2⟩ := va.tuple
    rw [dqs_strs h2 e1] at h1
    obtain ⟨k1, k2⟩ := index_strs e1 e2
    exact mt_tup_index pins s σ H _ _ v us Q I rx rs ⟨p, ys, _, n, rfl, rfl, h1, k1, k2, q _ _ _ (.same (.int _))⟩
  · cases e
theorem md_join : MtR X "str.join" (rM X.K X.w joinMD) := by
  intro pins s σ H x xs v us Q I rx rs h
  obtain ⟨B, d, ds, z, va, vb, e, q⟩ := h
  unfold joinMD at e
  split at e
  · obtain ⟨ys, e1, e⟩ := bi e
    obtain ⟨hz, e⟩ := ifs e
    cases e
    obtain ⟨y, rfl, vy⟩ := vrs1 vb
    cases va.str
    obtain ⟨p, zs, rfl, h1, h2⟩ := vy.list
    rw [dqs_strs h2 e1] at h1
    exact mt_join pins s σ H _ _ v us Q I rx rs ⟨_, p, ys, rfl, rfl, .inl (sq_of h1), hz, q _ _ _ (.same (.str _))⟩
  · cases e
theorem md_get2 : MtR X "dict.get" (rM X.K X.w get2D) := by
  intro pins s σ H x xs v us Q I rx rs h
  obtain ⟨B, d, ds, z, va, vb, e, q⟩ := h
  unfold get2D at e
  split at e
  · obtain ⟨f, e⟩ := ifs e
    cases e
    rw [Bool.and_eq_true] at f
    obtain ⟨y, y2, rfl, vy, vz⟩ := vrs2 vb
    obtain ⟨z, rfl⟩ := keyOk_inv f.1
    cases vy.str
    obtain ⟨p, rfl, W⟩ := va.dict
    have dz := vz.dq (flat_nl f.2)
    cases rx
    obtain ⟨u1, u2, rfl, ⟨t, rfl⟩, r2⟩ := vals2 rs
    obtain ⟨es, n, hl, lit, _⟩ := W.ex
    have hm := PySem.W.mapOf_K (prog := X.prog) (w := X.w) I.kIn hl lit
    have key : ∀ r, PySem.W.nsIn X.K p z = some r → (∃ v', RelV v' (r.getD u2) ∧ Q v' H) → wpAny (model X.prog X.w) X.A (call (.builtin "dict.get") [.ref p, .str z t, u2]) (EP X pins σ Q) X.xe s := fun r hr ⟨v', rv, qv⟩ => by
      refine call_meetsIn PySem.F.slot_dict_get hm.typeIs PySem.F.entry_dict_get (PySem.F.args_dict_get_3 _ _ _) (meets_dict_get_default (strKind X.prog X.w) p (strKind_is X.prog X.w z t) W.sys u2) ⟨_, hm, ?_⟩
      rw [PySem.W.find_K hl hr]
      exact ⟨v', H, I.tok _, rv, qv⟩
    cases h : lookD _ (PyData.str z) with
    | none =>
      rw [h] at q
      exact key none (W.miss z h) ⟨_, r2, q _ _ _ (.same dz)⟩
    | some d =>
      rw [h] at q
      obtain ⟨u, h1, rs⟩ := W.hit z d h
      obtain ⟨v', rv, dq⟩ := relS_dq (K := X.K) (w := X.w) (H := H) (B := B) rs
      exact key _ h1 ⟨v', rv, q _ _ _ (.same dq)⟩
  · cases e
end
end Mp

namespace Mp
open PySem PySem.Spec L2
section
variable {K : PySem.W.Frag} {w : World} {σ : L2.St} {H H' H0 H1 H2 : Hp} {B B' B0 B1 B2 : Own} {ρ ρ' ρ0 ρ1 ρ2 : Env}
/-- a slot's own is changed -/
theorem pst_own {i : Nat} {l : Bool} {d d' : D} {p : Addr} {o : HO} (rel : Rel K w σ H B ρ) (e : Env.at ρ i = some (.own l d)) (hs : σ[i]? = some (some (.ref p))) (ow : OwnAt K w (upd H p o) B p d') :
    Pst K w σ H B ρ (upd H p o) B (ρ.set i (some (.own l d'))) := by
  have hl := at_lt e
  have oaa : OA σ ρ p := ⟨i, l, d, e, hs⟩
  have bp := rel.oaB p oaa
  have kp : Keeps H B (upd H p o) B := keeps_upd bp
  have sub : ∀ j l2 d2, Env.at (ρ.set i (some (.own l d'))) j = some (.own l2 d2) → ∃ d3, Env.at ρ j = some (.own l2 d3) ∧ (i ≠ j → d3 = d2) ∧ (i = j → d2 = d') := fun j l2 d2 z => by
    rw [at_set] at z
    split at z
    · rename_i h
      obtain ⟨rfl, _⟩ := h
      cases z
      exact ⟨d, e, fun n => absurd rfl n, fun _ => rfl⟩
    · rename_i h
      exact ⟨d2, z, fun _ => rfl, fun q => absurd ⟨q, hl⟩ h⟩
  refine ⟨⟨by rw [List.length_set]; exact rel.len, fun j d2 z => ?_, fun j l2 d2 z => ?_, fun j k l1 d1 l2 d2 a z1 z2 => ?_⟩, stp_set oaa rel.oaB, fun j l2 d2 z => ?_, fun j z => ?_⟩
  · rw [at_set] at z
    split at z
    · cases z
    · obtain ⟨v, h1, h2⟩ := rel.shr j d2 z
      exact ⟨v, h1, h2.keeps kp⟩
  · obtain ⟨d3, z1, z2, z3⟩ := sub j l2 d2 z
    obtain ⟨a, h1, h2⟩ := rel.own j l2 d3 z1
    by_cases hij : i = j
    · subst hij
      rw [hs] at h1
      cases h1
      cases z3 rfl
      exact ⟨p, hs, ow⟩
    · cases z2 hij
      obtain ⟨b, _⟩ := h2.there
      have ne : a ≠ p := fun q => by
        subst q
        exact hij (rel.one i j _ _ _ _ a e z1 hs h1)
      exact ⟨a, h1, h2.keeps kp b (upd_ne ne)⟩
  · obtain ⟨d3, y1, _⟩ := sub _ _ _ z1
    obtain ⟨d4, y2, _⟩ := sub _ _ _ z2
    exact rel.one j k _ _ _ _ a y1 y2
  · obtain ⟨d3, y1, _⟩ := sub _ _ _ z
    exact ⟨d3, y1⟩
  · rw [at_set]
    split
    · simp
    · exact z
def ownV (m : Mt) (i : Nat) (vs : Env → Option (List R × Env)) : Env → Option (R × Env) := fun ρ => match Env.at ρ i with
  | some (.own _ _) => do
    let (rs, ρ) ← vs ρ
    let (ds, ρ) ← frzAll rs ρ
    match Env.at ρ i with
    | some (.own l d) => do
      let (y, d) ← ownMeth m d ds
      some (.dat y, ρ.set i (some (.own l d)))
    | _ => none
  | _ => none
theorem own_rd {m : Mt} {i : Nat} {vs : Env → Option (List R × Env)} : ∀ σ H Q, tE K w (ownV m i vs) σ H Q → tBM K "list" (rO K w m) (tVar i) (tAs K w vs) σ H Q := fun σ H Q ⟨B, ρ, r, ρ', rel, e, q⟩ => by
  unfold ownV at e
  split at e
  · rename_i e0
    obtain ⟨p, hs, ow⟩ := rel.own i _ _ e0
    refine ⟨.ref p, hs, ?_, ?_⟩
    · obtain ⟨ds, xs, _, _, eh, _⟩ := ow.list
      exact .inl ⟨rfl, xs, .inl (.inl eh)⟩
    obtain ⟨⟨rs, ρ1⟩, e1, e⟩ := bi e
    obtain ⟨⟨ds, ρ2⟩, e2, e⟩ := bi e
    replace e : (match Env.at ρ2 i with
      | some (.own l d) => do
        let (y, d) ← ownMeth m d ds
        some (R.dat y, ρ2.set i (some (.own l d)))
      | _ => none) = some (r, ρ') := e
    split at e
    · rename_i l d e3
      obtain ⟨⟨y, d'⟩, e4, e⟩ := bi e
      cases e
      refine ⟨B, ρ, rs, ρ1, rel, e1, fun xs H1 B1 p1 r1 => ?_⟩
      obtain ⟨B2, p2, dq, _⟩ := frzAll_pst rel p1 r1 e2
      obtain ⟨p', hs', ow'⟩ := p2.rel.own i _ _ e3
      rw [hs] at hs'
      cases hs'
      exact ⟨B2, p, d, ds, y, d', rfl, ow', dq, e4, fun x' o dy ow2 => q _ _ _ (p2.trans (pst_own p2.rel e3 hs ow2)) dy⟩
    · cases e
  · cases e
end
section
variable {X : Cx} {e f a : Expr} {es : List Expr} {sa sb s : Sm} {pos p apos : Pos} {vs : Env → Option (List R × Env)} {x name : Str} {i : Nat}
abbrev NoSt (X : Cx) (e : Expr) : Prop := ∀ es, starEach (e :: es) X.env = (false, eval e X.env) :: starEach es X.env
theorem few1 (h : NoSt X e) : ((backTo pos (starEach [e] X.env)).all (fun x => !x.1) && (backToKw pos (keywordEach [] X.env)).all (fun x => x.1.isSome)
      && decide (([e] : List Expr).length + ([] : List Keyword).length + (if ([] : List Keyword).isEmpty then 0 else 1) < 30)) = true := by
  rw [h []]
  rfl
/-- x.m(e), x an own list -/
theorem pb_own1 {m : Mt} {id : String} (slot : Slot "list" name id) (hty : typeOf (.builtin id) = pure (.type "method_descriptor")) (hm : MtR X id (rO X.K X.w m)) (hN : X.N[i]? = some x) (hv : Vis X.env.scope x) (hd : (x == ("__debug__" : Str)) = false) (hcd : (x == ("__classdict__" : Str)) = false)
    (ha : PA X [e] (tAs X.K X.w vs)) (hs : NoSt X e) (hline : (apos.endLine == pos.line) = true) : PB X (.Call (.Attribute (.Name x p) name apos) [e] [] pos) (ofV (ownV m i vs)) :=
  pb_of (PE.imp (pe_bm PySem.F.plainAttrs_list slot hty hm (pe_var hN hv hd hcd) ha rfl (few1 hs) hline (hs []) rfl) own_rd) fun _ => rfl
/-- x.m(), x an own list -/
theorem pb_own0 {m : Mt} {id : String} (slot : Slot "list" name id) (hty : typeOf (.builtin id) = pure (.type "method_descriptor")) (hm : MtR X id (rO X.K X.w m)) (hN : X.N[i]? = some x) (hv : Vis X.env.scope x) (hd : (x == ("__debug__" : Str)) = false) (hcd : (x == ("__classdict__" : Str)) = false)
    (hline : (apos.endLine == pos.line) = true) : PB X (.Call (.Attribute (.Name x p) name apos) [] [] pos) (ofV (ownV m i nilV)) :=
  pb_of (PE.imp (pe_bm0 PySem.F.plainAttrs_list slot hty hm (pe_var hN hv hd hcd) rfl hline) fun σ H Q q => by
    obtain ⟨v, h1, h2, h3⟩ := own_rd σ H Q q
    obtain ⟨B, ρ, rs, ρ', rel, e1, q⟩ := h3
    cases e1
    exact ⟨v, h1, h2, q [] H B (.refl rel) .nil⟩) fun _ => rfl
def methV (m : Mt) (va : Env → Option (R × Env)) (vs : Env → Option (List R × Env)) : Env → Option (R × Env) := fun ρ => do
  let (x, ρ) ← va ρ
  let d ← res ρ x
  if mtOk m d then do
    let (rs, ρ) ← vs ρ
    let d ← res ρ x
    let ds ← rs.mapM (res ρ)
    let z ← datMeth m d ds
    some (mkR z, ρ)
  else none
theorem meth_rd {K : PySem.W.Frag} {w : World} {m : Mt} {T : String} {va : Env → Option (R × Env)} (hT : ∀ H B x d, Vr K w H B x d → mtOk m d = true → tyV K T x H) : ∀ σ H Q, tE K w (methV m va vs) σ H Q → tBM K T (rM K w (datMeth m)) (tE K w va) (tAs K w vs) σ H Q := fun σ H Q ⟨B, ρ, r, ρ', rel, e, q⟩ => by
  obtain ⟨⟨x, ρ1⟩, e1, e⟩ := bi e
  obtain ⟨d, e2, e⟩ := bi e
  obtain ⟨ok, e⟩ := ifs e
  obtain ⟨⟨rs, ρ2⟩, e3, e⟩ := bi e
  obtain ⟨d', e4, e⟩ := bi e
  obtain ⟨ds, e5, e⟩ := bi e
  obtain ⟨z, e6, e⟩ := bi e
  cases e
  refine ⟨B, ρ, x, ρ1, rel, e1, fun xv H1 B1 p1 r1 => ⟨hT _ _ _ _ (res_ok p1.rel r1 e2) ok, B1, ρ1, rs, _, p1.rel, e3, fun xs H2 B2 p2 r2 => ?_⟩⟩
  have p := p1.trans p2
  exact ⟨B2, d', ds, z, res_ok p.rel (r1.keeps rel p1 p2) e4, ress_ok p.rel (r2.low p1.stp.tr) e5, e6, fun x' H' B' o => q _ _ _ (p.trans (.out p.rel o)) (RR.low p.stp.tr (RR.out o))⟩
theorem pb_meth {m : Mt} {T id : String} (pa : PlainAttrs T) (slot : Slot T name id) (hty : typeOf (.builtin id) = pure (.type "method_descriptor")) (hm : MtR X id (rM X.K X.w (datMeth m))) (hT : ∀ H B x d, Vr X.K X.w H B x d → mtOk m d = true → tyV X.K T x H)
    (ha : PB X a sa) (has : PA X [e] (tAs X.K X.w vs)) (hs : NoSt X e) (hbase : attributeBase a name X.env (eval a X.env) = eval a X.env) (hline : (apos.endLine == pos.line) = true) : PB X (.Call (.Attribute a name apos) [e] [] pos) (ofV (methV m sa.v vs)) :=
  pb_of (PE.imp (pe_bm pa slot hty hm ha.v has hbase (few1 hs) hline (hs []) rfl) (meth_rd hT)) fun _ => rfl
theorem ty_indexL {K : PySem.W.Frag} {w : World} : ∀ H B x d, Vr K w H B x d → mtOk .indexL d = true → tyV K "list" x H := fun H B x d v h => by
  cases d <;> try (cases h; done)
  obtain ⟨p, xs, rfl, h1, _⟩ := v.list
  exact .inl ⟨rfl, xs, sq_of h1⟩
theorem ty_join {K : PySem.W.Frag} {w : World} : ∀ H B x d, Vr K w H B x d → mtOk .join d = true → tyV K "str" x H := fun H B x d v h => by
  cases d <;> try (cases h; done)
  cases v.str
  rfl
/-- C.index(e), C a written tuple -/
theorem pb_indexT {c : Addr} {o : Obj} {d : D} (hg : Gl X x) (hm : X.mg x = some (.ref c)) (hk : X.K.lookup c = some o) (hc : o.cls = .type "tuple") (hd0 : o.dict = none) (h : ∀ H B, Dq X.K X.w H B (.ref c) d) (hdb : (x == ("__debug__" : Str)) = false)
    (has : PA X [e] (tAs X.K X.w vs)) (hs : NoSt X e) (hline : (apos.endLine == pos.line) = true) : PB X (.Call (.Attribute (.Name x p) "index" apos) [e] [] pos) (ofV (methV .indexT (fun ρ => some (.dat d, ρ)) vs)) :=
  pb_of (PE.imp (pe_bm (PySem.F.plainAttrs_tuple) PySem.F.slot_tuple_index PySem.F.type_tuple_index md_indexT (pe_glob hg hm (v := .ref c) rfl hdb) has rfl (few1 hs) hline (hs []) rfl) fun σ H Q ⟨B, ρ, r, ρ', rel, e, q⟩ => by
    obtain ⟨⟨x, ρ1⟩, e1, e⟩ := bi e
    cases e1
    obtain ⟨d', e2, e⟩ := bi e
    cases e2
    obtain ⟨ok, e⟩ := ifs e
    obtain ⟨⟨rs, ρ2⟩, e3, e⟩ := bi e
    obtain ⟨d', e4, e⟩ := bi e
    cases e4
    obtain ⟨ds, e5, e⟩ := bi e
    obtain ⟨z, e6, e⟩ := bi e
    cases e
    refine ⟨.inr (.inl ⟨rfl, o, hk, hc, hd0⟩), B, ρ, rs, _, rel, e3, fun xs H2 B2 p2 r2 => ?_⟩
    exact ⟨B2, d, ds, z, .inl (h _ _), ress_ok p2.rel r2 e5, e6, fun x' H' B' o => q _ _ _ (p2.trans (.out p2.rel o)) (RR.low p2.stp.tr (RR.out o))⟩) fun _ => rfl
/-- C.get(e, f), C a written dict -/
theorem pb_get2 {c : Addr} {kvs : List (D × D)} (hg : Gl X x) (hm : X.mg x = some (.ref c)) (W : WD X.K X.w c kvs) (hdb : (x == ("__debug__" : Str)) = false) (has : PA X [e, f] (tAs X.K X.w vs)) (hs : NoSt X e) (hs2 : NoSt X f) (hline : (apos.endLine == pos.line) = true) :
    PB X (.Call (.Attribute (.Name x p) "get" apos) [e, f] [] pos) (ofV (methV .get2 (fun ρ => some (.dat (.dict kvs), ρ)) vs)) :=
  pb_of ⟨fun pins s σ H Q I ⟨B, ρ, r, ρ', rel, e1, q⟩ => by
    obtain ⟨⟨x, ρ1⟩, e2, e1⟩ := bi e1
    cases e2
    obtain ⟨d', e3, e1⟩ := bi e1
    cases e3
    obtain ⟨ok, e1⟩ := ifs e1
    obtain ⟨⟨rs, ρ2⟩, e3, e1⟩ := bi e1
    obtain ⟨d', e4, e1⟩ := bi e1
    cases e4
    obtain ⟨ds, e5, e1⟩ := bi e1
    obtain ⟨z, e6, e1⟩ := bi e1
    cases e1
    obtain ⟨es, n, hl, lit, _⟩ := W.ex
    have few : ((backTo pos (starEach [e, f] X.env)).all (fun x => !x.1) && (backToKw pos (keywordEach [] X.env)).all (fun x => x.1.isSome)
      && decide (([e, f] : List Expr).length + ([] : List Keyword).length + (if ([] : List Keyword).isEmpty then 0 else 1) < 30)) = true := by
      rw [hs, hs2 []]
      rfl
    refine wpAny_Call_method rfl few hline PySem.F.plainAttrs_dict PySem.F.slot_dict_get PySem.F.type_dict_get (thn ((pe_glob hg hm (v := .ref c) rfl hdb).run pins s σ H (fun x H1 => x = .ref c ∧ H1 = H) I ⟨rfl, rfl⟩) fun u s1 ⟨x, H1, I1, rx, ex, eh⟩ => ?_)
    subst ex eh
    obtain rfl : u = Value.ref c := rx
    have hmap := PySem.W.mapOf_K (prog := X.prog) (w := X.w) I1.kIn hl lit
    refine ⟨hmap.typeIs, fun a z => ?_, ?_⟩
    · cases z
      exact ⟨_, I1.kIn _ _ hl, rfl⟩
    have hA := has.run pos pins s1 σ H1 (fun us H2 => rM X.K X.w (datMeth .get2) (.ref c) us H2 Q) I1 ⟨B, ρ, rs, _, rel, e3, fun xs H2 B2 p2 r2 => ⟨B2, _, ds, z, .inl (.dicW W), ress_ok p2.rel r2 e5, e6, fun x' H' B' o => q _ _ _ (p2.trans (.out p2.rel o)) (RR.low p2.stp.tr (RR.out o))⟩⟩
    have tr : backTo pos (starEach [e, f] X.env) = [(false, eval e X.env), (false, eval f X.env)] := by
      rw [hs, hs2 []]
      rfl
    rw [tr] at hA ⊢
    exact Calls.callWith_builtin rfl (Calls.evalArgs_plain (thn hA fun us s2 ⟨xs, H2, I2, r2, q2⟩ => md_get2 pins s2 σ H2 (.ref c) xs _ us Q I2 rfl r2 q2))⟩ fun _ => rfl
end
end Mp

namespace Mp
open PySem PySem.Spec L2
/-! ### calls of defs -/
/-- the arguments: data, or a list that is lent -/
inductive Ars (K : PySem.W.Frag) (w : World) (H : Hp) (B : Own) : List V → List Arg → Prop
  | nil : Ars K w H B [] []
  | shr {v : V} {d : D} {vs : List V} {as : List Arg} : Dq K w H B v d → Ars K w H B vs as → Ars K w H B (v :: vs) (.shr d :: as)
  | own {a : Addr} {d : D} {vs : List V} {as : List Arg} : OwnAt K w H B a d → Ars K w H B vs as → Ars K w H B (.ref a :: vs) (.own d :: as)
/-- the lent ones -/
def lentV : List V → List Arg → List V
  | v :: vs, .own _ :: as => v :: lentV vs as
  | _ :: vs, _ :: as => lentV vs as
  | _, _ => []
/-- they hold what the callee left in them -/
inductive Outs (K : PySem.W.Frag) (w : World) (H : Hp) (B : Own) : List V → List D → Prop
  | nil : Outs K w H B [] []
  | cons {a : Addr} {d : D} {vs : List V} {ds : List D} : OwnAt K w H B a d → Outs K w H B vs ds → Outs K w H B (.ref a :: vs) (d :: ds)
def RRet (K : PySem.W.Frag) (w : World) (H0 H : Hp) (B : Own) (v : V) : R → Prop
  | .dat d => Dq K w H B v d
  | .frs d => ∃ a, v = .ref a ∧ H0 a = none ∧ OwnAt K w H B a d
  | .bor _ => False
/-- a def's promise -/
def spD (K : PySem.W.Frag) (w : World) (n : Nat) (F : List Arg → Option (R × List D)) : Sp := fun vs H Q _ => vs.length = n ∧ ∃ B as r os, Ars K w H B vs as ∧ (lentV vs as).Nodup ∧ F as = some (r, os) ∧
  ∀ v H' B', Stp (fun a => V.ref a ∈ lentV vs as) H B H' B' → Outs K w H' B' (lentV vs as) os → RRet K w H H' B' v r → Q v H'

section
variable {K : PySem.W.Frag} {w : World} {σ : L2.St} {H H' H0 H1 H2 : Hp} {B B' B0 B1 B2 : Own} {ρ ρ' ρ0 ρ1 ρ2 : Env}
theorem args1_inv0 {r : R} {ls : List Bool} {rs rs' : List R} (e : args1 (false :: ls) (r :: rs) ρ = some (rs', ρ')) : ∃ d ρ1 rs2, frz ρ r = some (d, ρ1) ∧ args1 ls rs ρ1 = some (rs2, ρ') ∧ rs' = .dat d :: rs2 := by
  unfold args1 at e
  obtain ⟨⟨d, ρ1⟩, e1, e⟩ := bi e
  obtain ⟨⟨rs2, ρ2⟩, e2, e⟩ := bi e
  cases e
  exact ⟨d, ρ1, rs2, e1, e2, rfl⟩
theorem args1_inv1 {r : R} {ls : List Bool} {rs rs' : List R} (e : args1 (true :: ls) (r :: rs) ρ = some (rs', ρ')) : ∃ rs2, args1 ls rs ρ = some (rs2, ρ') ∧ rs' = r :: rs2 := by
  unfold args1 at e
  obtain ⟨⟨rs2, ρ2⟩, e2, e⟩ := bi e
  cases e
  exact ⟨rs2, e2, rfl⟩
theorem args1_frs : ∀ {ls : List Bool} {vs : List V} {rs rs' : List R} {ρ ρ' : Env}, args1 ls rs ρ = some (rs', ρ') → ∀ v ∈ frsOf vs rs', v ∈ frsOf vs rs
  | [], vs, [], _, _, _, e, v, h => by cases e; exact h
  | false :: ls, [], r :: rs, _, _, _, e, v, h => by cases h
  | true :: ls, [], r :: rs, _, _, _, e, v, h => by cases h
  | false :: ls, u :: vs, r :: rs, _, _, _, e, v, h => by
    obtain ⟨d, ρ1, rs2, e1, e2, rfl⟩ := args1_inv0 e
    have ih := args1_frs (vs := vs) e2 v h
    cases r with
    | frs d => exact List.mem_cons_of_mem _ ih
    | dat d => exact ih
    | bor d => exact ih
  | true :: ls, u :: vs, r :: rs, _, _, _, e, v, h => by
    obtain ⟨rs2, e2, rfl⟩ := args1_inv1 e
    cases r with
    | frs d =>
      rcases List.mem_cons.mp h with rfl | h
      · exact List.mem_cons_self
      · exact List.mem_cons_of_mem _ (args1_frs (vs := vs) e2 v h)
    | dat d => exact args1_frs (vs := vs) e2 v h
    | bor d => exact args1_frs (vs := vs) e2 v h
  | [], _, _ :: _, _, _, _, e, _, _ => by cases e
  | false :: _, _, [], _, _, _, e, _, _ => by cases e
  | true :: _, _, [], _, _, _, e, _, _ => by cases e
/-- a value's relation over the making of other values -/
structure Mk1 (K : PySem.W.Frag) (w : World) (σ : L2.St) (H0 H : Hp) (B : Own) (ρ : Env) (fs : List V) (B' : Own) (ρ' : Env) : Prop where
  oth : ∀ y r', RR K w σ ρ H0 H B y r' → (∀ d, r' = .frs d → y ∉ fs) → RR K w σ ρ' H0 H B' y r'
theorem args1_ok : ∀ {ls : List Bool} {vs : List V} {rs rs' : List R} {ρ : Env} {B : Own}, Rel K w σ H0 B0 ρ0 → Pst K w σ H0 B0 ρ0 H B ρ → RRs K w σ ρ H0 H B vs rs → args1 ls rs ρ = some (rs', ρ') →
    ∃ B', Pst K w σ H0 B0 ρ0 H B' ρ' ∧ RRs K w σ ρ' H0 H B' vs rs' ∧ Mk1 K w σ H0 H B ρ (frsOf vs rs) B' ρ'
  | [], _, [], _, ρ, B, hr, p, h, e => by
    cases e
    cases h
    exact ⟨B, p, .nil, ⟨fun _ _ h _ => h⟩⟩
  | false :: ls, _, r :: rs, _, ρ, B, hr, p, h, e => by
    obtain ⟨d, ρ1, rs2, e1, e2, rfl⟩ := args1_inv0 e
    cases h with
    | @cons v _ vs _ h1 h2 h3 =>
      obtain ⟨B1, f⟩ := frz_ok p.rel (p.there hr) h1 e1
      obtain ⟨B', p', rr, mk⟩ := args1_ok hr (f.pst p) (h3.frz f h2) e2
      refine ⟨B', p', .cons (mk.oth _ (.dat d) f.dq fun _ z => by cases z) (fun _ z => by cases z) rr, ⟨fun y r' q n => ?_⟩⟩
      refine mk.oth y r' (f.oth y r' q fun d1 d2 z1 z2 z3 => ?_) fun d2 z m => ?_
      · subst z1 z2 z3
        exact n _ rfl List.mem_cons_self
      · cases r with
        | frs d3 => exact n _ z (List.mem_cons_of_mem _ m)
        | dat d3 => exact n _ z m
        | bor d3 => exact n _ z m
  | true :: ls, _, r :: rs, _, ρ, B, hr, p, h, e => by
    obtain ⟨rs2, e2, rfl⟩ := args1_inv1 e
    cases h with
    | @cons v _ vs _ h1 h2 h3 =>
      obtain ⟨B', p', rr, mk⟩ := args1_ok hr p h3 e2
      refine ⟨B', p', .cons (mk.oth v r h1 fun d z => h2 d z) (fun d z m => h2 d z (args1_frs e2 _ m)) rr, ⟨fun y r' q n => mk.oth y r' q fun d z m => ?_⟩⟩
      cases r with
      | frs d3 => exact n _ z (List.mem_cons_of_mem _ m)
      | dat d3 => exact n _ z m
      | bor d3 => exact n _ z m
  | [], _, _ :: _, _, _, _, _, _, _, e => by cases e
  | false :: _, _, [], _, _, _, _, _, _, e => by cases e
  | true :: _, _, [], _, _, _, _, _, _, e => by cases e
theorem args2_ok (rel : Rel K w σ H B ρ) (hO : ∀ a, OA σ ρ a → H0 a ≠ none) : ∀ {ls : List Bool} {vs : List V} {rs : List R} {as : List Arg}, RRs K w σ ρ H0 H B vs rs → args2 ρ ls rs = some as → (lentSlots ls rs).Nodup →
    Ars K w H B vs as ∧ (lentV vs as).Nodup ∧ ∀ v ∈ lentV vs as, v ∈ frsOf vs rs ∨ ∃ i ∈ lentSlots ls rs, σ[i]? = some (some v) ∧ ∃ l d, Env.at ρ i = some (.own l d)
  | [], _, [], _, h, e, _ => by
    cases h
    cases e
    exact ⟨.nil, List.nodup_nil, fun v h => by cases h⟩
  | false :: ls, _, .dat d :: rs, _, h, e, n => by
    cases h with
    | @cons v _ vs _ h1 h2 h3 =>
      obtain ⟨as, e1, rfl⟩ := map_inv (show (args2 ρ ls rs).map (.shr d :: ·) = _ from e)
      obtain ⟨k1, k2, k3⟩ := args2_ok rel hO h3 e1 n
      exact ⟨.shr h1 k1, k2, k3⟩
  | true :: ls, _, .bor i :: rs, _, h, e, n => by
    cases h with
    | @cons v _ vs _ h1 h2 h3 =>
      unfold args2 at e
      split at e
      · rename_i l d e0
        obtain ⟨as, e1, rfl⟩ := map_inv e
        obtain ⟨n1, n2⟩ := List.nodup_cons.mp (show (i :: lentSlots ls rs).Nodup from n)
        obtain ⟨k1, k2, k3⟩ := args2_ok rel hO h3 e1 n2
        obtain ⟨a, hs, ow⟩ := rel.own i l d e0
        obtain ⟨hs', _⟩ := h1
        rw [hs] at hs'
        cases hs'
        refine ⟨.own ow k1, List.nodup_cons.mpr ⟨fun m => ?_, k2⟩, fun u m => ?_⟩
        · rcases k3 _ m with m | ⟨j, mj, sj, l', d', ej⟩
          · obtain ⟨a', z1, z2, _⟩ := frs_mem h3 _ m
            cases z1
            exact hO a ⟨i, l, d, e0, hs⟩ z2
          · have : i = j := rel.one i j _ _ _ _ a e0 ej hs sj
            subst this
            exact n1 mj
        · rcases List.mem_cons.mp m with rfl | m
          · exact .inr ⟨i, List.mem_cons_self, hs, l, d, e0⟩
          · exact (k3 u m).imp id fun ⟨j, mj, z⟩ => ⟨j, List.mem_cons_of_mem _ mj, z⟩
      · cases e
  | true :: ls, _, .frs d :: rs, _, h, e, n => by
    cases h with
    | @cons v _ vs _ h1 h2 h3 =>
      obtain ⟨as, e1, rfl⟩ := map_inv (show (args2 ρ ls rs).map (.own d :: ·) = _ from e)
      obtain ⟨k1, k2, k3⟩ := args2_ok rel hO h3 e1 n
      obtain ⟨a, rfl, h0, ow⟩ := h1
      refine ⟨.own ow k1, List.nodup_cons.mpr ⟨fun m => ?_, k2⟩, fun u m => ?_⟩
      · rcases k3 _ m with m | ⟨j, mj, sj, l', d', ej⟩
        · exact h2 d rfl m
        · exact hO a ⟨j, l', d', ej, sj⟩ h0
      · rcases List.mem_cons.mp m with rfl | m
        · exact .inl List.mem_cons_self
        · exact (k3 u m).imp (fun z => List.mem_cons_of_mem _ z) id
  | [], _, _ :: _, _, _, e, _ => by cases e
  | false :: _, _, [], _, _, e, _ => by cases e
  | true :: _, _, [], _, _, e, _ => by cases e
  | false :: _, _, .bor _ :: _, _, _, e, _ => by cases e
  | false :: _, _, .frs _ :: _, _, _, e, _ => by cases e
  | true :: _, _, .dat _ :: _, _, _, e, _ => by cases e
/-- the slots but those in S hold what ρ says -/
structure RelX (K : PySem.W.Frag) (w : World) (σ : L2.St) (H : Hp) (B : Own) (ρ : Env) (S : List Nat) : Prop where
  len : σ.length = ρ.length
  shr : ∀ i d, Env.at ρ i = some (.shr d) → ∃ v, σ[i]? = some (some v) ∧ Dq K w H B v d
  own : ∀ i l d, Env.at ρ i = some (.own l d) → ∃ a, σ[i]? = some (some (.ref a)) ∧ (i ∉ S → OwnAt K w H B a d)
  one : ∀ i j l d l' d' a, Env.at ρ i = some (.own l d) → Env.at ρ j = some (.own l' d') → σ[i]? = some (some (.ref a)) → σ[j]? = some (some (.ref a)) → i = j
theorem RelX.set {i : Nat} {S : List Nat} {l : Bool} {d o : D} {a : Addr} (rel : RelX K w σ H B ρ (i :: S)) (e : Env.at ρ i = some (.own l d)) (hs : σ[i]? = some (some (.ref a))) (ow : OwnAt K w H B a o) : RelX K w σ H B (ρ.set i (some (.own l o))) S := by
  have hl := at_lt e
  have sub : ∀ j l2 d2, Env.at (ρ.set i (some (.own l o))) j = some (.own l2 d2) → ∃ d3, Env.at ρ j = some (.own l2 d3) ∧ (i ≠ j → d3 = d2) ∧ (i = j → d2 = o) := fun j l2 d2 z => by
    rw [at_set] at z
    split at z
    · rename_i h
      obtain ⟨rfl, _⟩ := h
      cases z
      exact ⟨d, e, fun n => absurd rfl n, fun _ => rfl⟩
    · rename_i h
      exact ⟨d2, z, fun _ => rfl, fun q => absurd ⟨q, hl⟩ h⟩
  refine ⟨by rw [List.length_set]; exact rel.len, fun j d2 z => ?_, fun j l2 d2 z => ?_, fun j k l1 d1 l2 d2 x z1 z2 => ?_⟩
  · rw [at_set] at z
    split at z
    · cases z
    · exact rel.shr j d2 z
  · obtain ⟨d3, z1, z2, z3⟩ := sub j l2 d2 z
    obtain ⟨x, h1, h2⟩ := rel.own j l2 d3 z1
    refine ⟨x, h1, fun n => ?_⟩
    by_cases hij : i = j
    · subst hij
      rw [hs] at h1
      cases h1
      cases z3 rfl
      exact ow
    · cases z2 hij
      exact h2 fun m => (List.mem_cons.mp m).elim (fun q => hij q.symm) n
  · obtain ⟨d3, y1, _⟩ := sub _ _ _ z1
    obtain ⟨d4, y2, _⟩ := sub _ _ _ z2
    exact rel.one j k _ _ _ _ x y1 y2
theorem backOf_ok : ∀ {ls : List Bool} {vs : List V} {rs : List R} {as : List Arg} {os : List D} {ρ ρ' ρ0 : Env}, (∀ i, Env.at ρ i = none ↔ Env.at ρ0 i = none) → RelX K w σ H B ρ (lentSlots ls rs) → RRs K w σ ρ0 H0 H1 B1 vs rs → args2 ρ0 ls rs = some as → Outs K w H B (lentV vs as) os → backOf ls rs os ρ = some ρ' →
    RelX K w σ H B ρ' [] ∧ (∀ i, Env.at ρ' i = none ↔ Env.at ρ0 i = none) ∧ ∀ i l d, Env.at ρ' i = some (.own l d) → ∃ d', Env.at ρ i = some (.own l d')
  | [], _, [], _, _, ρ, ρ', ρ0, som, rel, h, e, o, b => by
    cases h
    cases e
    cases o
    cases b
    exact ⟨rel, som, fun i l d z => ⟨d, z⟩⟩
  | false :: ls, _, .dat d :: rs, _, os, ρ, ρ', ρ0, som, rel, h, e, o, b => by
    cases h with
    | @cons v _ vs _ h1 h2 h3 =>
      obtain ⟨as, e1, rfl⟩ := map_inv (show (args2 ρ0 ls rs).map (.shr d :: ·) = _ from e)
      have b2 : backOf ls rs os ρ = some ρ' := by cases os <;> exact b
      exact backOf_ok (ls := ls) (rs := rs) som rel h3 e1 o b2
  | true :: ls, _, .bor i :: rs, _, os, ρ, ρ', ρ0, som, rel, h, e, o, b => by
    cases h with
    | @cons v _ vs _ h1 h2 h3 =>
      unfold args2 at e
      split at e
      · obtain ⟨as, e1, rfl⟩ := map_inv e
        cases o with
        | @cons a d _ ds o1 o2 =>
          unfold backOf at b
          split at b
          · rename_i l dd e3
            obtain ⟨hs, _⟩ := h1
            have som2 : ∀ j, Env.at (ρ.set i (some (.own l d))) j = none ↔ Env.at ρ0 j = none := fun j => by
              rw [at_set]
              split
              · rename_i z
                obtain ⟨rfl, _⟩ := z
                rw [← som, e3]
                simp
              · exact som j
            obtain ⟨k1, k2, k3⟩ := backOf_ok som2 (rel.set e3 hs o1) h3 e1 o2 b
            refine ⟨k1, k2, fun j l2 d2 z => ?_⟩
            obtain ⟨d3, z2⟩ := k3 j l2 d2 z
            rw [at_set] at z2
            split at z2
            · rename_i z3
              obtain ⟨rfl, _⟩ := z3
              cases z2
              exact ⟨_, e3⟩
            · exact ⟨d3, z2⟩
          · cases b
      · cases e
  | true :: ls, _, .frs d :: rs, _, os, ρ, ρ', ρ0, som, rel, h, e, o, b => by
    cases h with
    | @cons v _ vs _ h1 h2 h3 =>
      obtain ⟨as, e1, rfl⟩ := map_inv (show (args2 ρ0 ls rs).map (.own d :: ·) = _ from e)
      cases o with
      | @cons a d' _ ds o1 o2 => exact backOf_ok (ls := ls) (rs := rs) som rel h3 e1 o2 b
  | [], _, _ :: _, _, _, _, _, _, _, _, _, e, _, _ => by cases e
  | false :: _, _, [], _, _, _, _, _, _, _, _, e, _, _ => by cases e
  | true :: _, _, [], _, _, _, _, _, _, _, _, e, _, _ => by cases e
  | false :: _, _, .bor _ :: _, _, _, _, _, _, _, _, _, e, _, _ => by cases e
  | false :: _, _, .frs _ :: _, _, _, _, _, _, _, _, _, e, _, _ => by cases e
  | true :: _, _, .dat _ :: _, _, _, _, _, _, _, _, _, e, _, _ => by cases e
def callV (T : Option (List Bool)) (F : List Arg → Option (R × List D)) (vs : Env → Option (List R × Env)) : Env → Option (R × Env) := fun ρ => do
  let (rs, ρ) ← vs ρ
  callR T F rs ρ
theorem RRs.len {vs : List V} {rs : List R} (h : RRs K w σ ρ H0 H B vs rs) : vs.length = rs.length := by
  induction h with
  | nil => rfl
  | cons _ _ _ ih => rw [List.length_cons, List.length_cons, ih]
theorem args1_len : ∀ {ls : List Bool} {rs rs' : List R} {ρ ρ' : Env}, args1 ls rs ρ = some (rs', ρ') → rs.length = ls.length
  | [], [], _, _, _, e => rfl
  | false :: ls, r :: rs, _, _, _, e => by
    obtain ⟨d, ρ1, rs2, e1, e2, rfl⟩ := args1_inv0 e
    rw [List.length_cons, List.length_cons, args1_len e2]
  | true :: ls, r :: rs, _, _, _, e => by
    obtain ⟨rs2, e2, rfl⟩ := args1_inv1 e
    rw [List.length_cons, List.length_cons, args1_len e2]
  | [], _ :: _, _, _, _, e => by cases e
  | false :: _, [], _, _, _, e => by cases e
  | true :: _, [], _, _, _, e => by cases e
theorem call_rd {ls : List Bool} {F : List Arg → Option (R × List D)} {vs : Env → Option (List R × Env)} {E : XK} : ∀ σ H Q, tE K w (callV (some ls) F vs) σ H Q → tCall (spD K w ls.length F) [] E (tAs K w vs) σ H Q := fun σ H Q ⟨B, ρ, r, ρ', rel, e, q⟩ => by
  obtain ⟨⟨rs, ρ1⟩, e1, e⟩ := bi e
  obtain ⟨_, e2, e⟩ := bi (show callR (some ls) F rs ρ1 = _ from e)
  cases e2
  obtain ⟨⟨rs2, ρ2⟩, e3, e⟩ := bi e
  obtain ⟨nd, e⟩ := ifs e
  obtain ⟨as, e4, e⟩ := bi e
  obtain ⟨⟨r', os⟩, e5, e⟩ := bi e
  obtain ⟨ρ3, e6, e⟩ := bi e
  cases e
  refine ⟨B, ρ, rs, ρ1, rel, e1, fun xs H1 B1 p1 r1 => ?_⟩
  obtain ⟨B2, p2, r2, _⟩ := args1_ok rel p1 r1 e3
  have hO := p2.there rel
  obtain ⟨k1, k2, k3⟩ := args2_ok p2.rel hO r2 e4 nd
  rw [List.append_nil]
  refine ⟨by rw [r1.len]; exact args1_len e3, B2, as, r, os, k1, k2, e5, fun v H' B' st o rr => ?_⟩
  -- the slots behind the call
  have spare : ∀ i l d a, Env.at ρ2 i = some (.own l d) → σ[i]? = some (some (.ref a)) → i ∉ lentSlots ls rs2 → ¬ V.ref a ∈ lentV xs as := fun i l d a ei si n m => by
    rcases k3 _ m with m | ⟨j, mj, sj, l', d', ej⟩
    · obtain ⟨a', z1, z2, _⟩ := frs_mem r2 _ m
      cases z1
      exact hO a ⟨i, l, d, ei, si⟩ z2
    · have : i = j := p2.rel.one i j _ _ _ _ a ei ej si sj
      subst this
      exact n mj
  have rx : RelX K w σ H' B' ρ2 (lentSlots ls rs2) := ⟨p2.rel.len, fun i d z => by
      obtain ⟨v, h1, h2⟩ := p2.rel.shr i d z
      exact ⟨v, h1, h2.keeps st.keeps⟩, fun i l d z => by
      obtain ⟨a, h1, h2⟩ := p2.rel.own i l d z
      refine ⟨a, h1, fun n => ?_⟩
      obtain ⟨b, ob, h3⟩ := h2.there
      obtain ⟨h4, h5⟩ := st.keep a ob h3 (spare i l d a z h1 n)
      exact h2.keeps st.keeps (h5.mpr b) (h4.trans h3.symm), p2.rel.one⟩
  obtain ⟨j1, j2, j3⟩ := backOf_ok (fun _ => Iff.rfl) rx r2 e4 o e6
  have pst : Pst K w σ H B ρ H' B' ρ' := by
    refine ⟨⟨j1.len, j1.shr, fun i l d z => ?_, j1.one⟩, p2.stp.trans st fun a ha m => ?_, fun i l d z => ?_, fun i z y => ?_⟩
    · obtain ⟨a, h1, h2⟩ := j1.own i l d z
      exact ⟨a, h1, h2 (by simp)⟩
    · rcases k3 _ m with m | ⟨j, mj, sj, l', d', ej⟩
      · obtain ⟨a', z1, z2, _⟩ := frs_mem r2 _ m
        cases z1
        exact absurd z2 ha
      · exact p2.oa a ⟨j, l', d', ej, sj⟩
    · obtain ⟨d', z'⟩ := j3 i l d z
      exact p2.kin i l d' z'
    · exact p2.som i z ((j2 i).mp y)
  refine q v H' B' pst ?_
  cases r with
  | dat d => exact rr
  | frs d =>
    obtain ⟨a, rfl, z1, z2⟩ := rr
    exact ⟨a, rfl, Classical.byContradiction fun z => p2.stp.tr a z z1, z2⟩
  | bor i => exact rr.elim
end
section
variable {X : Cx} {e : Expr} {es : List Expr} {pos p : Pos} {vs : Env → Option (List R × Env)} {x : Str} {f : Addr} {fd : FuncData} {ps : List Str} {k : Nat} {ls : List Bool} {F : List Arg → Option (R × List D)}
theorem pb_call (hF : FnOk X.prog X.w X.K X.mg X.base CX0 k f fd ps (spD X.K X.w ls.length F)) (hr : Room k X.A) (hg : Gl X x) (hm : X.mg x = some (.ref f)) (hk : PySem.W.keepIn X.K (.ref f) = true) (hb : Binds X.K fd ps []) (hdb : (x == ("__debug__" : Str)) = false)
    (ha : PA X (e :: es) (tAs X.K X.w vs)) (he : NoSt X e) (hpl : (backTo pos (starEach es X.env)).any (·.1) = false) : PB X (.Call (.Name x p) (e :: es) [] pos) (ofV (callV (some ls) F vs)) :=
  pb_of (PE.imp (pe_call hF hr hg hm hk hb .nil pass0 ha hdb (he es) hpl) call_rd) fun _ => rfl
theorem pb_call0 (hF : FnOk X.prog X.w X.K X.mg X.base CX0 k f fd ps (spD X.K X.w ls.length F)) (hr : Room k X.A) (hg : Gl X x) (hm : X.mg x = some (.ref f)) (hk : PySem.W.keepIn X.K (.ref f) = true) (hb : Binds X.K fd ps []) (hdb : (x == ("__debug__" : Str)) = false) :
    PB X (.Call (.Name x p) [] [] pos) (ofV (callV (some ls) F nilV)) :=
  pb_of (PE.imp (pe_call0 hF hr hg hm hk hb .nil pass0 hdb) fun σ H Q q => by
    obtain ⟨B, ρ, rs, ρ', rel, e1, q⟩ := call_rd (E := E0) σ H Q q
    cases e1
    exact q [] H B (.refl rel) .nil) fun _ => rfl
end
end Mp

/-! enumerate(a tuple) -/
namespace Mp
open PySem PySem.Spec L2
theorem meets_enumT (l : Addr) (items : Array Value) (o : Obj) (ho : o.cls = .type "tuple") (hd : ∃ n, o.data = .seq items n) :
    Meets (Builtin.«enumerate.__new__» ⟨[.type "enumerate", .ref l], []⟩) (fun _ R s => s.heap.get? l = some o ∧
      R (.ok (.ret (.ref (s.heap.push { cls := .type "tuple_iterator", data := .fields #[.ref l, .int 0 0] }).objs.size)))
        { s with heap := (s.heap.push { cls := .type "tuple_iterator", data := .fields #[.ref l, .int 0 0] }).push { cls := .type "enumerate", data := .fields #[.none, .bool false, .ref s.heap.objs.size, rawInt 0, .none, .none] } }) :=
  .of_wp fun prog w A R s h => by
    obtain ⟨hp, g, d, tk, os⟩ := s
    obtain ⟨hl, h⟩ := h
    have hsub := sub_enumerate
    obtain ⟨n, hd⟩ := hd
    have hL : Heap.IsTuple (Shared.heap ⟨hp, g, d, tk, os⟩) l items := ⟨o, hl, ho, n, hd⟩
    wp_walk using AutoSeq1.wpAny_loadPart' hl
    refine wpAny_stack_any fun st => wpAny_pure ?_
    split
    · rename_i c _ _ _ _ _
      cases (c == Value.type "enumerate")
      · wp_walk using AutoSeq1.wpAny_loadPart' hl, wpAny_pyIter_tuple hL
        exact ⟨_, rfl, h⟩
      · wp_walk using AutoSeq1.wpAny_loadPart' hl, wpAny_pyIter_tuple hL
        exact ⟨_, rfl, h⟩
    · wp_walk using AutoSeq1.wpAny_loadPart' hl, wpAny_pyIter_tuple hL
      exact ⟨_, rfl, h⟩

theorem call_enumT {prog : Program} {w : World} {A : Around} {E : Value → Shared → Prop} {s : Shared} {l : Addr} {items : Array Value} {Q : Value → Shared → Prop} (hL : s.heap.IsTuple l items)
    (h : ∀ h', IsEnum h' (s.heap.objs.size + 1) s.heap.objs.size 0 .none → h'.IsTupleIter s.heap.objs.size l 0 → h'.objs.size = s.heap.objs.size + 2 →
      (∀ b o, s.heap.get? b = some o → h'.get? b = some o) → Q (.ref (s.heap.objs.size + 1)) { s with heap := h' }) :
    wpAny (model prog w) A (call (.type "enumerate") [.ref l]) Q E s := by
  obtain ⟨o, hl, hc, hd⟩ := hL
  refine callType_new F.called_enumerate (by decide) (F.typeCall_enumerate_1 _) (F.newCall_enumerate_1 _) (fun obj => F.args_object_init_2 obj _) F.entry_enumerate_new (meets_enumT l items o hc hd) ⟨hl, ?_⟩
  have hz : (s.heap.push { cls := .type "tuple_iterator", data := .fields #[.ref l, .int 0 0] }).objs.size = s.heap.objs.size + 1 := Heap.size_push ..
  show _ ∧ _
  rw [hz]
  have he : IsEnum ((s.heap.push { cls := .type "tuple_iterator", data := .fields #[.ref l, .int 0 0] }).push { cls := .type "enumerate", data := .fields #[.none, .bool false, .ref s.heap.objs.size, rawInt 0, .none, .none] }) (s.heap.objs.size + 1) s.heap.objs.size 0 .none := by
    have := Heap.get?_push_size (s.heap.push { cls := .type "tuple_iterator", data := .fields #[.ref l, .int 0 0] }) (o := { cls := .type "enumerate", data := .fields #[.none, .bool false, .ref s.heap.objs.size, rawInt 0, .none, .none] }) rfl
    rw [hz] at this
    exact this
  exact ⟨⟨_, he, rfl⟩, h _ he ⟨_, Heap.get?_push_of_some _ (Heap.get?_push_size _ rfl), rfl, rfl⟩ (by rw [Heap.size_push, hz]) fun b o x => Heap.get?_push_of_some _ (Heap.get?_push_of_some _ x)⟩
/-- the tuple at a as it stands at each turn, each item in a new pair -/
def IteT (K : PySem.W.Frag) (a : Addr) : L2.It :=
  ⟨fun i H => ∃ (xs : List V) (x : V), SqT K H a xs ∧ xs[i]? = some x, fun i H v H' => ∃ T x, v = .ref T ∧ H T = none ∧ H' = upd H T (.tup [.int (i : Nat), x]) ∧ ∀ xs, SqT K H a xs → xs[i]? = some x, fun i H => ∃ xs : List V, SqT K H a xs ∧ xs.length ≤ i⟩
theorem next_enumT_end {prog : Program} {w : World} {A : Around} {E : Value → Shared → Prop} {s : Shared} {e it l : Addr} {i : Nat} {items : Array Value} {old : Value} {Q : Option Value → Shared → Prop} (hh : A.handled = none)
    (he : IsEnum s.heap e it i old) (hit : s.heap.IsTupleIter it l i) (hl : s.heap.IsTuple l items) (hx : items[i]? = none)
    (hQ : ∀ h', Heap.ExtBut it s.heap h' → Q none { s with heap := h' }) : wpAny (model prog w) A (pyNext (.ref e)) Q E s := by
  have hT : s.TypeIs (.ref e) "enumerate" := ⟨_, he, rfl⟩
  unfold pyNext
  refine wpAny_bind (wpAny_attempt (wpAny_callSpecial?_slot (name := Str.ofString "__next__") hT F.slot_enumerate_next (wpAny_call_entry F.slot_enumerate_next hT F.entry_enumerate_next ?_ (F.args_enumerate_next_1 _))))
  show wpAny _ _ (field (.ref e) 2 >>= _) _ _ _
  refine wpAny_bind (wpAny_field he rfl (x := .ref it) rfl (wpAny_bind (wpAny_nextOf_tuple_end hh hit hl hx fun h' x he' hx' => ?_)))
  obtain ⟨o, ho, hc⟩ := hx'
  exact wpAny_bind (wpAny_isInstance (T := "StopIteration") (b := true) ⟨o, ho, hc⟩ isSubtype_stop (wpAny_pure (hQ _ he')))
theorem turn_enumT {P : Program} {w : World} {K : PySem.W.Frag} {elts : List Expr} {kk : Nat} {tpos : Pos} (a e it : Addr) :
    Turn P w K (.Tuple elts kk tpos) (IteT K a) [e, it] e (fun i h => (∃ old, IsEnum h e it ((i : Nat) : Int) old) ∧ h.IsTupleIter it a i ∧ e ≠ it) where
  mem := by simp
  obj := fun i h st b hb => by
    obtain ⟨⟨old, he⟩, ⟨o, ho, hc, hd⟩, _⟩ := st
    have e' : b = e ∨ b = it := by simpa using hb
    rcases e' with z | z
    · rw [z]; exact ⟨_, he, fun v q => nomatch q⟩
    · rw [z]; exact ⟨o, ho, fun v q => by rw [hd] at q; cases q⟩
  keep := fun i h h' st k => let ⟨⟨old, he⟩, hi, hne⟩ := st; ⟨⟨old, k e (by simp) _ he⟩, hi.at fun o q => k it (by simp) o q, hne⟩
  item := by
    intro X hP hw hK hc i pins s σ H E I hf st hg
    subst hP hw hK
    obtain ⟨⟨old, he⟩, hit, hne⟩ := st
    obtain ⟨xs, x, hq, hx⟩ := hg
    obtain ⟨its, rv, p, hz⟩ := I.tuple hq
    obtain ⟨u, hu, ru⟩ := rv.get hx
    have hel : e < s.heap.objs.size := Heap.lt_size he
    have hil : it < s.heap.objs.size := by obtain ⟨_, q, _⟩ := hit; exact Heap.lt_size q
    have pT : s.heap.IsTuple a its.toArray := p
    have hea : a ≠ e := fun z => by
      subst z
      obtain ⟨o, ho, hc, _⟩ := pT
      unfold IsEnum at he
      rw [he] at ho
      cases ho
      exact absurd hc (show Value.type "enumerate" ≠ Value.type "tuple" by decide +kernel)
    have hia : a ≠ it := fun z => by
      subst z
      obtain ⟨o, ho, hc, _⟩ := pT
      obtain ⟨o2, ho2, hc2, _⟩ := hit
      rw [ho2] at ho
      cases ho
      rw [hc2] at hc
      exact absurd hc (by decide +kernel)
    have hn : i < its.toArray.size := by
      rw [List.size_toArray]
      exact (List.getElem?_eq_some_iff.mp hu).1
    refine wpAny_pyNext_enum_itemC (Draws.tuple (A := X.A.in1) (I.ok.hd hc) it a hia its.toArray) he ⟨hit, pT⟩ hn hne (by simp [hne, Ne.symm hea]) fun x' h' tk hx' ho hst' hT hsz hk => ?_
    have ex : x' = u := by
      have z : its.toArray[i]? = some x' := hx'
      rw [← Array.getElem?_toList] at z
      exact Option.some.inj (z.symm.trans hu)
    subst ex
    obtain ⟨hit', _⟩ := hst'
    refine ⟨_, rfl, wpAny_letOwnedTupleGo_enum (s := { s with heap := h', toks := tk + 1 }) ho fun h'' he' sb => ?_⟩
    have hT2 : h''.get? s.heap.objs.size = some { cls := .type "tuple", data := .seq #[.int i tk, x'] } := (sb.2 _ (Nat.ne_of_gt hel)).trans hT
    have new : ObjOk X.prog X.w (upd H s.heap.objs.size (.tup [.int (i : Nat), x])) h'' s.heap.objs.size (.tup [.int (i : Nat), x]) :=
      ⟨by show 2 ≤ sizeLine; decide, [.int i tk, x'], .cons ⟨_, rfl⟩ (.cons ru .nil), ⟨_, hT2, rfl, _, rfl⟩⟩
    have I1 : Inv X pins σ (upd H s.heap.objs.size (.tup [.int (i : Nat), x])) { s with heap := h'', toks := tk + 1 } :=
      I.turnedNew (ch := [e, it]) (fun b ob hb q => (sb.2 b (fun z => hb (by simp [z]))).trans (hk b ob (fun z => hb (by simp [z])) (fun z => hb (by simp [z])) q)) hf (Nat.le_refl _) new
    refine ⟨.ref s.heap.objs.size, _, I1, rfl, ⟨_, x, rfl, I.hok.fresh (Nat.le_refl _), rfl, fun ys hy => by rw [I.tuple_inj hy hq]; exact hx⟩, ⟨⟨x', ?_⟩, hit'.at fun o q => (sb.2 it (Ne.symm hne)).trans q, hne⟩, fun b hb => ?_⟩
    · have e1 : ((i + 1 : Nat) : Int) = (i : Int) + 1 := by omega
      rw [e1]
      exact he'
    · have hb' : b < s.heap.objs.size := by
        have e' : b = e ∨ b = it := by simpa using hb
        rcases e' with z | z
        · rw [z]; exact hel
        · rw [z]; exact hil
      rw [upd_ne (Nat.ne_of_lt hb')]
      exact (hf b hb).1
  done := by
    intro X hP hw hK hc i pins s σ H E I hf st hg
    subst hP hw hK
    obtain ⟨⟨old, he⟩, hit, hne⟩ := st
    obtain ⟨xs, hq, hx⟩ := hg
    obtain ⟨its, rv, p, hz⟩ := I.tuple hq
    obtain ⟨f0, f1, f2, f3, f4, f5⟩ := hf it (by simp)
    have hl := rv.length
    exact next_enumT_end (I.ok.hd hc) he hit (show s.heap.IsTuple a its.toArray from p) (by simp; omega) fun h' eb => ⟨rfl, I.turned (t' := s.toks) (fun b o hb q => eb b o hb q) f0 f1 f3 f4 f5⟩
  self := fun A i s Q E st h => let ⟨⟨_, he⟩, _⟩ := st; wpAny_pyIter_enum he h
/-- enumerate of a list or a tuple -/
def iEnumA (K : PySem.W.Frag) (ta : TA) : TI := fun σ H R => ta σ H fun vs H1 => ∃ a xs, vs = [.ref a] ∧ ((SqL K H1 a xs ∧ R (Ite K a) H1) ∨ (SqT K H1 a xs ∧ R (IteT K a) H1))
theorem pi_enumA {X : Cx} {e : Expr} {ta : TA} {p pos tpos : Pos} {elts : List Expr} {kk : Nat} (hg : Gl X "enumerate") (hm : X.mg "enumerate" = none) (ha : PA X [e] ta) (hs : starEach [e] X.env = [(false, eval e X.env)]) :
    PI X (.Tuple elts kk tpos) (.Call (.Name "enumerate" p) [e] [] pos) (iEnumA X.K ta) := by
  refine ⟨fun pins s σ H R I h => ?_⟩
  refine PyProof.Rows.Call_ (ld_blt I hg hm PyProof.Rows.boot_enumerate (PyProof.Rows.callWith_type1 (thn (ha.run pos pins s σ H _ I h) fun us s1 ⟨vs, H1, I1, r1, q1⟩ => ?_) hs rfl))
  obtain ⟨a, xs, ex, q1⟩ := q1
  subst ex
  cases r1 with
  | cons r rr =>
    cases rr
    cases r
    rcases q1 with ⟨hq, q⟩ | ⟨hq, q⟩
    · obtain ⟨its, rv, p', hz⟩ := I1.list hq
      refine call_enumerate_list p'.isList fun h' he hit hsz hk => wpAny_pyIter_enum he ?_
      have I2 : Inv X pins σ H1 { s1 with heap := h' } := I1.kept (t' := s1.toks) hk
      refine ⟨s1.heap.objs.size + 1, [s1.heap.objs.size + 1, s1.heap.objs.size], _, _, H1, rfl, I2, turn_enum a (s1.heap.objs.size + 1) s1.heap.objs.size, ⟨⟨.none, he⟩, hit, Nat.succ_ne_self _⟩, fun b hb => ?_, q⟩
      have e' : b = s1.heap.objs.size + 1 ∨ b = s1.heap.objs.size := by simpa using hb
      have hle : s1.heap.objs.size ≤ b := e'.elim (fun z => by rw [z]; exact Nat.le_succ _) fun z => by rw [z]; exact Nat.le_refl _
      exact I1.fpOk hle (I1.hok.fresh hle)
    · obtain ⟨its, rv, p', hz⟩ := I1.tuple hq
      refine call_enumT (show s1.heap.IsTuple a its.toArray from p') fun h' he hit hsz hk => wpAny_pyIter_enum he ?_
      have I2 : Inv X pins σ H1 { s1 with heap := h' } := I1.kept (t' := s1.toks) hk
      refine ⟨s1.heap.objs.size + 1, [s1.heap.objs.size + 1, s1.heap.objs.size], _, _, H1, rfl, I2, turn_enumT a (s1.heap.objs.size + 1) s1.heap.objs.size, ⟨⟨.none, he⟩, hit, Nat.succ_ne_self _⟩, fun b hb => ?_, q⟩
      have e' : b = s1.heap.objs.size + 1 ∨ b = s1.heap.objs.size := by simpa using hb
      have hle : s1.heap.objs.size ≤ b := e'.elim (fun z => by rw [z]; exact Nat.le_succ _) fun z => by rw [z]; exact Nat.le_refl _
      exact I1.fpOk hle (I1.hok.fresh hle)
end Mp

namespace Mp
open PySem PySem.Spec L2
/-- an iterator gives the data ds, one after another, while G holds -/
structure Yl (K : PySem.W.Frag) (w : World) (J : L2.It) (ds : List D) (G : Hp → Own → Prop) : Prop where
  go : ∀ i H B, i < ds.length → G H B → J.go i H
  stop : ∀ H B, G H B → J.stop ds.length H
  yld : ∀ i H B x H', i < ds.length → G H B → J.yld i H x H' → ∃ B' d, ds[i]? = some d ∧ (∀ M : Own, (∀ a, M a → B a) → Stp M H B H' B') ∧ Dq K w H' B' x d
  keep : ∀ H B H' B', G H B → Keeps H B H' B' → G H' B'
def tI (K : PySem.W.Frag) (w : World) (v : Env → Option (List D × Env)) : TI := fun σ H R => ∃ B ρ ds ρ', Rel K w σ H B ρ ∧ v ρ = some (ds, ρ') ∧
  ∀ J H' B' G, Pst K w σ H B ρ H' B' ρ' → G H' B' → Yl K w J ds G → R J H'
section
variable {K : PySem.W.Frag} {w : World} {a b : Addr} {ds es : List D}
theorem get_lt {α : Type} {xs : List α} {i : Nat} (h : i < xs.length) : ∃ x, xs[i]? = some x := ⟨xs[i], List.getElem?_eq_getElem h⟩
theorem list_ref {H : Hp} {B : Own} (h : Dq K w H B (.ref a) (.list ds)) : ∃ xs, SqL K H a xs ∧ Dqs K w H B xs ds := by
  obtain ⟨a', xs, e, h1, h2⟩ := h.list
  cases e
  exact ⟨xs, sq_of h1, h2⟩
theorem tup_ref {H : Hp} {B : Own} (h : Dq K w H B (.ref a) (.tuple ds)) : ∃ xs, SqT K H a xs ∧ Dqs K w H B xs ds := by
  obtain ⟨a', xs, e, h1, h2⟩ := h.tuple
  cases e
  exact ⟨xs, h1, h2⟩
theorem yl_list : Yl K w (Itl K a) ds fun H B => Dq K w H B (.ref a) (.list ds) where
  go := fun i H B hi h => by
    obtain ⟨xs, h1, h2⟩ := list_ref h
    obtain ⟨x, hx⟩ := get_lt (xs := xs) (by rw [h2.length]; exact hi)
    exact ⟨xs, x, h1, hx⟩
  stop := fun H B h => by
    obtain ⟨xs, h1, h2⟩ := list_ref h
    exact ⟨xs, h1, Nat.le_of_eq h2.length⟩
  yld := fun i H B x H' hi h y => by
    obtain ⟨xs, h1, h2⟩ := list_ref h
    obtain ⟨rfl, y⟩ := y
    obtain ⟨d, hd⟩ := get_lt hi
    obtain ⟨v, hv, dq⟩ := h2.get hd
    have e := y xs h1
    rw [hv] at e
    cases e
    exact ⟨B, d, hd, fun M hM => .refl hM, dq⟩
  keep := fun H B H' B' h k => h.keeps k
theorem yl_tup : Yl K w (Itt K a) ds fun H B => Dq K w H B (.ref a) (.tuple ds) where
  go := fun i H B hi h => by
    obtain ⟨xs, h1, h2⟩ := tup_ref h
    obtain ⟨x, hx⟩ := get_lt (xs := xs) (by rw [h2.length]; exact hi)
    exact ⟨xs, x, h1, hx⟩
  stop := fun H B h => by
    obtain ⟨xs, h1, h2⟩ := tup_ref h
    exact ⟨xs, h1, Nat.le_of_eq h2.length⟩
  yld := fun i H B x H' hi h y => by
    obtain ⟨xs, h1, h2⟩ := tup_ref h
    obtain ⟨rfl, y⟩ := y
    obtain ⟨d, hd⟩ := get_lt hi
    obtain ⟨v, hv, dq⟩ := h2.get hd
    have e := y xs h1
    rw [hv] at e
    cases e
    exact ⟨B, d, hd, fun M hM => .refl hM, dq⟩
  keep := fun H B H' B' h k => h.keeps k
theorem rangeD_len : ∀ (n : Nat) (lo : Int), (rangeD lo n).length = n
  | 0, _ => rfl
  | n + 1, lo => by unfold rangeD; rw [List.length_cons, rangeD_len n]
theorem rangeD_get : ∀ (n : Nat) (lo : Int) (i : Nat), i < n → (rangeD lo n)[i]? = some (.int (lo + i))
  | n + 1, lo, 0, _ => by simp [rangeD]
  | n + 1, lo, i + 1, h => by
    unfold rangeD
    rw [List.getElem?_cons_succ, rangeD_get n (lo + 1) i (by omega)]
    congr 2
    omega
theorem yl_range {lo : Int} {n : Nat} : Yl K w (Itr lo n) (rangeD lo n) fun _ _ => True where
  go := fun i H B hi h => by rw [rangeD_len] at hi; exact hi
  stop := fun H B h => by rw [rangeD_len]; exact Nat.le_refl _
  yld := fun i H B x H' hi h y => by
    rw [rangeD_len] at hi
    obtain ⟨rfl, rfl⟩ := y
    exact ⟨B, _, rangeD_get n lo i hi, fun M hM => .refl hM, .int _⟩
  keep := fun _ _ _ _ _ _ => trivial
theorem enum_len : ∀ (ds : List D) (n : Nat), (enumFrom n ds).length = ds.length
  | [], _ => rfl
  | d :: ds, n => by unfold enumFrom; rw [List.length_cons, List.length_cons, enum_len ds]
theorem enum_get : ∀ (ds : List D) (n i : Nat) (d : D), ds[i]? = some d → (enumFrom n ds)[i]? = some (.tuple [.int ((n + i : Nat) : Int), d])
  | [], _, _, _, h => by simp at h
  | x :: ds, n, 0, d, h => by
    simp at h
    subst h
    simp [enumFrom]
  | x :: ds, n, i + 1, d, h => by
    unfold enumFrom
    rw [List.getElem?_cons_succ, enum_get ds (n + 1) i d (by simpa using h)]
    congr 4
    omega
/-- a new pair -/
theorem pair_ok {H : Hp} {B : Own} {T : Addr} {x y : V} {d e : D} (nT : H T = none) (hx : Dq K w H B x d) (hy : Dq K w H B y e) :
    ∃ B' : Own, (∀ M : Own, (∀ a, M a → B a) → Stp M H B (upd H T (.tup [x, y])) B') ∧ Dq K w (upd H T (.tup [x, y])) B' (.ref T) (.tuple [d, e]) :=
  have o : Out K w H B (.tuple [d, e], false) _ _ _ := Out.tup nT (.cons hx (.cons hy .nil))
  ⟨_, o.st, o.va⟩
theorem yl_enumL : Yl K w (Ite K a) (enumFrom 0 ds) fun H B => Dq K w H B (.ref a) (.list ds) where
  go := fun i H B hi h => by
    rw [enum_len] at hi
    obtain ⟨xs, h1, h2⟩ := list_ref h
    obtain ⟨x, hx⟩ := get_lt (xs := xs) (by rw [h2.length]; exact hi)
    exact ⟨xs, x, h1, hx⟩
  stop := fun H B h => by
    obtain ⟨xs, h1, h2⟩ := list_ref h
    exact ⟨xs, h1, by rw [enum_len]; exact Nat.le_of_eq h2.length⟩
  yld := fun i H B v H' hi h y => by
    rw [enum_len] at hi
    obtain ⟨xs, h1, h2⟩ := list_ref h
    obtain ⟨T, x, rfl, nT, rfl, y⟩ := y
    obtain ⟨d, hd⟩ := get_lt hi
    obtain ⟨v, hv, dq⟩ := h2.get hd
    have e := y xs h1
    rw [hv] at e
    cases e
    obtain ⟨B', s1, s2⟩ := pair_ok nT (.int (i : Nat)) dq
    exact ⟨B', _, by rw [enum_get ds 0 i d hd, Nat.zero_add], s1, s2⟩
  keep := fun H B H' B' h k => h.keeps k
theorem yl_enumT : Yl K w (IteT K a) (enumFrom 0 ds) fun H B => Dq K w H B (.ref a) (.tuple ds) where
  go := fun i H B hi h => by
    rw [enum_len] at hi
    obtain ⟨xs, h1, h2⟩ := tup_ref h
    obtain ⟨x, hx⟩ := get_lt (xs := xs) (by rw [h2.length]; exact hi)
    exact ⟨xs, x, h1, hx⟩
  stop := fun H B h => by
    obtain ⟨xs, h1, h2⟩ := tup_ref h
    exact ⟨xs, h1, by rw [enum_len]; exact Nat.le_of_eq h2.length⟩
  yld := fun i H B v H' hi h y => by
    rw [enum_len] at hi
    obtain ⟨xs, h1, h2⟩ := tup_ref h
    obtain ⟨T, x, rfl, nT, rfl, y⟩ := y
    obtain ⟨d, hd⟩ := get_lt hi
    obtain ⟨v, hv, dq⟩ := h2.get hd
    have e := y xs h1
    rw [hv] at e
    cases e
    obtain ⟨B', s1, s2⟩ := pair_ok nT (.int (i : Nat)) dq
    exact ⟨B', _, by rw [enum_get ds 0 i d hd, Nat.zero_add], s1, s2⟩
  keep := fun H B H' B' h k => h.keeps k
theorem zip_len : ∀ (ds es : List D), (zipD ds es).length = min ds.length es.length
  | [], es => by simp [zipD]
  | d :: ds, [] => by simp [zipD]
  | d :: ds, e :: es => by
    unfold zipD
    rw [List.length_cons, List.length_cons, List.length_cons, zip_len ds es]
    omega
theorem zip_get : ∀ (ds es : List D) (i : Nat) (d e : D), ds[i]? = some d → es[i]? = some e → (zipD ds es)[i]? = some (.tuple [d, e])
  | [], _, _, _, _, h, _ => by simp at h
  | _ :: _, [], _, _, _, _, h => by simp at h
  | x :: ds, y :: es, 0, d, e, h, k => by
    simp at h k
    subst h k
    simp [zipD]
  | x :: ds, y :: es, i + 1, d, e, h, k => by
    unfold zipD
    rw [List.getElem?_cons_succ]
    exact zip_get ds es i d e (by simpa using h) (by simpa using k)
theorem yl_zipL : Yl K w (Itz K a b) (zipD ds es) fun H B => Dq K w H B (.ref a) (.list ds) ∧ Dq K w H B (.ref b) (.list es) where
  go := fun i H B hi h => by
    rw [zip_len] at hi
    obtain ⟨xs, h1, h2⟩ := list_ref h.1
    obtain ⟨ys, h3, h4⟩ := list_ref h.2
    obtain ⟨x, hx⟩ := get_lt (xs := xs) (i := i) (by rw [h2.length]; omega)
    obtain ⟨y, hy⟩ := get_lt (xs := ys) (i := i) (by rw [h4.length]; omega)
    exact ⟨xs, ys, x, y, h1, h3, hx, hy⟩
  stop := fun H B h => by
    obtain ⟨xs, h1, h2⟩ := list_ref h.1
    obtain ⟨ys, h3, h4⟩ := list_ref h.2
    refine ⟨xs, ys, h1, h3, ?_⟩
    rw [zip_len, h2.length, h4.length]
    omega
  yld := fun i H B v H' hi h y => by
    rw [zip_len] at hi
    obtain ⟨xs, h1, h2⟩ := list_ref h.1
    obtain ⟨ys, h3, h4⟩ := list_ref h.2
    obtain ⟨T, x, y, rfl, nT, rfl, y1, y2⟩ := y
    obtain ⟨d, hd⟩ := get_lt (xs := ds) (i := i) (by omega)
    obtain ⟨e, he⟩ := get_lt (xs := es) (i := i) (by omega)
    obtain ⟨v, hv, dq⟩ := h2.get hd
    obtain ⟨u, hu, eq⟩ := h4.get he
    have e1 := y1 xs h1
    rw [hv] at e1
    cases e1
    have e2 := y2 ys h3
    rw [hu] at e2
    cases e2
    obtain ⟨B', s1, s2⟩ := pair_ok nT dq eq
    exact ⟨B', _, zip_get ds es i d e hd he, s1, s2⟩
  keep := fun H B H' B' h k => ⟨h.1.keeps k, h.2.keeps k⟩
theorem yl_zipT : Yl K w (RZ.ItzT K a b) (zipD ds es) fun H B => Dq K w H B (.ref a) (.tuple ds) ∧ Dq K w H B (.ref b) (.tuple es) where
  go := fun i H B hi h => by
    rw [zip_len] at hi
    obtain ⟨xs, h1, h2⟩ := tup_ref h.1
    obtain ⟨ys, h3, h4⟩ := tup_ref h.2
    obtain ⟨x, hx⟩ := get_lt (xs := xs) (i := i) (by rw [h2.length]; omega)
    obtain ⟨y, hy⟩ := get_lt (xs := ys) (i := i) (by rw [h4.length]; omega)
    exact ⟨xs, ys, x, y, h1, h3, hx, hy⟩
  stop := fun H B h => by
    obtain ⟨xs, h1, h2⟩ := tup_ref h.1
    obtain ⟨ys, h3, h4⟩ := tup_ref h.2
    refine ⟨xs, ys, h1, h3, ?_⟩
    rw [zip_len, h2.length, h4.length]
    omega
  yld := fun i H B v H' hi h y => by
    rw [zip_len] at hi
    obtain ⟨xs, h1, h2⟩ := tup_ref h.1
    obtain ⟨ys, h3, h4⟩ := tup_ref h.2
    obtain ⟨T, x, y, rfl, nT, rfl, y1, y2⟩ := y
    obtain ⟨d, hd⟩ := get_lt (xs := ds) (i := i) (by omega)
    obtain ⟨e, he⟩ := get_lt (xs := es) (i := i) (by omega)
    obtain ⟨v, hv, dq⟩ := h2.get hd
    obtain ⟨u, hu, eq⟩ := h4.get he
    have e1 := y1 xs h1
    rw [hv] at e1
    cases e1
    have e2 := y2 ys h3
    rw [hu] at e2
    cases e2
    obtain ⟨B', s1, s2⟩ := pair_ok nT dq eq
    exact ⟨B', _, zip_get ds es i d e hd he, s1, s2⟩
  keep := fun H B H' B' h k => ⟨h.1.keeps k, h.2.keeps k⟩
theorem yl_revL : Yl K w (Itv K a ds.length) ds.reverse fun H B => Dq K w H B (.ref a) (.list ds) where
  go := fun i H B hi h => by
    rw [List.length_reverse] at hi
    obtain ⟨xs, h1, h2⟩ := list_ref h
    obtain ⟨x, hx⟩ := get_lt (xs := xs) (i := ds.length - 1 - i) (by rw [h2.length]; omega)
    exact ⟨hi, xs, x, h1, hx⟩
  stop := fun H B h => by rw [List.length_reverse]; exact Nat.le_refl _
  yld := fun i H B x H' hi h y => by
    rw [List.length_reverse] at hi
    obtain ⟨xs, h1, h2⟩ := list_ref h
    obtain ⟨rfl, y⟩ := y
    obtain ⟨d, hd⟩ := get_lt (xs := ds) (i := ds.length - 1 - i) (by omega)
    obtain ⟨v, hv, dq⟩ := h2.get hd
    have e := y xs h1
    rw [hv] at e
    cases e
    exact ⟨B, d, by rw [List.getElem?_reverse hi]; exact hd, fun M hM => .refl hM, dq⟩
  keep := fun H B H' B' h k => h.keeps k
theorem yl_revT : Yl K w (RT.ItvT K a ds.length) ds.reverse fun H B => Dq K w H B (.ref a) (.tuple ds) where
  go := fun i H B hi h => by
    rw [List.length_reverse] at hi
    obtain ⟨xs, h1, h2⟩ := tup_ref h
    obtain ⟨x, hx⟩ := get_lt (xs := xs) (i := ds.length - 1 - i) (by rw [h2.length]; omega)
    exact ⟨hi, xs, x, h1, hx⟩
  stop := fun H B h => by rw [List.length_reverse]; exact Nat.le_refl _
  yld := fun i H B x H' hi h y => by
    rw [List.length_reverse] at hi
    obtain ⟨xs, h1, h2⟩ := tup_ref h
    obtain ⟨rfl, y⟩ := y
    obtain ⟨d, hd⟩ := get_lt (xs := ds) (i := ds.length - 1 - i) (by omega)
    obtain ⟨v, hv, dq⟩ := h2.get hd
    have e := y xs h1
    rw [hv] at e
    cases e
    exact ⟨B, d, by rw [List.getElem?_reverse hi]; exact hd, fun M hM => .refl hM, dq⟩
  keep := fun H B H' B' h k => h.keeps k
end
section
variable {X : Cx} {tg e a b : Expr} {s sa sb : Sm} {pos p : Pos}
def seqV (v : Env → Option (R × Env)) (f : List D → List D) : Env → Option (List D × Env) := fun ρ => do
  let (r, ρ) ← v ρ
  let (d, ρ) ← frz ρ r
  let ds ← itemsD d
  some (f ds, ρ)
theorem pi_seq (h : PB X e s) : PI X tg e (tI X.K X.w (seqV s.v id)) := ⟨fun pins st σ H R I ⟨B, ρ, ds, ρ', rel, e1, q⟩ => by
  obtain ⟨⟨r, ρ1⟩, e2, e1⟩ := bi e1
  obtain ⟨⟨d, ρ2⟩, e3, e1⟩ := bi e1
  obtain ⟨ds', e4, e1⟩ := bi e1
  cases e1
  cases d with
  | list xs =>
    cases e4
    refine (pi_list h.v).run pins st σ H R I ⟨B, ρ, r, ρ1, rel, e2, fun x H1 B1 p1 r1 => ?_⟩
    obtain ⟨B2, p2, dq⟩ := frz_pst rel p1 r1 e3
    obtain ⟨c, zs, rfl, h1, h2⟩ := dq.list
    exact ⟨c, rfl, ⟨zs, sq_of h1⟩, q _ H1 B2 _ p2 dq yl_list⟩
  | tuple xs =>
    cases e4
    refine (pi_tup h.v).run pins st σ H R I ⟨B, ρ, r, ρ1, rel, e2, fun x H1 B1 p1 r1 => ?_⟩
    obtain ⟨B2, p2, dq⟩ := frz_pst rel p1 r1 e3
    obtain ⟨c, zs, rfl, h1, h2⟩ := dq.tuple
    exact ⟨c, rfl, ⟨zs, h1⟩, q _ H1 B2 _ p2 dq yl_tup⟩
  | _ => cases e4⟩
theorem pi_revD (h : PB X e s) (hg : Gl X "reversed") (hm : X.mg "reversed" = none) (hs : NoSt X e) : PI X tg (.Call (.Name "reversed" p) [e] [] pos) (tI X.K X.w (seqV s.v List.reverse)) := ⟨fun pins st σ H R I ⟨B, ρ, ds, ρ', rel, e1, q⟩ => by
  obtain ⟨⟨r, ρ1⟩, e2, e1⟩ := bi e1
  obtain ⟨⟨d, ρ2⟩, e3, e1⟩ := bi e1
  obtain ⟨ds', e4, e1⟩ := bi e1
  cases e1
  refine (RT.pi_revA hg hm h.v (hs [])).run pins st σ H R I ⟨B, ρ, r, ρ1, rel, e2, fun x H1 B1 p1 r1 => ?_⟩
  obtain ⟨B2, p2, dq⟩ := frz_pst rel p1 r1 e3
  cases d with
  | list xs =>
    cases e4
    obtain ⟨c, zs, rfl, h1, h2⟩ := dq.list
    exact ⟨c, zs, rfl, .inl ⟨sq_of h1, by rw [h2.length]; exact q _ H1 B2 _ p2 dq yl_revL⟩⟩
  | tuple xs =>
    cases e4
    obtain ⟨c, zs, rfl, h1, h2⟩ := dq.tuple
    exact ⟨c, zs, rfl, .inr ⟨h1, by rw [h2.length]; exact q _ H1 B2 _ p2 dq yl_revT⟩⟩
  | _ => cases e4⟩
theorem pi_enumD {elts : List Expr} {kk : Nat} {tpos : Pos} (h : PB X e s) (hg : Gl X "enumerate") (hm : X.mg "enumerate" = none) (hs : NoSt X e) : PI X (.Tuple elts kk tpos) (.Call (.Name "enumerate" p) [e] [] pos) (tI X.K X.w (seqV s.v (enumFrom 0))) := ⟨fun pins st σ H R I ⟨B, ρ, ds, ρ', rel, e1, q⟩ => by
  obtain ⟨⟨r, ρ1⟩, e2, e1⟩ := bi e1
  obtain ⟨⟨d, ρ2⟩, e3, e1⟩ := bi e1
  obtain ⟨ds', e4, e1⟩ := bi e1
  cases e1
  refine (pi_enumA hg hm (pas_cons h pas_nil (hs [])) (hs [])).run pins st σ H R I ⟨B, ρ, [r], ρ1, rel, by unfold consV; rw [e2]; rfl, fun xs H1 B1 p1 r1 => ?_⟩
  cases r1 with
  | cons r1 _ r2 =>
  cases r2
  obtain ⟨B2, p2, dq⟩ := frz_pst rel p1 r1 e3
  cases d with
  | list xs =>
    cases e4
    obtain ⟨c, zs, rfl, h1, h2⟩ := dq.list
    exact ⟨c, zs, rfl, .inl ⟨sq_of h1, q _ H1 B2 _ p2 dq yl_enumL⟩⟩
  | tuple xs =>
    cases e4
    obtain ⟨c, zs, rfl, h1, h2⟩ := dq.tuple
    exact ⟨c, zs, rfl, .inr ⟨h1, q _ H1 B2 _ p2 dq yl_enumT⟩⟩
  | _ => cases e4⟩
def zipV (va vb : Env → Option (R × Env)) : Env → Option (List D × Env) := fun ρ => do
  let (x, ρ) ← va ρ
  let (y, ρ) ← vb ρ
  let (x, ρ) ← frz ρ x
  let (y, ρ) ← frz ρ y
  match x, y with
  | .list xs, .list ys => some (zipD xs ys, ρ)
  | .tuple xs, .tuple ys => some (zipD xs ys, ρ)
  | _, _ => none
theorem pi_zipD {elts : List Expr} {kk : Nat} {tpos : Pos} (ha : PB X a sa) (hb : PB X b sb) (hg : Gl X "zip") (hm : X.mg "zip" = none) (hs : NoSt X a) (hs2 : NoSt X b) : PI X (.Tuple elts kk tpos) (.Call (.Name "zip" p) [a, b] [] pos) (tI X.K X.w (zipV sa.v sb.v)) := ⟨fun pins st σ H R I ⟨B, ρ, ds, ρ', rel, e1, q⟩ => by
  obtain ⟨⟨x, ρ1⟩, e2, e1⟩ := bi e1
  obtain ⟨⟨y, ρ2⟩, e3, e1⟩ := bi e1
  obtain ⟨⟨dx, ρ3⟩, e4, e1⟩ := bi e1
  obtain ⟨⟨dy, ρ4⟩, e5, e1⟩ := bi e1
  refine (RZ.pi_zipA hg hm (pas_cons ha (pas_cons hb pas_nil (hs2 [])) (hs _)) (hs _) (by rw [hs2 []]; rfl)).run pins st σ H R I ⟨B, ρ, [x, y], ρ2, rel, by unfold consV; rw [e2]; show (do let (rs, ρ) ← (do let (r, ρ) ← sb.v ρ1; let (rs, ρ) ← nilV ρ; some (r :: rs, ρ)); some (x :: rs, ρ)) = _; rw [e3]; rfl, fun xs H1 B1 p1 r1 => ?_⟩
  cases r1 with
  | cons r1 hd r2 =>
  cases r2 with
  | cons r2 _ r3 =>
  cases r3
  obtain ⟨B2, f⟩ := frz_ok p1.rel (p1.there rel) r1 e4
  have r2' := f.oth _ _ r2 fun d d' z1 z2 z3 => by
    subst z1 z2 z3
    exact hd _ rfl List.mem_cons_self
  obtain ⟨B3, f2⟩ := frz_ok (f.pst p1).rel ((f.pst p1).there rel) r2' e5
  have p3 := f2.pst (f.pst p1)
  have dx' := f.dq.keeps (fun a o z n => ⟨z, fun y => n (f2.sub a y)⟩ : Keeps H1 B2 H1 B3)
  have dy' := f2.dq
  cases dx with
  | list xs =>
    cases dy with
    | list ys =>
      cases e1
      obtain ⟨c, zs, rfl, h1, h2⟩ := dx'.list
      obtain ⟨c2, zs2, rfl, h3, h4⟩ := dy'.list
      exact ⟨c, c2, zs, zs2, rfl, .inl ⟨sq_of h1, sq_of h3, q _ H1 B3 _ p3 ⟨dx', dy'⟩ yl_zipL⟩⟩
    | _ => cases e1
  | tuple xs =>
    cases dy with
    | tuple ys =>
      cases e1
      obtain ⟨c, zs, rfl, h1, h2⟩ := dx'.tuple
      obtain ⟨c2, zs2, rfl, h3, h4⟩ := dy'.tuple
      exact ⟨c, c2, zs, zs2, rfl, .inr ⟨h1, h3, q _ H1 B3 _ p3 ⟨dx', dy'⟩ yl_zipT⟩⟩
    | _ => cases e1
  | _ => cases dy <;> cases e1⟩
def rng1V (v : Env → Option (R × Env)) : Env → Option (List D × Env) := fun ρ => do
  let (r, ρ) ← v ρ
  match ← res ρ r with
  | .int n => if okInt n then some (rangeD 0 n.toNat, ρ) else none
  | _ => none
theorem pi_rng1 (h : PB X e s) (hg : Gl X "range") (hm : X.mg "range" = none) (hs : NoSt X e) : PI X tg (.Call (.Name "range" p) [e] [] pos) (tI X.K X.w (rng1V s.v)) := ⟨fun pins st σ H R I ⟨B, ρ, ds, ρ', rel, e1, q⟩ => by
  obtain ⟨⟨r, ρ1⟩, e2, e1⟩ := bi e1
  obtain ⟨d, e3, e1⟩ := bi e1
  refine (pi_range1 hg hm (pas_cons h pas_nil (hs [])) (hs [])).run pins st σ H R I ⟨B, ρ, [r], ρ1, rel, by unfold consV; rw [e2]; rfl, fun xs H1 B1 p1 r1 => ?_⟩
  cases r1 with
  | cons r1 _ r2 =>
  cases r2
  have vr := res_ok p1.rel r1 e3
  split at e1
  · obtain ⟨ok, e1⟩ := ifs e1
    cases e1
    cases vr.int
    obtain ⟨h1, h2⟩ := of_decide_eq_true ok
    exact ⟨_, rfl, h1, h2, q _ H1 B1 _ p1 trivial yl_range⟩
  · cases e1⟩
def rng2V (va vb : Env → Option (R × Env)) : Env → Option (List D × Env) := fun ρ => do
  let (x, ρ) ← va ρ
  let (y, ρ) ← vb ρ
  match ← res ρ x, ← res ρ y with
  | .int i, .int j => if okInt i && okInt j then some (rangeD i (j - i).toNat, ρ) else none
  | _, _ => none
theorem pi_rng2 (ha : PB X a sa) (hb : PB X b sb) (hg : Gl X "range") (hm : X.mg "range" = none) (hs : NoSt X a) (hs2 : NoSt X b) : PI X tg (.Call (.Name "range" p) [a, b] [] pos) (tI X.K X.w (rng2V sa.v sb.v)) := ⟨fun pins st σ H R I ⟨B, ρ, ds, ρ', rel, e1, q⟩ => by
  obtain ⟨⟨x, ρ1⟩, e2, e1⟩ := bi e1
  obtain ⟨⟨y, ρ2⟩, e3, e1⟩ := bi e1
  obtain ⟨dx, e4, e1⟩ := bi e1
  obtain ⟨dy, e5, e1⟩ := bi e1
  have hs3 : starEach [a, b] X.env = [(false, eval a X.env), (false, eval b X.env)] := by rw [hs, hs2 []]; rfl
  refine (pi_range2 hg hm (pas_cons ha (pas_cons hb pas_nil (hs2 [])) (hs _)) hs3 (hs2 [])).run pins st σ H R I ⟨B, ρ, [x, y], ρ2, rel, by unfold consV; rw [e2]; show (do let (rs, ρ) ← (do let (r, ρ) ← sb.v ρ1; let (rs, ρ) ← nilV ρ; some (r :: rs, ρ)); some (x :: rs, ρ)) = _; rw [e3]; rfl, fun xs H1 B1 p1 r1 => ?_⟩
  cases r1 with
  | cons r1 hd r2 =>
  cases r2 with
  | cons r2 _ r3 =>
  cases r3
  have vx := res_ok p1.rel r1 e4
  have vy := res_ok p1.rel r2 e5
  split at e1
  · obtain ⟨ok, e1⟩ := ifs e1
    cases e1
    cases vx.int
    cases vy.int
    rw [Bool.and_eq_true] at ok
    obtain ⟨h1, h2⟩ := of_decide_eq_true ok.1
    obtain ⟨h3, h4⟩ := of_decide_eq_true ok.2
    exact ⟨_, _, rfl, ⟨h1, h2, h3, h4⟩, q _ H1 B1 _ p1 trivial yl_range⟩
  · cases e1⟩
end
end Mp

namespace Mp
open PySem PySem.Spec L2
/-! ### targets -/
mutual
def tgSlots : Tg → List Nat
  | .name i => [i]
  | .tup ts => tgsSlots ts
def tgsSlots : List Tg → List Nat
  | [] => []
  | t :: ts => tgSlots t ++ tgsSlots ts
end
/-- what the slots own behind a store of data, they owned ahead of it -/
structure TgPost (σ : L2.St) (ρ : Env) (σ' : L2.St) (ρ' : Env) (ks : List Nat) : Prop where
  own : ∀ i l d, Env.at ρ' i = some (.own l d) → Env.at ρ i = some (.own l d) ∧ σ'[i]? = σ[i]?
  out : ∀ i, i ∉ ks → σ'[i]? = σ[i]?
  som : ∀ i, Env.at ρ i ≠ none → Env.at ρ' i ≠ none
def tGd (K : PySem.W.Frag) (w : World) (t : Tg) : TG := fun v σ H Q => ∃ B ρ d ρ', Rel K w σ H B ρ ∧ Dq K w H B v d ∧ setTg t d ρ = some ρ' ∧ ∀ σ', Rel K w σ' H B ρ' → TgPost σ ρ σ' ρ' (tgSlots t) → Q σ' H
def tGs (K : PySem.W.Frag) (w : World) (ts : List Tg) : TGs := fun vs σ H Q => ∃ B ρ ds ρ', Rel K w σ H B ρ ∧ Dqs K w H B vs ds ∧ setTg.setTgs ts ds ρ = some ρ' ∧ ∀ σ', Rel K w σ' H B ρ' → TgPost σ ρ σ' ρ' (tgsSlots ts) → Q σ' H
section
variable {K : PySem.W.Frag} {w : World} {σ σ' σ2 : L2.St} {H H' : Hp} {B B' : Own} {ρ ρ' ρ2 : Env}
theorem rel_set {i : Nat} {v : V} {d : D} (rel : Rel K w σ H B ρ) (hi : i < ρ.length) (dq : Dq K w H B v d) : Rel K w (σ.set i (some v)) H B (ρ.set i (some (.shr d))) ∧ TgPost σ ρ (σ.set i (some v)) (ρ.set i (some (.shr d))) [i] := by
  have sub : ∀ j l d2, Env.at (ρ.set i (some (.shr d))) j = some (.own l d2) → i ≠ j ∧ Env.at ρ j = some (.own l d2) := fun j l d2 z => by
    rw [at_set] at z
    split at z
    · cases z
    · rename_i n
      exact ⟨fun q => n ⟨q, hi⟩, z⟩
  refine ⟨⟨by rw [List.length_set, List.length_set]; exact rel.len, fun j d2 z => ?_, fun j l d2 z => ?_, fun j k l d1 l' d2 a z1 z2 h1 h2 => ?_⟩, ⟨fun j l d2 z => ?_, fun j n => ?_, fun j z => ?_⟩⟩
  · rw [at_set] at z
    split at z
    · rename_i h
      obtain ⟨rfl, _⟩ := h
      cases z
      exact ⟨v, List.getElem?_set_self (by rw [rel.len]; exact hi), dq⟩
    · rename_i n
      rw [List.getElem?_set_ne fun q => n ⟨q, hi⟩]
      exact rel.shr j d2 z
  · obtain ⟨n, z⟩ := sub j l d2 z
    rw [List.getElem?_set_ne n]
    exact rel.own j l d2 z
  · obtain ⟨n1, z1⟩ := sub j l d1 z1
    obtain ⟨n2, z2⟩ := sub k l' d2 z2
    rw [List.getElem?_set_ne n1] at h1
    rw [List.getElem?_set_ne n2] at h2
    exact rel.one j k l d1 l' d2 a z1 z2 h1 h2
  · obtain ⟨n, z⟩ := sub j l d2 z
    exact ⟨z, List.getElem?_set_ne n⟩
  · exact List.getElem?_set_ne fun q => n (by simp [q])
  · rw [at_set]
    split
    · simp
    · exact z
theorem TgPost.trans {ks ks2 : List Nat} (a : TgPost σ ρ σ' ρ' ks) (b : TgPost σ' ρ' σ2 ρ2 ks2) : TgPost σ ρ σ2 ρ2 (ks ++ ks2) :=
  ⟨fun i l d z => by
    obtain ⟨h1, h2⟩ := b.own i l d z
    obtain ⟨h3, h4⟩ := a.own i l d h1
    exact ⟨h3, h2.trans h4⟩, fun i n => by
    rw [List.mem_append, not_or] at n
    exact (b.out i n.2).trans (a.out i n.1), fun i z => b.som i (a.som i z)⟩
theorem okSlot_lt {i : Nat} (h : okSlot ρ i = true) : i < ρ.length ∧ ∀ d, Env.at ρ i ≠ some (.own true d) := by
  unfold okSlot at h
  split at h
  · cases h
  · rename_i n
    exact ⟨of_decide_eq_true h, fun d z => n d z⟩
theorem TgPost.refl : TgPost σ ρ σ ρ [] := ⟨fun _ _ _ h => ⟨h, rfl⟩, fun _ _ => rfl, fun _ h => h⟩
theorem TgPost.oa {ks : List Nat} (p : TgPost σ ρ σ' ρ' ks) : ∀ a, OA σ' ρ' a → OA σ ρ a := fun a ⟨i, l, d, z, y⟩ => by
  obtain ⟨h1, h2⟩ := p.own i l d z
  exact ⟨i, l, d, h1, by rw [← h2]; exact y⟩
end
section
variable {X : Cx} {e : Expr} {es : List Expr} {pos : Pos} {t : Tg} {ts : List Tg}
theorem pgd_name {i : Nat} {x : Str} (hN : X.N.Nodup) (hi : X.N[i]? = some x) (hx : Loc X.env.scope x) (hf : X.fn x = true ∨ X.env.scope.names.lookup x = some .local) : PG X (.Name x pos) (tGd X.K X.w (.name i)) := by
  refine ⟨fun pins s σ H v u Q I r ⟨B, ρ, d, ρ', rel, dq, e, q⟩ => ?_⟩
  obtain ⟨h, e⟩ := ifs (show (if okSlot ρ i = true then some (ρ.set i (some (.shr d))) else none) = some ρ' from e)
  cases e
  obtain ⟨h1, h2⟩ := rel_set rel (okSlot_lt h).1 dq
  exact (pg_name hN hi hx hf).run pins s σ H v u Q I r (q _ h1 h2)
theorem pgds_nil : PGs X [] (tGs X.K X.w []) := by
  refine ⟨fun pins s σ H vs us Q I r ⟨B, ρ, ds, ρ', rel, dq, e, q⟩ => ?_⟩
  cases ds with
  | nil =>
    cases e
    cases dq
    exact pgs_nil.run pins s σ H [] us Q I r ⟨rfl, q _ rel .refl⟩
  | cons _ _ => cases e
theorem pgds_cons (h1 : PG X e (tGd X.K X.w t)) (h2 : PGs X es (tGs X.K X.w ts)) (hs : (assignEach (e :: es) X.env).map (·.2) = assign e X.env :: (assignEach es X.env).map (·.2)) : PGs X (e :: es) (tGs X.K X.w (t :: ts)) := by
  refine ⟨fun pins s σ H vs us Q I r ⟨B, ρ, ds, ρ', rel, dq, e, q⟩ => ?_⟩
  cases ds with
  | nil => cases e
  | cons d ds =>
    obtain ⟨ρ1, e1, e⟩ := bi (show (setTg t d ρ >>= fun ρ => setTg.setTgs ts ds ρ) = some ρ' from e)
    cases dq with
    | @cons v vs _ _ dv dvs =>
      refine (pgs_cons h1 h2 hs).run pins s σ H (v :: vs) us Q I r ⟨v, vs, rfl, B, ρ, d, ρ1, rel, dv, e1, fun σ1 r1 p1 => ⟨B, ρ1, ds, ρ', r1, dvs, e, fun σ2 r2 p2 => q σ2 r2 (p1.trans p2)⟩⟩
theorem pgd_tup {k : Nat} (hc : X.calm = true) (h : PGs X es (tGs X.K X.w ts)) (hl : ts.length = es.length) (hn : (assignEach es X.env).length = es.length) (hst : (assignEach es X.env).findIdx? (·.1) = none) : PG X (.Tuple es k pos) (tGd X.K X.w (.tup ts)) := by
  refine ⟨fun pins s σ H v u Q I r ⟨B, ρ, d, ρ', rel, dq, e, q⟩ => ?_⟩
  cases d with
  | tuple ds =>
    have len : ∀ (ts : List Tg) (ds : List D) (ρ ρ' : Env), setTg.setTgs ts ds ρ = some ρ' → ts.length = ds.length := fun ts => by
      induction ts with
      | nil => intro ds ρ ρ' e; cases ds with | nil => rfl | cons => cases e
      | cons t ts ih =>
        intro ds ρ ρ' e
        cases ds with
        | nil => cases e
        | cons d ds =>
          obtain ⟨ρ1, _, e⟩ := bi (show (setTg t d ρ >>= fun ρ => setTg.setTgs ts ds ρ) = some ρ' from e)
          rw [List.length_cons, List.length_cons, ih ds ρ1 ρ' e]
    obtain ⟨a, xs, rfl, h1, h2⟩ := dq.tuple
    exact (pg_tup hc h hn hst).run pins s σ H (.ref a) u Q I r ⟨a, xs, rfl, h1, by rw [h2.length, ← len ts ds ρ ρ' e]; exact hl, B, ρ, ds, ρ', rel, h2, e, q⟩
  | _ => cases e
end
/-! ### comprehensions -/
theorem at_wipe (ρ : Env) : ∀ (vs : List Nat) (i : Nat), Env.at (wipeE ρ vs) i = if i ∈ vs then none else Env.at ρ i
  | [], i => by simp [wipeE]
  | v :: vs, i => by
    unfold wipeE
    rw [at_set, at_wipe ρ vs i]
    by_cases h : v = i
    · subst h
      simp only [List.mem_cons, true_or, if_true]
      split
      · rfl
      · rename_i n
        split
        · rfl
        · cases e : Env.at ρ v with
          | none => rfl
          | some c =>
            have len : ∀ vs : List Nat, (wipeE ρ vs).length = ρ.length := fun vs => by
              induction vs with
              | nil => rfl
              | cons a r ih => unfold wipeE; rw [List.length_set, ih]
            have n2 : (wipeE ρ vs).length ≤ v := by simpa using n
            have n3 := at_lt e
            rw [len] at n2
            omega
    · rw [if_neg (fun z => h z.1)]
      have : i ∈ v :: vs ↔ i ∈ vs := ⟨fun z => (List.mem_cons.mp z).resolve_left fun y => h y.symm, List.mem_cons_of_mem _⟩
      simp [this]
theorem wipeE_len (ρ : Env) (vs : List Nat) : (wipeE ρ vs).length = ρ.length := by
  induction vs with
  | nil => rfl
  | cons a r ih => unfold wipeE; rw [List.length_set, ih]
theorem backE_len (ρ0 ρ : Env) (vs : List Nat) : (backE ρ0 ρ vs).length = ρ.length := by
  induction vs with
  | nil => rfl
  | cons a r ih => unfold backE; rw [List.length_set, ih]
theorem at_back {ρ0 ρ : Env} (hl : ρ.length = ρ0.length) : ∀ (vs : List Nat) (i : Nat), Env.at (backE ρ0 ρ vs) i = if i ∈ vs then Env.at ρ0 i else Env.at ρ i
  | [], i => by simp [backE]
  | v :: vs, i => by
    unfold backE
    rw [at_set, at_back hl vs i]
    by_cases h : v = i
    · subst h
      simp only [List.mem_cons, true_or, if_true]
      split
      · rfl
      · rename_i n
        rw [backE_len] at n
        have h0 : Env.at ρ v = none := by
          cases e : Env.at ρ v with
          | none => rfl
          | some c =>
            have n2 : ρ.length ≤ v := by simpa using n
            have n3 := at_lt e
            omega
        have h1 : Env.at ρ0 v = none := by
          cases e : Env.at ρ0 v with
          | none => rfl
          | some c =>
            have n2 : ρ.length ≤ v := by simpa using n
            have n3 := at_lt e
            omega
        rw [h0, h1]
        simp
    · rw [if_neg (fun z => h z.1)]
      have : i ∈ v :: vs ↔ i ∈ vs := ⟨fun z => (List.mem_cons.mp z).resolve_left fun y => h y.symm, List.mem_cons_of_mem _⟩
      simp [this]
section
variable {K : PySem.W.Frag} {w : World} {σ σ' σ2 : L2.St} {H H' : Hp} {B B' : Own} {ρ ρ' ρ2 : Env}
theorem rel_wipe {vs : List Nat} (rel : Rel K w σ H B ρ) : Rel K w (wipe σ vs) H B (wipeE ρ vs) := by
  have sub : ∀ i c, Env.at (wipeE ρ vs) i = some c → i ∉ vs ∧ Env.at ρ i = some c := fun i c z => by
    rw [at_wipe] at z
    split at z
    · cases z
    · rename_i n; exact ⟨n, z⟩
  refine ⟨by rw [wipe_length, wipeE_len]; exact rel.len, fun i d z => ?_, fun i l d z => ?_, fun i j l d l' d' a z1 z2 h1 h2 => ?_⟩
  · obtain ⟨n, z⟩ := sub _ _ z
    rw [wipe_out n]
    exact rel.shr i d z
  · obtain ⟨n, z⟩ := sub _ _ z
    rw [wipe_out n]
    exact rel.own i l d z
  · obtain ⟨n1, z1⟩ := sub _ _ z1
    obtain ⟨n2, z2⟩ := sub _ _ z2
    rw [wipe_out n1] at h1
    rw [wipe_out n2] at h2
    exact rel.one i j l d l' d' a z1 z2 h1 h2
theorem oa_wipe {vs : List Nat} : ∀ a, OA (wipe σ vs) (wipeE ρ vs) a → OA σ ρ a := fun a ⟨i, l, d, z, y⟩ => by
  rw [at_wipe] at z
  split at z
  · cases z
  · rename_i n
    rw [wipe_out n] at y
    exact ⟨i, l, d, z, y⟩
end
mutual
theorem setTg_len : ∀ {t : Tg} {d : D} {ρ ρ' : Env}, setTg t d ρ = some ρ' → ρ'.length = ρ.length
  | .name i, d, ρ, ρ', e => by
    obtain ⟨_, e⟩ := ifs (show (if okSlot ρ i = true then some (ρ.set i (some (.shr d))) else none) = some ρ' from e)
    cases e
    exact List.length_set
  | .tup ts, d, ρ, ρ', e => by
    cases d with
    | tuple ds => exact setTgs_len e
    | _ => cases e
theorem setTgs_len : ∀ {ts : List Tg} {ds : List D} {ρ ρ' : Env}, setTg.setTgs ts ds ρ = some ρ' → ρ'.length = ρ.length
  | [], [], ρ, ρ', e => by cases e; rfl
  | t :: ts, d :: ds, ρ, ρ', e => by
    obtain ⟨ρ1, e1, e⟩ := bi (show (setTg t d ρ >>= fun ρ => setTg.setTgs ts ds ρ) = some ρ' from e)
    exact (setTgs_len e).trans (setTg_len e1)
  | [], _ :: _, _, _, e => by cases e
  | _ :: _, [], _, _, e => by cases e
end
def turnV (t : Tg) (vc : Env → Option (Bool × Env)) (ve : Env → Option (R × Env)) (own : List Nat) : D → Env → Option (Option D × Env) := fun d ρ => do
  let ρ ← setTg t d (wipeE ρ own)
  let (k, ρ) ← vc ρ
  if k then do
    let (r, ρ) ← ve ρ
    let (x, ρ) ← frz ρ r
    some (some x, ρ)
  else some (none, ρ)
def lcV (vi : Env → Option (List D × Env)) (t : Tg) (vc : Env → Option (Bool × Env)) (ve : Env → Option (R × Env)) (own : List Nat) : Env → Option (R × Env) := fun ρ => do
  let (ds, ρ) ← vi ρ
  if noOwn ρ own then do
    let (xs, ρ') ← lcD (turnV t vc ve own) ds ρ
    if xs.length ≤ sizeLine then some (.frs (.list xs), backE ρ ρ' own) else none
  else none
theorem lcD_inv {f : D → Env → Option (Option D × Env)} {d : D} {ds xs : List D} {ρ ρ' : Env} (e : lcD f (d :: ds) ρ = some (xs, ρ')) : ∃ o ρ1 r, f d ρ = some (o, ρ1) ∧ lcD f ds ρ1 = some (r, ρ') ∧ xs = o.toList ++ r := by
  obtain ⟨⟨o, ρ1⟩, e1, e⟩ := bi (show ((f d ρ) >>= fun p => (lcD f ds p.2) >>= fun q => match p.1 with | some x => some (x :: q.1, q.2) | none => some (q.1, q.2)) = some (xs, ρ') from e)
  obtain ⟨⟨r, ρ2⟩, e2, e⟩ := bi e
  cases o with
  | none => cases e; exact ⟨_, _, _, e1, e2, rfl⟩
  | some x => cases e; exact ⟨_, _, _, e1, e2, rfl⟩
/-- between two turns -/
structure LcW (K : PySem.W.Frag) (w : World) (σ : L2.St) (H1 : Hp) (B1 : Own) (ρ1 : Env) (vs : List Nat) (G : Hp → Own → Prop) (Dd : Addr) (f : D → Env → Option (Option D × Env)) (ds xs : List D) (ρe : Env) (i : Nat) (H : Hp) (B : Own) (ρi : Env) (acc : List V) (dacc rest : List D) : Prop where
  le : i ≤ ds.length
  rel : Rel K w (wipe σ vs) H B (wipeE ρi vs)
  g : G H B
  stp : Stp (OA σ ρ1) H1 B1 H B
  kin : Kin ρ1 (wipeE ρi vs)
  som : ∀ j, j ∉ vs → Env.at ρ1 j ≠ none → Env.at ρi j ≠ none
  own : B Dd
  at' : H Dd = some (.lst acc)
  dq : Dqs K w H B acc dacc
  run : lcD f (ds.drop i) ρi = some (rest, ρe)
  all : xs = dacc ++ rest
  len : ρi.length = ρ1.length
theorem kin_oa {σ : L2.St} {ρ ρ' : Env} {vs : List Nat} (k : Kin ρ (wipeE ρ' vs)) : ∀ a, OA (wipe σ vs) (wipeE ρ' vs) a → OA σ ρ a := fun a ⟨i, l, d, z, y⟩ => by
  obtain ⟨d', z'⟩ := k i l d z
  rw [at_wipe] at z
  split at z
  · cases z
  · rename_i n
    rw [wipe_out n] at y
    exact ⟨i, l, d', z', y⟩
theorem kin_wipe {ρ : Env} {vs : List Nat} : Kin ρ (wipeE ρ vs) := fun i l d z => by
  rw [at_wipe] at z
  split at z
  · cases z
  · exact ⟨d, z⟩
theorem TgPost.kin {σ σ' : L2.St} {ρ ρ' : Env} {ks : List Nat} (p : TgPost σ ρ σ' ρ' ks) : Kin ρ ρ' := fun i l d z => ⟨d, (p.own i l d z).1⟩
section
variable {K : PySem.W.Frag} {w : World}
theorem lc_rd {vi : Env → Option (List D × Env)} {t : Tg} {vc : Env → Option (Bool × Env)} {ve : Env → Option (R × Env)} {vs : List Nat} (hts : ∀ i ∈ tgSlots t, i ∈ vs) :
    ∀ σ H Q, tE K w (lcV vi t vc ve vs) σ H Q → tLc (tI K w vi) (tGd K w t) (tT K w vc) (tE K w ve) vs σ H Q := fun σ H Q ⟨B, ρ, r, ρ', rel, e, q⟩ => by
  obtain ⟨⟨ds, ρ1⟩, e1, e⟩ := bi e
  obtain ⟨no, e⟩ := ifs e
  obtain ⟨⟨xs, ρe⟩, e2, e⟩ := bi e
  obtain ⟨hz, e⟩ := ifs e
  cases e
  refine ⟨B, ρ, ds, ρ1, rel, e1, fun J H1 B1 G p1 g1 Y => fun Dd nD => ?_⟩
  have nDO : ∀ {σ' : L2.St} {ρ' : Env}, (∀ a, OA σ' ρ' a → OA σ ρ1 a) → ∀ a, OA σ' ρ' a → a ≠ Dd := fun h a ha z => by
    subst z
    exact p1.rel.oaH a (h a ha) nD
  refine ⟨fun i m H => ∃ B' ρi acc dacc rest, m = ds.length - i ∧ LcW K w σ H1 B1 ρ1 vs G Dd (turnV t vc ve vs) ds xs ρe i H B' ρi acc dacc rest, ⟨ds.length, (fun a => B1 a ∨ a = Dd), ρ1, [], [], xs, by simp, ?_⟩, ?_⟩
  · have st : Stp (OA σ ρ1) H1 B1 (upd H1 Dd (.lst [])) (fun a => B1 a ∨ a = Dd) := stp_own nD p1.rel.oaB
    exact ⟨Nat.zero_le _, (rel_wipe p1.rel).stp (stp_own nD fun a h => h.elim : Stp (fun _ => False) H1 B1 _ _) (fun _ _ h => h), Y.keep _ _ _ _ g1 st.keeps, st, kin_wipe, fun _ _ h => h, .inr rfl, upd_same, .nil, e2, rfl, rfl⟩
  · rintro i m H2 ⟨B2, ρi, acc, dacc, rest, rfl, W⟩
    by_cases hi : i < ds.length
    · refine .inr ⟨Y.go i H2 B2 hi W.g, fun H' => ∃ B' ρi acc dacc rest, LcW K w σ H1 B1 ρ1 vs G Dd (turnV t vc ve vs) ds xs ρe (i + 1) H' B' ρi acc dacc rest, fun H' ⟨B', ρi, acc, dacc, rest, W'⟩ => ⟨ds.length - (i + 1), by omega, B', ρi, acc, dacc, rest, rfl, W'⟩, fun x H3 y => ?_⟩
      obtain ⟨B3, d, hd, st3, dqx⟩ := Y.yld i H2 B2 x H3 hi W.g y
      obtain ⟨hlt, hget⟩ := List.getElem?_eq_some_iff.mp hd
      have run := W.run
      rw [List.drop_eq_getElem_cons hlt, hget] at run
      obtain ⟨o, ρ5, rest', f1, f2, rfl⟩ := lcD_inv run
      obtain ⟨ρ3, e3, f1⟩ := bi f1
      obtain ⟨⟨k, ρ4⟩, e4, f1⟩ := bi f1
      -- behind the yield
      have rel3 : Rel K w (wipe σ vs) H3 B3 (wipeE ρi vs) := W.rel.stp (st3 (fun _ => False) fun _ h => h.elim) fun _ _ h => h
      have s3 := st3 (OA (wipe σ vs) (wipeE ρi vs)) W.rel.oaB
      have own3 : ∀ {H' B' M}, Stp M H2 B2 H' B' → (∀ a, M a → a ≠ Dd) → B' Dd ∧ H' Dd = some (.lst acc) := fun {H' B' M} s h => by
        obtain ⟨h1, h2⟩ := s.keep Dd _ W.at' fun m => h _ m rfl
        exact ⟨h2.mpr W.own, h1⟩
      refine ⟨B3, wipeE ρi vs, d, ρ3, rel3, dqx, e3, fun σ2 r3 tp => ?_⟩
      have hw : wipe σ2 vs = wipe σ vs := by
        apply List.ext_getElem?
        intro j
        by_cases hj : j ∈ vs
        · have w1 : ∀ (s : L2.St) (us : List Nat), j ∈ us → ∀ l, s.length = l → (wipe s us)[j]? = if j < l then some none else none := fun s us => by
            induction us with
            | nil => intro h; cases h
            | cons u us ih =>
              intro h l hl
              unfold wipe
              rw [List.getElem?_set]
              by_cases huj : u = j
              · subst huj
                rw [if_pos rfl, wipe_length, hl]
              · rw [if_neg huj]
                exact ih ((List.mem_cons.mp h).resolve_left fun z => huj z.symm) l hl
          have l1 : σ2.length = σ.length := by
            rw [r3.len, setTg_len e3, ← W.rel.len, wipe_length]
          rw [w1 _ _ hj _ rfl, w1 _ _ hj _ rfl, l1]
        · rw [wipe_out hj, wipe_out hj, tp.out j fun z => hj (hts j z), wipe_out hj]
      refine ⟨hw, B3, ρ3, k, ρ4, r3, e4, fun H4 B4 p4 => ?_⟩
      have oa3 : ∀ a, OA σ2 ρ3 a → OA σ ρ1 a := fun a h => (kin_oa W.kin) a (tp.oa a h)
      have oa4 : ∀ a, OA σ2 ρ4 a → OA σ ρ1 a := fun a h => oa3 a (p4.oa a h)
      have t34 : Stp (OA σ ρ1) H1 B1 H4 B4 := (W.stp.trans s3 fun a _ h => (kin_oa W.kin) a h).trans p4.stp fun a _ h => oa3 a h
      have so4 : ∀ j, j ∉ vs → Env.at ρ1 j ≠ none → Env.at ρ4 j ≠ none := fun j nj h => p4.som j (tp.som j (by rw [at_wipe, if_neg nj]; exact W.som j nj h))
      have len3 : ρ3.length = ρ1.length := by
        rw [setTg_len e3, wipeE_len]
        exact W.len
      have len4 : ρ4.length = ρ1.length := by
        rw [← p4.rel.len, r3.len]
        exact len3
      have kp4 : Keeps H2 B2 H4 B4 := fun a u h n => by
        obtain ⟨h1, h2⟩ := s3.keeps a u h n
        exact p4.stp.keeps a u h1 h2
      obtain ⟨b3, a3⟩ := own3 s3 (nDO (kin_oa W.kin))
      obtain ⟨a4, b4⟩ := p4.stp.keep Dd _ a3 fun m => nDO oa3 _ m rfl
      have b4 := b4.mpr b3
      cases k with
      | false =>
        cases f1
        exact ⟨B4, ρ5, acc, dacc, rest', hi, hw ▸ rel_wipe p4.rel, Y.keep _ _ _ _ W.g kp4, t34, (((W.kin.trans tp.kin).trans p4.kin).trans kin_wipe), so4, b4, a4, W.dq.keeps kp4, f2, W.all, len4⟩
      | true =>
        obtain ⟨⟨r, ρ6⟩, e6, f1⟩ := bi f1
        obtain ⟨⟨x2, ρ7⟩, e7, f1⟩ := bi f1
        cases f1
        refine ⟨B4, ρ4, r, ρ6, p4.rel, e6, fun yv H6 B6 p6 r6 => ?_⟩
        obtain ⟨B7, p7, dqy⟩ := frz_pst p4.rel p6 r6 e7
        obtain ⟨a7, b7⟩ := p7.stp.keep Dd _ a4 fun m => nDO oa4 _ m rfl
        have b7 := b7.mpr b4
        have kp7 : Keeps H2 B2 H6 B7 := fun a u h n => by
          obtain ⟨h1, h2⟩ := kp4 a u h n
          exact p7.stp.keeps a u h1 h2
        have oa7 : ∀ a, OA σ2 ρ5 a → OA σ ρ1 a := fun a h => oa4 a (p7.oa a h)
        have st8 : Stp (fun a => a = Dd) H6 B7 (upd H6 Dd (.lst (acc ++ [yv]))) B7 := stp_set rfl fun a h => by subst h; exact b7
        have kp8 : Keeps H6 B7 (upd H6 Dd (.lst (acc ++ [yv]))) B7 := st8.keeps
        have lacc := W.dq.length
        have hx := congrArg List.length W.all
        rw [List.length_append] at hx
        have hx2 : (some x2 : Option D).toList.length = 1 := rfl
        rw [List.length_append, hx2] at hx
        refine ⟨acc, a7, by omega, B7, ρ5, acc ++ [yv], dacc ++ [x2], rest', hi, ?_, ?_, ?_, ((((W.kin.trans tp.kin).trans p4.kin).trans p7.kin).trans kin_wipe), fun j nj h => p7.som j (so4 j nj h), b7, upd_same, ?_, f2, ?_, ?_⟩
        · have := (rel_wipe (vs := vs) p7.rel).stp st8 fun a h z => nDO (fun a h => oa7 a (oa_wipe (vs := vs) a h)) a h z
          rw [hw] at this
          exact this
        · exact Y.keep _ _ _ _ (Y.keep _ _ _ _ W.g kp7) kp8
        · exact (t34.trans p7.stp fun a _ h => oa4 a h).trans st8 fun a h z => absurd nD (z ▸ h)
        · exact ((W.dq.keeps kp7).keeps kp8).append (.one (dqy.keeps kp8))
        · rw [W.all, List.append_assoc]
          rfl
        · rw [← p7.rel.len, r3.len]
          exact len3
    · have ei : i = ds.length := Nat.le_antisymm W.le (Nat.le_of_not_lt hi)
      subst ei
      refine .inl ⟨Y.stop H2 B2 W.g, ?_⟩
      have run := W.run
      rw [List.drop_length] at run
      cases run
      have hx := W.all
      rw [List.append_nil] at hx
      subst hx
      have hl := W.len
      have ow : ∀ i l d, Env.at (backE ρ1 ρe vs) i = some (.own l d) → i ∉ vs ∧ Env.at (wipeE ρe vs) i = some (.own l d) := fun i l d z => by
        rw [at_back hl] at z
        split at z
        · rename_i m
          have n2 := List.all_eq_true.mp no i m
          rw [z] at n2
          cases n2
        · rename_i m
          exact ⟨m, by rw [at_wipe, if_neg m]; exact z⟩
      refine q _ _ B2 (p1.trans ⟨⟨by rw [backE_len, hl]; exact p1.rel.len, fun i d z => ?_, fun i l d z => ?_, fun i j l d l' d' a z1 z2 h1 h2 => ?_⟩, W.stp, fun i l d z => ?_, fun i z => ?_⟩) ?_
      · rw [at_back hl] at z
        split at z
        · obtain ⟨v, h1, h2⟩ := p1.rel.shr i d z
          exact ⟨v, h1, h2.keeps W.stp.keeps⟩
        · rename_i m
          obtain ⟨v, h1, h2⟩ := W.rel.shr i d (by rw [at_wipe, if_neg m]; exact z)
          rw [wipe_out m] at h1
          exact ⟨v, h1, h2⟩
      · obtain ⟨m, z⟩ := ow i l d z
        obtain ⟨a, h1, h2⟩ := W.rel.own i l d z
        rw [wipe_out m] at h1
        exact ⟨a, h1, h2⟩
      · obtain ⟨m1, z1⟩ := ow i l d z1
        obtain ⟨m2, z2⟩ := ow j l' d' z2
        exact W.rel.one i j l d l' d' a z1 z2 (by rw [wipe_out m1]; exact h1) (by rw [wipe_out m2]; exact h2)
      · obtain ⟨m, z⟩ := ow i l d z
        exact W.kin i l d z
      · rw [at_back hl]
        split
        · exact z
        · rename_i m
          exact W.som i m z
      · exact ⟨Dd, rfl, Classical.byContradiction fun z => p1.stp.tr Dd z nD, W.own, acc, W.at', W.dq⟩
end
end Mp

namespace Mp
open PySem PySem.Spec L2
section
variable {X : Cx} {elt tg iter : Expr} {ifs : List Expr} {scope : Scope} {own : List (Str × Nat)} {pos : Pos} {se : Sm} {t : Tg} {vi : Env → Option (List D × Env)} {vc : Env → Option (Bool × Env)}
theorem pb_lc (hc : X.calm = true) (hN : X.N.Nodup) (hi : PI X tg iter (tI X.K X.w vi)) (ok : BlkOk X.N X.env.scope scope own) (hg : ∀ (s : Shared) (H : Hp) (C : Addr) (cl : List (Str × Addr)) (fp : List Addr), PG (X.blk s H scope (compEnvC scope cl C X.env) fp) tg (tGd X.K X.w t))
    (ht : ∀ (s : Shared) (H : Hp) (C : Addr) (cl : List (Str × Addr)) (fp : List Addr), PTs (X.blk s H scope (compEnvC scope cl C X.env) fp) ifs (tT X.K X.w vc)) (he : ∀ (s : Shared) (H : Hp) (C : Addr) (cl : List (Str × Addr)) (fp : List Addr), PB (X.blk s H scope (compEnvC scope cl C X.env) fp) elt se)
    (hts : ∀ i ∈ tgSlots t, i ∈ own.map (·.2)) (hs : ∀ x, foldedSetIterable iter X.env x = pure x) : PB X (.ListComp elt [⟨tg, iter, ifs, 0⟩] scope pos) (ofV (lcV vi t vc se.v (own.map (·.2)))) :=
  pb_of (PE.imp (pe_lc hc hN hi ok hg ht (fun s H C cl fp => (he s H C cl fp).v) hs) (lc_rd hts)) fun _ => rfl
def yesV : Env → Option (Bool × Env) := fun ρ => some (true, ρ)
theorem pbt_nil : PTs X [] (tT X.K X.w yesV) := ⟨fun pins s σ H Q I ⟨B, ρ, k, ρ', rel, e, q⟩ => by
  cases e
  exact pts_nil.run pins s σ H Q I (q H B (.refl rel))⟩
theorem pbt_one (h : PB X elt se) : PTs X [elt] (tT X.K X.w se.t) := pts_one h.t
end

/-! ### statements -/
structure FI (K : PySem.W.Frag) (w : World) (H0 : Hp) (B0 : Own) (L : Nat → Option Addr) (σ : L2.St) (H : Hp) (B : Own) (ρ : Env) : Prop where
  rel : Rel K w σ H B ρ
  stp : Stp (fun a => ∃ i, L i = some a) H0 B0 H B
  own : ∀ i l d a, Env.at ρ i = some (.own l d) → σ[i]? = some (some (.ref a)) → (l = true → L i = some a) ∧ (l = false → H0 a = none)
theorem Keeps.refl {H : Hp} {B : Own} : Keeps H B H B := fun _ _ h n => ⟨h, n⟩
theorem Keeps.trans {H H1 H2 : Hp} {B B1 B2 : Own} (a : Keeps H B H1 B1) (b : Keeps H1 B1 H2 B2) : Keeps H B H2 B2 := fun c o h n => b c o (a c o h n).1 (a c o h n).2
def Fin (K : PySem.W.Frag) (w : World) (H0 : Hp) (B0 : Own) (L : Nat → Option Addr) (H : Hp) (B : Own) (D : Ends) : Fl → Env → Prop
  | .nx, ρ' => ∀ σ' H' B', FI K w H0 B0 L σ' H' B' ρ' → Keeps H B H' B' → D.nx σ' H'
  | .bk, ρ' => ∀ σ' H' B', FI K w H0 B0 L σ' H' B' ρ' → Keeps H B H' B' → D.bk σ' H'
  | .ct, ρ' => ∀ σ' H' B', FI K w H0 B0 L σ' H' B' ρ' → Keeps H B H' B' → D.ct σ' H'
  | .rt r, ρ' => ∀ v σ' H' B', FI K w H0 B0 L σ' H' B' ρ' → RRet K w H0 H' B' v r → D.rt v H'
theorem Fin.later {K : PySem.W.Frag} {w : World} {H0 : Hp} {B0 : Own} {L : Nat → Option Addr} {H H1 : Hp} {B B1 : Own} {D : Ends} {fl : Fl} {ρ' : Env} (f : Fin K w H0 B0 L H B D fl ρ') (k : Keeps H B H1 B1) : Fin K w H0 B0 L H1 B1 D fl ρ' := by
  cases fl with
  | nx => exact fun σ' H' B' a b => f σ' H' B' a (k.trans b)
  | bk => exact fun σ' H' B' a b => f σ' H' B' a (k.trans b)
  | ct => exact fun σ' H' B' a b => f σ' H' B' a (k.trans b)
  | rt r => exact f
def tS (K : PySem.W.Frag) (w : World) (v : Env → Option (Fl × Env)) : TS := fun D σ H => ∃ H0 B0 L B ρ fl ρ', FI K w H0 B0 L σ H B ρ ∧ v ρ = some (fl, ρ') ∧ Fin K w H0 B0 L H B D fl ρ'
section
variable {K : PySem.W.Frag} {w : World} {H0 : Hp} {B0 : Own} {L : Nat → Option Addr} {σ σ' : L2.St} {H H' H1 : Hp} {B B' B1 : Own} {ρ ρ' ρ1 : Env}
theorem FI.oaL (f : FI K w H0 B0 L σ H B ρ) : ∀ a, H0 a ≠ none → OA σ ρ a → ∃ i, L i = some a := fun a h ⟨i, l, d, z, y⟩ => by
  obtain ⟨h1, h2⟩ := f.own i l d a z y
  cases l with
  | true => exact ⟨i, h1 rfl⟩
  | false => exact absurd (h2 rfl) h
theorem FI.pst (f : FI K w H0 B0 L σ H B ρ) (p : Pst K w σ H B ρ H' B' ρ') : FI K w H0 B0 L σ H' B' ρ' :=
  ⟨p.rel, f.stp.trans p.stp f.oaL, fun i l d a z y => by
    obtain ⟨d', z'⟩ := p.kin i l d z
    exact f.own i l d' a z' y⟩
theorem FI.tgp {ks : List Nat} (f : FI K w H0 B0 L σ H B ρ) (r : Rel K w σ' H B ρ') (p : TgPost σ ρ σ' ρ' ks) : FI K w H0 B0 L σ' H B ρ' :=
  ⟨r, f.stp, fun i l d a z y => by
    obtain ⟨h1, h2⟩ := p.own i l d z
    exact f.own i l d a h1 (by rw [← h2]; exact y)⟩
/-- a new list into a slot -/
theorem FI.fresh {i : Nat} {d : D} {a : Addr} (f : FI K w H0 B0 L σ H B ρ) (p : Pst K w σ H B ρ H1 B1 ρ1) (ha : H a = none) (ow : OwnAt K w H1 B1 a d) (hi : okSlot ρ1 i = true) : FI K w H0 B0 L (σ.set i (some (.ref a))) H1 B1 (ρ1.set i (some (.own false d))) := by
  have f1 := f.pst p
  have hl := (okSlot_lt hi).1
  have h0 : H0 a = none := Classical.byContradiction fun z => f.stp.tr a z ha
  have sub : ∀ j l d2, Env.at (ρ1.set i (some (.own false d))) j = some (.own l d2) → (i = j ∧ l = false ∧ d2 = d) ∨ (i ≠ j ∧ Env.at ρ1 j = some (.own l d2)) := fun j l d2 z => by
    rw [at_set] at z
    split at z
    · rename_i h
      cases z
      exact .inl ⟨h.1, rfl, rfl⟩
    · rename_i n
      exact .inr ⟨fun q => n ⟨q, hl⟩, z⟩
  have far : ∀ j l d2, Env.at ρ1 j = some (.own l d2) → σ[j]? ≠ some (some (.ref a)) := fun j l d2 z y => Pst.there f.rel p a ⟨j, l, d2, z, y⟩ ha
  have self : (σ.set i (some (V.ref a)))[i]? = some (some (.ref a)) := List.getElem?_set_self (by rw [f1.rel.len]; exact hl)
  refine ⟨⟨by rw [List.length_set, List.length_set]; exact f1.rel.len, fun j d2 z => ?_, fun j l d2 z => ?_, fun j k l d1 l' d2 b z1 z2 h1 h2 => ?_⟩, f1.stp, fun j l d2 b z y => ?_⟩
  · rw [at_set] at z
    split at z
    · cases z
    · rename_i n
      rw [List.getElem?_set_ne fun q => n ⟨q, hl⟩]
      exact f1.rel.shr j d2 z
  · rcases sub j l d2 z with ⟨rfl, rfl, rfl⟩ | ⟨n, z⟩
    · exact ⟨a, self, ow⟩
    · rw [List.getElem?_set_ne n]
      exact f1.rel.own j l d2 z
  · rcases sub j l d1 z1 with ⟨e1, e2, e3⟩ | ⟨n1, y1⟩ <;> rcases sub k l' d2 z2 with ⟨e4, e5, e6⟩ | ⟨n2, y2⟩
    · exact e1.symm.trans e4
    · subst e1
      rw [self] at h1
      cases h1
      rw [List.getElem?_set_ne n2] at h2
      exact absurd h2 (far k _ _ y2)
    · subst e4
      rw [self] at h2
      cases h2
      rw [List.getElem?_set_ne n1] at h1
      exact absurd h1 (far j _ _ y1)
    · rw [List.getElem?_set_ne n1] at h1
      rw [List.getElem?_set_ne n2] at h2
      exact f1.rel.one j k l d1 l' d2 b y1 y2 h1 h2
  · rcases sub j l d2 z with ⟨e1, e2, e3⟩ | ⟨n, z⟩
    · subst e1 e2
      rw [self] at y
      have y2 : a = b := by injection (Option.some.inj y) with q; injection q
      subst y2
      exact ⟨fun z => (nomatch z), fun _ => h0⟩
    · rw [List.getElem?_set_ne n] at y
      exact f1.own j l d2 b z y
end
section
variable {X : Cx} {st : Stmt} {sts : List Stmt} {t t' : TS} {e c a : Expr} {s sc : Sm} {pos p : Pos}
theorem PS.imp (h : PS X st t) (f : ∀ D σ H, t' D σ H → t D σ H) : PS X st t' := ⟨fun pins s σ H D I q => h.run pins s σ H D I (f D σ H q)⟩
theorem PSs.imp (h : PSs X sts t) (f : ∀ D σ H, t' D σ H → t D σ H) : PSs X sts t' := ⟨fun pins s σ H D I q => h.run pins s σ H D I (f D σ H q)⟩
def nilS : Env → Option (Fl × Env) := fun ρ => some (.nx, ρ)
def consS (f g : Env → Option (Fl × Env)) : Env → Option (Fl × Env) := fun ρ => do
  let (fl, ρ) ← f ρ
  match fl with
  | .nx => g ρ
  | fl => some (fl, ρ)
theorem pbs_nil : PSs X [] (tS X.K X.w nilS) := PSs.imp pss_nil fun D σ H ⟨H0, B0, L, B, ρ, fl, ρ', f, e, fin⟩ => by
  cases e
  exact fin _ _ _ f .refl
theorem pbs_cons {f g : Env → Option (Fl × Env)} (h1 : PS X st (tS X.K X.w f)) (h2 : PSs X sts (tS X.K X.w g)) : PSs X (st :: sts) (tS X.K X.w (consS f g)) :=
  PSs.imp (pss_cons h1 h2) fun D σ H ⟨H0, B0, L, B, ρ, fl, ρ', fi, e, fin⟩ => by
    obtain ⟨⟨fl1, ρ1⟩, e1, e⟩ := bi e
    refine ⟨H0, B0, L, B, ρ, fl1, ρ1, fi, e1, ?_⟩
    cases fl1 with
    | nx => exact fun σ' H' B' fi' k => ⟨H0, B0, L, B', ρ1, fl, ρ', fi', e, fin.later k⟩
    | bk => cases e; exact fin
    | ct => cases e; exact fin
    | rt r => cases e; exact fin
def asgV (t : Tg) (v : Env → Option (R × Env)) : Env → Option (Fl × Env) := fun ρ => do
  let (r, ρ) ← v ρ
  let ρ ← setR t r ρ
  some (.nx, ρ)
/-- the reading of x = e -/
theorem asg_rd {K : PySem.W.Frag} {w : World} {i : Nat} {v : Env → Option (R × Env)} : ∀ D σ H, tS K w (asgV (.name i) v) D σ H → tAsg (tE K w v) (gName i) D σ H := fun D σ H ⟨H0, B0, L, B, ρ, fl, ρ', fi, e, fin⟩ => by
  obtain ⟨⟨r, ρ1⟩, e1, e⟩ := bi e
  obtain ⟨ρ2, e2, e⟩ := bi e
  cases e
  refine ⟨B, ρ, r, ρ1, fi.rel, e1, fun x H1 B1 p rr => ?_⟩
  have dat : ∀ (e2 : (frz ρ1 r >>= fun p => setTg (.name i) p.1 p.2) = some ρ'), gName i x σ H1 D.nx := fun e2 => by
    obtain ⟨⟨d, ρ3⟩, e3, e2⟩ := bi e2
    obtain ⟨B2, p2, dq⟩ := frz_pst fi.rel p rr e3
    obtain ⟨h, e2⟩ := ifs (show (if okSlot ρ3 i = true then some (ρ3.set i (some (.shr d))) else none) = some ρ' from e2)
    cases e2
    obtain ⟨h1, h2⟩ := rel_set p2.rel (okSlot_lt h).1 dq
    exact fin _ H1 B2 ((fi.pst p2).tgp h1 h2) p2.stp.keeps
  cases r with
  | frs d =>
    obtain ⟨h, e2⟩ := ifs (show (if okSlot ρ1 i = true then some (ρ1.set i (some (.own false d))) else none) = some ρ' from e2)
    cases e2
    obtain ⟨b, rfl, h1, h2⟩ := rr
    exact fin _ H1 B1 (fi.fresh p h1 h2 h) p.stp.keeps
  | dat d => exact dat e2
  | bor j => exact dat e2
theorem ps_asgN {i : Nat} {x : Str} (hN : X.N.Nodup) (hi : X.N[i]? = some x) (hx : Loc X.env.scope x) (he : PB X e s) (hs : swapsWith e (some (.Name x p)) pos.line X.env = pure false) (hf : X.fn x = true ∨ X.env.scope.names.lookup x = some .local) : PS X (.Assign [.Name x p] e pos) (tS X.K X.w (asgV (.name i) s.v)) :=
  PS.imp (ps_set hN hi hx he.v hs hf) asg_rd
/-- x = [..], on one line -/
theorem ps_asgLc {elt tg iter : Expr} {ifs : List Expr} {scope : Scope} {own : List (Str × Nat)} {py : Pos} {spos : Pos} {t : Tg} {vi : Env → Option (List D × Env)} {vc : Env → Option (Bool × Env)} {i : Nat} {y : Str} (hc : X.calm = true) (hN : X.N.Nodup) (hy : X.N[i]? = some y) (hyl : X.env.scope.names.lookup y = some .local)
    (hsw : swapsWith (.ListComp elt [⟨tg, iter, ifs, 0⟩] scope pos) (some (.Name y py)) spos.line X.env = pure true) (hi : PI X tg iter (tI X.K X.w vi)) (ok : BlkOk X.N X.env.scope scope own) (hg : ∀ (s : Shared) (H : Hp) (C : Addr) (cl : List (Str × Addr)) (fp : List Addr), PG (X.blk s H scope (compEnvC scope cl C X.env) fp) tg (tGd X.K X.w t))
    (ht : ∀ (s : Shared) (H : Hp) (C : Addr) (cl : List (Str × Addr)) (fp : List Addr), PTs (X.blk s H scope (compEnvC scope cl C X.env) fp) ifs (tT X.K X.w vc)) (he : ∀ (s : Shared) (H : Hp) (C : Addr) (cl : List (Str × Addr)) (fp : List Addr), PB (X.blk s H scope (compEnvC scope cl C X.env) fp) elt sc)
    (hts : ∀ i ∈ tgSlots t, i ∈ own.map (·.2)) (hs : ∀ x, foldedSetIterable iter X.env x = pure x) : PS X (.Assign [.Name y py] (.ListComp elt [⟨tg, iter, ifs, 0⟩] scope pos) spos) (tS X.K X.w (asgV (.name i) (lcV vi t vc sc.v (own.map (·.2))))) :=
  PS.imp (ps_setLc (te := tE X.K X.w sc.v) hc hN hy hyl hsw hi ok hg ht (fun s H C cl fp => (he s H C cl fp).v) hs) fun D σ H q => by
    obtain ⟨H0, B0, L, B, ρ, fl, ρ', fi, e, fin⟩ := q
    obtain ⟨⟨r, ρ1⟩, e1, e⟩ := bi e
    refine lc_rd (ve := sc.v) hts σ H (fun x H1 => gName i x σ H1 D.nx) ?_
    exact asg_rd D σ H ⟨H0, B0, L, B, ρ, fl, ρ', fi, by unfold asgV; rw [e1]; exact e, fin⟩
theorem ps_asgT {es : List Expr} {k : Nat} {ts : List Tg} (he : PB X e s) (hg : PG X (.Tuple es k p) (tGd X.K X.w (.tup ts))) (hs : swapsWithSole [.Tuple es k p] e pos.line X.env = pure false) (hw : swappedStores [.Tuple es k p] e X.env = pure none)
    (h1 : (assignEach [.Tuple es k p] X.env).map (·.2) = [assign (.Tuple es k p) X.env]) : PS X (.Assign [.Tuple es k p] e pos) (tS X.K X.w (asgV (.tup ts) s.v)) :=
  PS.imp (ps_asg he.v hg hs hw h1) fun D σ H ⟨H0, B0, L, B, ρ, fl, ρ', fi, e, fin⟩ => by
    obtain ⟨⟨r, ρ1⟩, e1, e⟩ := bi e
    obtain ⟨ρ2, e2, e⟩ := bi e
    cases e
    refine ⟨B, ρ, r, ρ1, fi.rel, e1, fun x H1 B1 p rr => ?_⟩
    obtain ⟨⟨d, ρ3⟩, e3, e2⟩ := bi (show (frz ρ1 r >>= fun p => setTg (.tup ts) p.1 p.2) = some ρ' from e2)
    obtain ⟨B2, p2, dq⟩ := frz_pst fi.rel p rr e3
    exact ⟨B2, ρ3, d, ρ', p2.rel, dq, e2, fun σ' r' tp => fin σ' H1 B2 ((fi.pst p2).tgp r' tp) p2.stp.keeps⟩
def subV (i : Nat) (vx v : Env → Option (R × Env)) : Env → Option (Fl × Env) := fun ρ => match Env.at ρ i with
  | some (.own _ _) => do
    let (r, ρ) ← v ρ
    let (d, ρ) ← frz ρ r
    let (k, ρ) ← vx ρ
    let k ← res ρ k
    setAt i d k ρ
  | _ => none
theorem ps_subD {x : Str} {i : Nat} {p2 tpos : Pos} (hN : X.N[i]? = some x) (hv : Vis X.env.scope x) (hd : (x == ("__debug__" : Str)) = false) (hcd : (x == ("__classdict__" : Str)) = false) (ha : PB X a sc) (he : PB X e s)
    (has : ∀ v, assign (.Subscript (.Name x p2) a tpos) X.env v = (do
      let ov ← holding [v] (eval (.Name x p2) X.env)
      let iv ← holding [v, ov] (eval a X.env)
      standAt tpos
      holding [v, ov, iv] (setItem ov iv v)
      release [v, ov, iv] []))
    (hs : swapsWithSole [.Subscript (.Name x p2) a tpos] e pos.line X.env = pure false) (hw : swappedStores [.Subscript (.Name x p2) a tpos] e X.env = pure none) (h1 : (assignEach [.Subscript (.Name x p2) a tpos] X.env).map (·.2) = [assign (.Subscript (.Name x p2) a tpos) X.env]) :
    PS X (.Assign [.Subscript (.Name x p2) a tpos] e pos) (tS X.K X.w (subV i sc.v s.v)) :=
  PS.imp (ps_asg he.v (pg_sub (pe_var hN hv hd hcd) ha.v set_list has) hs hw h1) fun D σ H ⟨H0, B0, L, B, ρ, fl, ρ', fi, e, fin⟩ => by
    unfold subV at e
    split at e
    · rename_i l0 d0 e0
      obtain ⟨b, hb, _⟩ := fi.rel.own i _ _ e0
      obtain ⟨⟨r, ρ1⟩, e1, e⟩ := bi e
      obtain ⟨⟨d, ρ2⟩, e2, e⟩ := bi e
      obtain ⟨⟨k, ρ3⟩, e3, e⟩ := bi e
      obtain ⟨dk, e4, e⟩ := bi e
      refine ⟨B, ρ, r, ρ1, fi.rel, e1, fun xv H1 B1 p1 r1 => ?_⟩
      obtain ⟨B2, p2, dq⟩ := frz_pst fi.rel p1 r1 e2
      refine ⟨.ref b, hb, B2, ρ2, k, ρ3, p2.rel, e3, fun kv H3 B3 p3 r3 => ?_⟩
      have p := p2.trans p3
      have vk := res_ok p.rel (r3.low p2.stp.tr) e4
      replace e : setAt i d dk ρ3 = some (fl, ρ') := e
      unfold setAt at e
      split at e
      · rename_i l xs j e5
        split at e
        · rename_i n e6
          cases e
          cases vk.int
          obtain ⟨b', hb', ow⟩ := p.rel.own i _ _ e5
          rw [hb] at hb'
          cases hb'
          obtain ⟨bb, zs, eh, dz⟩ := ow
          have kp : Keeps H3 B3 (upd H3 b (.lst (zs.set n xv))) B3 := keeps_upd bb
          have dv := (dq.keeps p3.stp.keeps).keeps kp
          refine ⟨b, zs, j, n, rfl, rfl, eh, by rw [dz.length]; exact e6, ?_⟩
          have ow2 : OwnAt X.K X.w (upd H3 b (.lst (zs.set n xv))) B3 b (.list (xs.set n d)) := ⟨bb, _, upd_same, Dqs.set n dv (dz.keeps kp)⟩
          have pe := p.trans (pst_own p.rel e5 hb ow2)
          exact fin σ _ B3 (fi.pst pe) pe.stp.keeps
        · cases e
      · cases e
    · cases e
def incV (i : Nat) (v : Env → Option (R × Env)) : Env → Option (Fl × Env) := fun ρ => match Env.at ρ i with
  | some (.shr (.int x)) => do
    let (r, ρ) ← v ρ
    match ← res ρ r with
    | .int y => if okSlot ρ i then some (.nx, ρ.set i (some (.shr (.int (x + y))))) else none
    | _ => none
  | _ => none
theorem ps_inc {x : Str} {i : Nat} (hN : X.N.Nodup) (hi : X.N[i]? = some x) (hx : Loc X.env.scope x) (he : PB X e s) (hf : X.fn x = true ∨ X.env.scope.names.lookup x = some .local) : PS X (.AugAssign (.Name x p) .Add e pos) (tS X.K X.w (incV i s.v)) :=
  PS.imp (ps_aug hN hi hx he.v ip_add hf) fun D σ H ⟨H0, B0, L, B, ρ, fl, ρ', fi, e, fin⟩ => by
    unfold incV at e
    split at e
    · rename_i x0 e0
      obtain ⟨v, hv, dv⟩ := fi.rel.shr i _ e0
      cases dv.intI
      obtain ⟨⟨r, ρ1⟩, e1, e⟩ := bi e
      obtain ⟨d, e2, e⟩ := bi e
      refine ⟨.int x0, hv, B, ρ, r, ρ1, fi.rel, e1, fun yv H1 B1 p1 r1 => ?_⟩
      have vy := res_ok p1.rel r1 e2
      split at e
      · obtain ⟨ok, e⟩ := ifs e
        cases e
        cases vy.int
        obtain ⟨h1, h2⟩ := rel_set p1.rel (okSlot_lt ok).1 (Dq.int (K := X.K) (w := X.w) (H := H1) (B := B1) (x0 + _))
        exact ⟨_, _, rfl, rfl, fin _ H1 B1 ((fi.pst p1).tgp h1 h2) p1.stp.keeps⟩
      · cases e
    · cases e
def exprV (v : Env → Option (R × Env)) : Env → Option (Fl × Env) := fun ρ => do
  let (_, ρ) ← v ρ
  some (.nx, ρ)
theorem ps_exprD (he : PB X e s) (hs : swapsWith e none pos.line X.env = pure false) : PS X (.Expr e pos) (tS X.K X.w (exprV s.v)) :=
  PS.imp (ps_expr he.v hs) fun D σ H ⟨H0, B0, L, B, ρ, fl, ρ', fi, e, fin⟩ => by
    obtain ⟨⟨r, ρ1⟩, e1, e⟩ := bi e
    cases e
    exact ⟨B, ρ, r, _, fi.rel, e1, fun x H1 B1 p1 _ => fin σ H1 B1 (fi.pst p1) p1.stp.keeps⟩
def retV (v : Env → Option (R × Env)) : Env → Option (Fl × Env) := fun ρ => do
  let (r, ρ) ← v ρ
  match r with
  | .bor i => match Env.at ρ i with
    | some (.own false d) => some (.rt (.frs d), ρ.set i none)
    | _ => none
  | r => some (.rt r, ρ)
theorem fi_drop {K : PySem.W.Frag} {w : World} {H0 : Hp} {B0 : Own} {L : Nat → Option Addr} {σ : L2.St} {H : Hp} {B : Own} {ρ : Env} {i : Nat} (f : FI K w H0 B0 L σ H B ρ) : FI K w H0 B0 L σ H B (ρ.set i none) := by
  have sub : ∀ j c, Env.at (ρ.set i none) j = some c → Env.at ρ j = some c := fun j c z => by
    rw [at_set] at z
    split at z
    · cases z
    · exact z
  exact ⟨⟨by rw [List.length_set]; exact f.rel.len, fun j d z => f.rel.shr j d (sub _ _ z), fun j l d z => f.rel.own j l d (sub _ _ z), fun j k l d l' d' a z1 z2 => f.rel.one j k l d l' d' a (sub _ _ z1) (sub _ _ z2)⟩, f.stp, fun j l d a z => f.own j l d a (sub _ _ z)⟩
theorem ps_retD (he : PB X e s) : PS X (.Return (some e) pos) (tS X.K X.w (retV s.v)) :=
  PS.imp (ps_ret he.v) fun D σ H ⟨H0, B0, L, B, ρ, fl, ρ', fi, e, fin⟩ => by
    obtain ⟨⟨r, ρ1⟩, e1, e⟩ := bi e
    refine ⟨B, ρ, r, ρ1, fi.rel, e1, fun x H1 B1 p1 rr => ?_⟩
    cases r with
    | dat d =>
      cases e
      exact fin x σ H1 B1 (fi.pst p1) rr
    | frs d =>
      cases e
      obtain ⟨a, rfl, h1, h2⟩ := rr
      exact fin _ σ H1 B1 (fi.pst p1) ⟨a, rfl, Classical.byContradiction fun z => fi.stp.tr a z h1, h2⟩
    | bor i =>
      replace e : (match Env.at ρ1 i with
        | some (.own false d) => some (Fl.rt (.frs d), ρ1.set i none)
        | _ => none) = some (fl, ρ') := e
      split at e
      · rename_i d e2
        cases e
        obtain ⟨a, h1, h2⟩ := p1.rel.own i _ _ e2
        obtain ⟨h3, _⟩ := rr
        rw [h1] at h3
        cases h3
        exact fin _ σ H1 B1 (fi_drop (fi.pst p1)) ⟨a, rfl, ((fi.pst p1).own i _ _ a e2 h1).2 rfl, h2⟩
      · cases e
theorem ps_retN0 : PS X (.Return none pos) (tS X.K X.w fun ρ => some (.rt (.dat .none), ρ)) :=
  PS.imp ps_retN fun D σ H ⟨H0, B0, L, B, ρ, fl, ρ', fi, e, fin⟩ => by
    cases e
    exact fin .non σ H B fi .non
def iteV (t : Env → Option (Bool × Env)) (f g : Env → Option (Fl × Env)) : Env → Option (Fl × Env) := fun ρ => do
  let (k, ρ) ← t ρ
  if k then f ρ else g ρ
theorem ps_iteD {sts2 : List Stmt} {f g : Env → Option (Fl × Env)} (hc : PB X c sc) (h1 : PSs X sts (tS X.K X.w f)) (h2 : PSs X sts2 (tS X.K X.w g)) : PS X (.If c sts sts2 pos) (tS X.K X.w (iteV sc.t f g)) :=
  PS.imp (ps_if hc.t h1 h2) fun D σ H ⟨H0, B0, L, B, ρ, fl, ρ', fi, e, fin⟩ => by
    obtain ⟨⟨k, ρ1⟩, e1, e⟩ := bi e
    refine ⟨B, ρ, k, ρ1, fi.rel, e1, fun H1 B1 p1 => ?_⟩
    cases k with
    | true => exact ⟨H0, B0, L, B1, ρ1, fl, ρ', fi.pst p1, e, fin.later p1.stp.keeps⟩
    | false => exact ⟨H0, B0, L, B1, ρ1, fl, ρ', fi.pst p1, e, fin.later p1.stp.keeps⟩
theorem ps_passD : PS X (.Pass pos) (tS X.K X.w nilS) := PS.imp ps_pass fun D σ H ⟨H0, B0, L, B, ρ, fl, ρ', fi, e, fin⟩ => by
  cases e
  exact fin σ H B fi .refl
theorem ps_brkD : PS X (.Break pos) (tS X.K X.w fun ρ => some (.bk, ρ)) := PS.imp ps_break fun D σ H ⟨H0, B0, L, B, ρ, fl, ρ', fi, e, fin⟩ => by
  cases e
  exact fin σ H B fi .refl
theorem ps_contD : PS X (.Continue pos) (tS X.K X.w fun ρ => some (.ct, ρ)) := PS.imp ps_continue fun D σ H ⟨H0, B0, L, B, ρ, fl, ρ', fi, e, fin⟩ => by
  cases e
  exact fin σ H B fi .refl
/-! ### loops -/
def forV (vi : Env → Option (List D × Env)) (t : Tg) (f : Env → Option (Fl × Env)) : Env → Option (Fl × Env) := fun ρ => do
  let (ds, ρ) ← vi ρ
  forD (fun d ρ => do
    let ρ ← setTg t d ρ
    f ρ) ds ρ
theorem forD_inv {f : D → Env → Option (Fl × Env)} {d : D} {ds : List D} {ρ ρ' : Env} {fl : Fl} (e : forD f (d :: ds) ρ = some (fl, ρ')) : ∃ fl1 ρ1, f d ρ = some (fl1, ρ1) ∧
    match fl1 with
    | .nx => forD f ds ρ1 = some (fl, ρ')
    | .ct => forD f ds ρ1 = some (fl, ρ')
    | .bk => fl = .nx ∧ ρ' = ρ1
    | .rt r => fl = .rt r ∧ ρ' = ρ1 := by
  unfold forD at e
  obtain ⟨⟨fl1, ρ1⟩, e1, e⟩ := bi e
  refine ⟨fl1, ρ1, e1, ?_⟩
  cases fl1 with
  | nx => exact e
  | ct => exact e
  | bk => cases e; exact ⟨rfl, rfl⟩
  | rt r => cases e; exact ⟨rfl, rfl⟩
theorem ps_forD {tg iter : Expr} {vi : Env → Option (List D × Env)} {t : Tg} {f : Env → Option (Fl × Env)} (hp : PassesOwn (model X.prog X.w) X.A X.env X.xe) (hc : X.calm = true) (hi : PI X tg iter (tI X.K X.w vi)) (hg : PG X tg (tGd X.K X.w t)) (hb : PSs X sts (tS X.K X.w f))
    (hs : ∀ x, foldedSetIterable iter X.env x = pure x) : PS X (.For tg iter sts [] pos) (tS X.K X.w (forV vi t f)) :=
  PS.imp (ps_for hp hc hi hg hb hs) fun Dn σ H ⟨H0, B0, L, B, ρ, fl, ρ', fi, e, fin⟩ => by
    obtain ⟨⟨ds, ρ1⟩, e1, e⟩ := bi e
    refine ⟨B, ρ, ds, ρ1, fi.rel, e1, fun J H1 B1 G p1 g1 Y => ?_⟩
    refine ⟨fun i m σ' H' => ∃ B' ρi, m = ds.length - i ∧ i ≤ ds.length ∧ FI X.K X.w H0 B0 L σ' H' B' ρi ∧ G H' B' ∧ Keeps H B H' B' ∧ forD (fun d ρ => setTg t d ρ >>= f) (ds.drop i) ρi = some (fl, ρ'), ⟨_, B1, ρ1, rfl, Nat.zero_le _, fi.pst p1, g1, p1.stp.keeps, e⟩, ?_⟩
    rintro i m σ2 H2 ⟨B2, ρ2, rfl, hle, fi2, g2, k2, run⟩
    by_cases hlt : i < ds.length
    · refine .inr ⟨Y.go i H2 B2 hlt g2, fun σ' H' => ∃ B' ρi, FI X.K X.w H0 B0 L σ' H' B' ρi ∧ G H' B' ∧ Keeps H B H' B' ∧ forD (fun d ρ => setTg t d ρ >>= f) (ds.drop (i + 1)) ρi = some (fl, ρ'), fun σ' H' ⟨B', ρi, a, b, k, c⟩ => ⟨ds.length - (i + 1), by omega, B', ρi, rfl, hlt, a, b, k, c⟩, fun x H3 y => ?_⟩
      obtain ⟨B3, d, hd, st3, dqx⟩ := Y.yld i H2 B2 x H3 hlt g2 y
      obtain ⟨_, hget⟩ := List.getElem?_eq_some_iff.mp hd
      rw [List.drop_eq_getElem_cons hlt, hget] at run
      obtain ⟨fl1, ρ5, f1, f2⟩ := forD_inv run
      obtain ⟨ρ3, e3, f1⟩ := bi f1
      have fi3 : FI X.K X.w H0 B0 L σ2 H3 B3 ρ2 := fi2.pst ⟨fi2.rel.stp (st3 (fun _ => False) fun _ h => h.elim) fun _ _ h => h, st3 _ fi2.rel.oaB, .refl, fun _ h => h⟩
      have k3 := (st3 (fun _ => False) fun _ h => h.elim).keeps
      have g3 := Y.keep _ _ _ _ g2 k3
      refine ⟨B3, ρ2, d, ρ3, fi3.rel, dqx, e3, fun σ4 r4 tp => ⟨H0, B0, L, B3, ρ3, fl1, ρ5, fi3.tgp r4 tp, f1, ?_⟩⟩
      cases fl1 with
      | nx => exact fun σ' H' B' a b => ⟨B', ρ5, a, Y.keep _ _ _ _ g3 b, (k2.trans k3).trans b, f2⟩
      | ct => exact fun σ' H' B' a b => ⟨B', ρ5, a, Y.keep _ _ _ _ g3 b, (k2.trans k3).trans b, f2⟩
      | bk =>
        obtain ⟨rfl, rfl⟩ := f2
        exact fun σ' H' B' a b => fin σ' H' B' a ((k2.trans k3).trans b)
      | rt r =>
        obtain ⟨rfl, rfl⟩ := f2
        exact fin
    · have ei : i = ds.length := Nat.le_antisymm hle (Nat.le_of_not_lt hlt)
      subst ei
      rw [List.drop_length] at run
      cases run
      exact .inl ⟨Y.stop H2 B2 g2, fin σ2 H2 B2 fi2 k2⟩
/-- while, n turns at most -/
def whlN (c : Env → Option (Bool × Env)) (f : Env → Option (Fl × Env)) : Nat → Env → Option (Fl × Env)
  | 0, _ => none
  | n + 1, ρ => do
    let (b, ρ) ← c ρ
    if b then do
      let (fl, ρ) ← f ρ
      match fl with
      | .nx => whlN c f n ρ
      | .ct => whlN c f n ρ
      | .bk => some (.nx, ρ)
      | .rt r => some (.rt r, ρ)
    else some (.nx, ρ)
theorem whl_n {c : Env → Option (Bool × Env)} {f : Env → Option (Fl × Env)} : ∀ ρ r, whlD c f ρ = some r → ∃ n, whlN c f n ρ = some r := by
  intro ρ r h
  refine whlD.partial_correctness c f (fun ρ r => ∃ n, whlN c f n ρ = some r) (fun g ih ρ r e => ?_) ρ r h
  obtain ⟨⟨b, ρ1⟩, e1, e⟩ := bi e
  replace e : (if b = true then (f ρ1 >>= fun p => match p.1 with
      | .nx => g p.2
      | .ct => g p.2
      | .bk => some (Fl.nx, p.2)
      | .rt r => some (.rt r, p.2)) else some (.nx, ρ1)) = some r := e
  cases b with
  | false =>
    rw [if_neg (by simp)] at e
    exact ⟨1, by unfold whlN; rw [e1]; exact e⟩
  | true =>
    rw [if_pos rfl] at e
    obtain ⟨⟨fl, ρ2⟩, e2, e⟩ := bi e
    cases fl with
    | nx =>
      obtain ⟨n, hn⟩ := ih ρ2 r e
      exact ⟨n + 1, by unfold whlN; rw [e1]; show (f ρ1 >>= _) = _; rw [e2]; exact hn⟩
    | ct =>
      obtain ⟨n, hn⟩ := ih ρ2 r e
      exact ⟨n + 1, by unfold whlN; rw [e1]; show (f ρ1 >>= _) = _; rw [e2]; exact hn⟩
    | bk => exact ⟨1, by unfold whlN; rw [e1]; show (f ρ1 >>= _) = _; rw [e2]; exact e⟩
    | rt q => exact ⟨1, by unfold whlN; rw [e1]; show (f ρ1 >>= _) = _; rw [e2]; exact e⟩
theorem ps_whlD {f : Env → Option (Fl × Env)} (hp : PassesOwn (model X.prog X.w) X.A X.env X.xe) (hc : PB X c sc) (hb : PSs X sts (tS X.K X.w f)) : PS X (.While c sts [] pos) (tS X.K X.w (whlD sc.t f)) :=
  PS.imp (ps_while hp hc.t hb) fun Dn σ H ⟨H0, B0, L, B, ρ, fl, ρ', fi, e, fin⟩ => by
    obtain ⟨n, hn⟩ := whl_n _ _ e
    refine ⟨fun m σ' H' => ∃ B' ρi, FI X.K X.w H0 B0 L σ' H' B' ρi ∧ Keeps H B H' B' ∧ whlN sc.t f m ρi = some (fl, ρ'), ⟨n, B, ρ, fi, .refl, hn⟩, ?_⟩
    rintro m σ2 H2 ⟨B2, ρ2, fi2, k2, run⟩
    cases m with
    | zero => cases run
    | succ m =>
      unfold whlN at run
      obtain ⟨⟨b, ρ3⟩, e1, run⟩ := bi run
      refine ⟨B2, ρ2, b, ρ3, fi2.rel, e1, fun H3 B3 p3 => ?_⟩
      have k3 := k2.trans p3.stp.keeps
      cases b with
      | false =>
        cases run
        exact fin σ2 H3 B3 (fi2.pst p3) k3
      | true =>
        obtain ⟨⟨fl1, ρ4⟩, e2, run⟩ := bi (show (f ρ3 >>= _) = _ from run)
        refine ⟨fun σ' H' => ∃ B' ρi, FI X.K X.w H0 B0 L σ' H' B' ρi ∧ Keeps H B H' B' ∧ whlN sc.t f m ρi = some (fl, ρ'), fun σ' H' h => ⟨m, Nat.lt_succ_self m, h⟩, H0, B0, L, B3, ρ3, fl1, ρ4, fi2.pst p3, e2, ?_⟩
        cases fl1 with
        | nx => exact fun σ' H' B' a b => ⟨B', ρ4, a, k3.trans b, run⟩
        | ct => exact fun σ' H' B' a b => ⟨B', ρ4, a, k3.trans b, run⟩
        | bk =>
          cases run
          exact fun σ' H' B' a b => fin σ' H' B' a (k3.trans b)
        | rt r =>
          cases run
          exact fin
end
end Mp

namespace Mp
open PySem PySem.Spec L2
/-! ### a def by its body -/
/-- the address that is lent in slot i -/
def lentAt : List V → List Arg → Nat → Option Addr
  | .ref a :: _, .own _ :: _, 0 => some a
  | _ :: vs, _ :: as, i + 1 => lentAt vs as i
  | _, _, _ => none
section
variable {K : PySem.W.Frag} {w : World} {H H0 H' : Hp} {B B0 B' : Own}
theorem lentAt_mem : ∀ {vs : List V} {as : List Arg} {i : Nat} {a : Addr}, lentAt vs as i = some a → V.ref a ∈ lentV vs as
  | .ref b :: vs, .own d :: as, 0, a, h => by
    unfold lentAt at h
    cases h
    exact List.mem_cons_self
  | v :: vs, .own d :: as, i + 1, a, h => by
    have h' : lentAt vs as i = some a := by cases v <;> exact h
    exact List.mem_cons_of_mem _ (lentAt_mem h')
  | v :: vs, .shr d :: as, i + 1, a, h => by
    have h' : lentAt vs as i = some a := by cases v <;> exact h
    exact lentAt_mem (vs := vs) (as := as) h'
  | [], _, _, _, h => by simp [lentAt] at h
  | v :: _, [], _, _, h => by cases v <;> simp [lentAt] at h
  | v :: _, .shr _ :: _, 0, _, h => by cases v <;> simp [lentAt] at h
  | .non :: _, .own _ :: _, 0, _, h => by simp [lentAt] at h
  | .bl _ :: _, .own _ :: _, 0, _, h => by simp [lentAt] at h
  | .int _ :: _, .own _ :: _, 0, _, h => by simp [lentAt] at h
  | .str _ :: _, .own _ :: _, 0, _, h => by simp [lentAt] at h
  | .byt _ :: _, .own _ :: _, 0, _, h => by simp [lentAt] at h
  | .flt _ :: _, .own _ :: _, 0, _, h => by simp [lentAt] at h
  | .ty _ :: _, .own _ :: _, 0, _, h => by simp [lentAt] at h
/-- what a slot holds at the start -/
theorem ars_get (h : Ars K w H B vs as) : ∀ (i : Nat) (c : Option Cell), (as.map cellOf)[i]? = some c →
    (∃ d v, c = some (.shr d) ∧ vs[i]? = some v ∧ Dq K w H B v d) ∨ (∃ d a, c = some (.own true d) ∧ vs[i]? = some (.ref a) ∧ OwnAt K w H B a d ∧ lentAt vs as i = some a) := by
  induction h with
  | nil => intro i c e; simp at e
  | @shr v d vs as h1 h2 ih =>
    intro i c e
    cases i with
    | zero =>
      simp at e
      subst e
      exact .inl ⟨d, v, rfl, rfl, h1⟩
    | succ i =>
      rcases ih i c (by simpa using e) with ⟨d', v', a1, a2, a3⟩ | ⟨d', a', a1, a2, a3, a4⟩
      · exact .inl ⟨d', v', a1, by simpa using a2, a3⟩
      · exact .inr ⟨d', a', a1, by simpa using a2, a3, by cases v <;> exact a4⟩
  | @own a d vs as h1 h2 ih =>
    intro i c e
    cases i with
    | zero =>
      simp at e
      subst e
      exact .inr ⟨d, a, rfl, rfl, h1, rfl⟩
    | succ i =>
      rcases ih i c (by simpa using e) with ⟨d', v', a1, a2, a3⟩ | ⟨d', a', a1, a2, a3, a4⟩
      · exact .inl ⟨d', v', a1, by simpa using a2, a3⟩
      · exact .inr ⟨d', a', a1, by simpa using a2, a3, a4⟩
theorem ars_len {vs : List V} {as : List Arg} (h : Ars K w H B vs as) : vs.length = as.length := by
  induction h with
  | nil => rfl
  | shr _ _ ih => simp [ih]
  | own _ _ ih => simp [ih]
theorem ars_B {vs : List V} {as : List Arg} (h : Ars K w H B vs as) : ∀ a, V.ref a ∈ lentV vs as → B a := by
  induction h with
  | nil => intro a m; cases m
  | shr _ _ ih => exact ih
  | own h1 _ ih =>
    intro a m
    rcases List.mem_cons.mp m with e | m
    · cases e
      exact h1.there.1
    · exact ih a m
theorem lent_one : ∀ {vs : List V} {as : List Arg} {i j : Nat} {a : Addr}, (lentV vs as).Nodup → lentAt vs as i = some a → lentAt vs as j = some a → i = j
  | .ref b :: vs, .own d :: as, 0, 0, a, n, h, k => rfl
  | .ref b :: vs, .own d :: as, 0, j + 1, a, n, h, k => by
    cases h
    exact absurd (lentAt_mem (vs := vs) (as := as) k) (List.nodup_cons.mp n).1
  | .ref b :: vs, .own d :: as, i + 1, 0, a, n, h, k => by
    cases k
    exact absurd (lentAt_mem (vs := vs) (as := as) h) (List.nodup_cons.mp n).1
  | v :: vs, .own d :: as, i + 1, j + 1, a, n, h, k => by
    have h' : lentAt vs as i = some a := by cases v <;> exact h
    have k' : lentAt vs as j = some a := by cases v <;> exact k
    rw [lent_one (List.nodup_cons.mp n).2 h' k']
  | v :: vs, .shr d :: as, i + 1, j + 1, a, n, h, k => by
    have h' : lentAt vs as i = some a := by cases v <;> exact h
    have k' : lentAt vs as j = some a := by cases v <;> exact k
    rw [lent_one (vs := vs) (as := as) n h' k']
  | [], _, _, _, _, _, h, _ => by simp [lentAt] at h
  | v :: _, [], _, _, _, _, h, _ => by cases v <;> simp [lentAt] at h
  | v :: _, .shr _ :: _, 0, _, _, _, h, _ => by cases v <;> simp [lentAt] at h
  | v :: _, .shr _ :: _, _ + 1, 0, _, _, _, h => by cases v <;> simp [lentAt] at h
  | .non :: _, .own _ :: _, 0, _, _, _, h, _ => by simp [lentAt] at h
  | .bl _ :: _, .own _ :: _, 0, _, _, _, h, _ => by simp [lentAt] at h
  | .int _ :: _, .own _ :: _, 0, _, _, _, h, _ => by simp [lentAt] at h
  | .str _ :: _, .own _ :: _, 0, _, _, _, h, _ => by simp [lentAt] at h
  | .byt _ :: _, .own _ :: _, 0, _, _, _, h, _ => by simp [lentAt] at h
  | .flt _ :: _, .own _ :: _, 0, _, _, _, h, _ => by simp [lentAt] at h
  | .ty _ :: _, .own _ :: _, 0, _, _, _, h, _ => by simp [lentAt] at h
  | .non :: _, .own _ :: _, _ + 1, 0, _, _, _, h => by simp [lentAt] at h
  | .bl _ :: _, .own _ :: _, _ + 1, 0, _, _, _, h => by simp [lentAt] at h
  | .int _ :: _, .own _ :: _, _ + 1, 0, _, _, _, h => by simp [lentAt] at h
  | .str _ :: _, .own _ :: _, _ + 1, 0, _, _, _, h => by simp [lentAt] at h
  | .byt _ :: _, .own _ :: _, _ + 1, 0, _, _, _, h => by simp [lentAt] at h
  | .flt _ :: _, .own _ :: _, _ + 1, 0, _, _, _, h => by simp [lentAt] at h
  | .ty _ :: _, .own _ :: _, _ + 1, 0, _, _, _, h => by simp [lentAt] at h
/-- the lent lists at the end -/
theorem outs_ok : ∀ {vs : List V} {as : List Arg} {ls : List Bool} {ρ : Env} {os : List D}, argsFit ls as = true → Ars K w H0 B0 vs as → outsOf ls ρ = some os →
    (∀ i d, Env.at ρ i = some (.own true d) → ∀ a, lentAt vs as i = some a → OwnAt K w H B a d) → Outs K w H B (lentV vs as) os
  | _, [], [], ρ, os, f, h, e, k => by
    cases h
    cases e
    exact .nil
  | _, .shr d :: as, false :: ls, c :: ρ, os, f, h, e, k => by
    cases h with
    | @shr v _ vs _ h1 h2 => exact outs_ok (vs := vs) (ls := ls) (ρ := ρ) f h2 (by cases c <;> exact e) fun i d z a y => k (i + 1) d (by simpa [Env.at] using z) a (by cases v <;> exact y)
  | _, .own d :: as, true :: ls, some (.own true d') :: ρ, os, f, h, e, k => by
    cases h with
    | @own a _ vs _ h1 h2 =>
      obtain ⟨os', e1, rfl⟩ := map_inv (show (outsOf ls ρ).map (d' :: ·) = some os from e)
      exact .cons (k 0 d' (by simp [Env.at]) a rfl) (outs_ok (vs := vs) (ls := ls) (ρ := ρ) f h2 e1 fun i d z a y => k (i + 1) d (by simpa [Env.at] using z) a y)
  | _, [], false :: _, _, _, f, _, _, _ => by cases f
  | _, [], true :: _, _, _, f, _, _, _ => by cases f
  | _, .shr _ :: _, [], _, _, f, _, _, _ => by cases f
  | _, .own _ :: _, [], _, _, f, _, _, _ => by cases f
  | _, .shr _ :: _, true :: _, _, _, f, _, _, _ => by cases f
  | _, .own _ :: _, false :: _, _, _, f, _, _, _ => by cases f
  | _, .shr _ :: _, false :: _, [], _, _, _, e, _ => by cases e
  | _, .own _ :: _, true :: _, [], _, _, _, e, _ => by cases e
  | _, .own _ :: _, true :: _, none :: _, _, _, _, e, _ => by cases e
  | _, .own _ :: _, true :: _, some (.shr _) :: _, _, _, _, e, _ => by cases e
  | _, .own _ :: _, true :: _, some (.own false _) :: _, _, _, _, e, _ => by cases e
theorem fit_len : ∀ {ls : List Bool} {as : List Arg}, argsFit ls as = true → as.length = ls.length
  | [], [], _ => rfl
  | false :: ls, .shr _ :: as, h => by rw [List.length_cons, List.length_cons, fit_len (ls := ls) (as := as) h]
  | true :: ls, .own _ :: as, h => by rw [List.length_cons, List.length_cons, fit_len (ls := ls) (as := as) h]
  | [], _ :: _, h => by cases h
  | false :: _, [], h => by cases h
  | true :: _, [], h => by cases h
  | false :: _, .own _ :: _, h => by cases h
  | true :: _, .shr _ :: _, h => by cases h
theorem body_rd {m : MDef} {T : Nat → Option (List Bool)} {F : Nat → List Arg → Option (R × List D)} {N : List Str} {vs : List V} {Q : VK} {E : XK} (hN : m.slots = N.length) (h : spD K w m.lent.length (runDef T F m) vs H Q E) :
    tS K w (runs T F m.body) { nx := fun _ H' => Q .non H', rt := Q } (L2.start N vs) H := by
  obtain ⟨hl, B, as, r, os, ar, nd, e, q⟩ := h
  unfold runDef at e
  obtain ⟨ok, e⟩ := ifs e
  rw [Bool.and_eq_true] at ok
  obtain ⟨fit, le⟩ := ok
  have le := of_decide_eq_true le
  obtain ⟨⟨fl, ρ'⟩, e1, e⟩ := bi e
  obtain ⟨os', e2, e⟩ := bi e
  have len := ars_len ar
  have cell : ∀ i c, Env.at (as.map cellOf ++ List.replicate (m.slots - as.length) none) i = some c → i < as.length ∧ (as.map cellOf)[i]? = some (some c) := fun i c z => by
    unfold Env.at at z
    by_cases hi : i < as.length
    · rw [List.getElem?_append_left (by simpa using hi)] at z
      refine ⟨hi, ?_⟩
      obtain ⟨c', hc⟩ := get_lt (xs := as.map cellOf) (i := i) (by simpa using hi)
      rw [hc] at z ⊢
      simp at z
      rw [z]
    · rw [List.getElem?_append_right (by simpa using hi), List.getElem?_replicate] at z
      split at z <;> simp at z
  have slot : ∀ i v, vs[i]? = some v → (L2.start N vs)[i]? = some (some v) := fun i v z => by
    unfold L2.start
    have hi := (List.getElem?_eq_some_iff.mp z).1
    rw [List.getElem?_append_left (by simpa using hi), List.getElem?_map, z]
    rfl
  have fi : FI K w H B (lentAt vs as) (L2.start N vs) H B (as.map cellOf ++ List.replicate (m.slots - as.length) none) := by
    refine ⟨⟨?_, fun i d z => ?_, fun i l d z => ?_, fun i j l d l' d' a z1 z2 h1 h2 => ?_⟩, .refl fun a ⟨i, z⟩ => ars_B ar a (lentAt_mem z), fun i l d a z y => ?_⟩
    · unfold L2.start
      rw [List.length_append, List.length_append, List.length_map, List.length_map, List.length_replicate, List.length_replicate]
      omega
    · obtain ⟨hi, z⟩ := cell _ _ z
      rcases ars_get ar i _ z with ⟨d', v, e1, e2, e3⟩ | ⟨d', a, e1, _⟩
      · cases e1
        exact ⟨v, slot _ _ e2, e3⟩
      · cases e1
    · obtain ⟨hi, z⟩ := cell _ _ z
      rcases ars_get ar i _ z with ⟨d', v, e1, e2, e3⟩ | ⟨d', a, e1, e2, e3, e4⟩
      · cases e1
      · cases e1
        exact ⟨a, slot _ _ e2, e3⟩
    · obtain ⟨_, z1⟩ := cell _ _ z1
      obtain ⟨_, z2⟩ := cell _ _ z2
      rcases ars_get ar i _ z1 with ⟨_, _, e1, _⟩ | ⟨_, a1, e1, e2, _, e4⟩
      · cases e1
      · rcases ars_get ar j _ z2 with ⟨_, _, e1, _⟩ | ⟨_, a2, _, f2, _, f4⟩
        · cases e1
        · rw [slot _ _ e2] at h1
          rw [slot _ _ f2] at h2
          cases h1
          cases h2
          exact lent_one nd e4 f4
    · obtain ⟨hi, z⟩ := cell _ _ z
      rcases ars_get ar i _ z with ⟨_, _, e1, _⟩ | ⟨_, a1, e1, e2, _, e4⟩
      · cases e1
      · cases e1
        rw [slot _ _ e2] at y
        cases y
        exact ⟨fun _ => e4, fun z => by cases z⟩
  have fin : ∀ {σ' : L2.St} {H' : Hp} {B' : Own}, FI K w H B (lentAt vs as) σ' H' B' ρ' → Stp (fun a => V.ref a ∈ lentV vs as) H B H' B' ∧ Outs K w H' B' (lentV vs as) os' := fun {σ' H' B'} f => by
    refine ⟨f.stp.mono (fun a ⟨i, z⟩ => lentAt_mem z) (ars_B ar), outs_ok fit ar e2 fun i d z a y => ?_⟩
    obtain ⟨a', h1, h2⟩ := f.rel.own i _ _ z
    have h3 := (f.own i _ _ a' z h1).1 rfl
    rw [y] at h3
    cases h3
    exact h2
  refine ⟨H, B, lentAt vs as, B, _, fl, ρ', fi, e1, ?_⟩
  cases fl with
  | nx =>
    cases e
    exact fun σ' H' B' f _ => let ⟨a, b⟩ := fin f; q .non H' B' a b .non
  | bk => cases e
  | ct => cases e
  | rt r' =>
    cases e
    exact fun v σ' H' B' f rr => let ⟨a, b⟩ := fin f; q v H' B' a b rr
end
end Mp

/-! MiniPy 14: a term of the small language stands for the program's text: the check. -/
namespace Mp
open PySem PySem.Spec L2

/-- what a check knows: the slots' names, the defs by name, the constants by name -/
structure Prm where
  N : List Str
  fns : List (Str × Nat)
  cons : List (Str × D)

mutual
def eqPD : D → D → Bool
  | .none, .none => true
  | .bool b, .bool c => b == c
  | .int i, .int j => i == j
  | .str x, .str y => x == y
  | .list xs, .list ys => eqPDs xs ys
  | .tuple xs, .tuple ys => eqPDs xs ys
  | .dict xs, .dict ys => eqPDk xs ys
  | _, _ => false
def eqPDs : List D → List D → Bool
  | [], [] => true
  | x :: xs, y :: ys => eqPD x y && eqPDs xs ys
  | _, _ => false
def eqPDk : List (D × D) → List (D × D) → Bool
  | [], [] => true
  | (x, x') :: xs, (y, y') :: ys => eqPD x y && eqPD x' y' && eqPDk xs ys
  | _, _ => false
end
mutual
theorem eqPD_ok : ∀ {a b : D}, eqPD a b = true → a = b
  | .none, .none, _ => rfl
  | .bool b, .bool c, h => by unfold eqPD at h; rw [eq_of_beq h]
  | .int i, .int j, h => by unfold eqPD at h; rw [eq_of_beq h]
  | .str x, .str y, h => by unfold eqPD at h; rw [eq_of_beq h]
  | .list xs, .list ys, h => by unfold eqPD at h; rw [eqPDs_ok h]
  | .tuple xs, .tuple ys, h => by unfold eqPD at h; rw [eqPDs_ok h]
  | .dict xs, .dict ys, h => by unfold eqPD at h; rw [eqPDk_ok h]
theorem eqPDs_ok : ∀ {a b : List D}, eqPDs a b = true → a = b
  | [], [], _ => rfl
  | x :: xs, y :: ys, h => by
    unfold eqPDs at h
    rw [Bool.and_eq_true] at h
    rw [eqPD_ok h.1, eqPDs_ok h.2]
theorem eqPDk_ok : ∀ {a b : List (D × D)}, eqPDk a b = true → a = b
  | [], [], _ => rfl
  | (x, x') :: xs, (y, y') :: ys, h => by
    unfold eqPDk at h
    rw [Bool.and_eq_true, Bool.and_eq_true] at h
    rw [eqPD_ok h.1.1, eqPD_ok h.1.2, eqPDk_ok h.2]
end

def glC (sc : Scope) (x : Str) : Bool := decide (sc.names.lookup x = some .globalImplicit) && !(x == ("__debug__" : Str))
def visC (sc : Scope) (x : Str) : Bool := (match sc.names.lookup x with | some .local => true | some .cell => true | some .free => true | _ => false) && !(x == ("__debug__" : Str)) && !(x == ("__classdict__" : Str))
def locC (sc : Scope) (x : Str) : Bool := match sc.names.lookup x with | some .local => true | some .cell => true | _ => false
def nst : Expr → Bool
  | .Starred _ _ => false
  | _ => true
def notComp : Expr → Bool
  | .ListComp _ _ _ _ => false
  | .SetComp _ _ _ _ => false
  | .DictComp _ _ _ _ _ => false
  | _ => true
def notSet : Expr → Bool
  | .Set _ _ _ => false
  | _ => true
def notSlice : Expr → Bool
  | .Slice _ _ _ _ => false
  | _ => true
def notTup : Expr → Bool
  | .Tuple _ _ _ => false
  | _ => true
def notCall : Expr → Bool
  | .Call _ _ _ _ => false
  | _ => true
def slotC (P : Prm) (i : Nat) (x : Str) : Bool := decide (P.N[i]? = some x)
def conC (P : Prm) (x : Str) (d : D) : Bool := match P.cons.lookup x with
  | some d' => eqPD d' d
  | none => false
def bfN : Bf → Str
  | .len => "len" | .int => "int" | .str => "str" | .list => "list" | .tuple => "tuple" | .sorted => "sorted" | .all => "all" | .any => "any" | .sum => "sum" | .max => "max" | .min => "min" | .abs => "abs"
def tyN : Ty → Str
  | .int => "int" | .str => "str" | .tuple => "tuple" | .list => "list" | .dict => "dict" | .bool => "bool"
def ownN (m : Mt) (name : Str) (n : Nat) : Bool := match m with
  | .append => name == ("append" : Str) && n == 1
  | .extend => name == ("extend" : Str) && n == 1
  | .pop => name == ("pop" : Str) && n == 0
  | _ => false

mutual
def chkT (P : Prm) : Tg → (Str → Bool) → Scope → Expr → Bool
  | .name i, fn, sc, e => match e with
    | .Name x _ => slotC P i x && locC sc x && (fn x || decide (sc.names.lookup x = some .local))
    | _ => false
  | .tup ts, fn, sc, e => match e with
    | .Tuple es _ _ => chkTs P ts fn sc es
    | _ => false
def chkTs (P : Prm) : List Tg → (Str → Bool) → Scope → List Expr → Bool
  | [], _, _, es => es.isEmpty
  | t :: ts, fn, sc, es => match es with
    | e :: es => nst e && chkT P t fn sc e && chkTs P ts fn sc es
    | [] => false
end
def blkFn (scope : Scope) : Str → Bool := fun x => scope.names.lookup x == some .cell
def ownP (P : Prm) (own : List Nat) : List (Str × Nat) := own.map fun i => (P.N.getD i ("" : Str), i)

mutual
def chkE (P : Prm) : E → Scope → Expr → Bool
  | .cst d, sc, e => match e, d with
    | .Constant (.int i) _ _, .int j => i == j
    | .Constant (.str i) _ _, .str j => i == j
    | .Constant (.bool i) _ _, .bool j => i == j
    | .Constant .none _ _, .none => true
    | .Name x _, d => glC sc x && conC P x d
    | _, _ => false
  | .var i, sc, e => match e with
    | .Name x _ => slotC P i x && visC sc x
    | _ => false
  | .bin op a b, sc, e => match e with
    | .BinOp a' op' b' _ => decide (opB op = op') && chkE P a sc a' && chkE P b sc b'
    | _ => false
  | .neg a, sc, e => match e with
    | .UnaryOp .USub a' _ => chkE P a sc a'
    | _ => false
  | .not a, sc, e => match e with
    | .UnaryOp .Not a' _ => chkE P a sc a'
    | _ => false
  | .and a b, sc, e => match e with
    | .BoolOp .And (a' :: b' :: r) pos => chkE P a sc a' && (if r.isEmpty then chkE P b sc b' else chkE P b sc (.BoolOp .And (b' :: r) pos))
    | _ => false
  | .or a b, sc, e => match e with
    | .BoolOp .Or (a' :: b' :: r) pos => chkE P a sc a' && (if r.isEmpty then chkE P b sc b' else chkE P b sc (.BoolOp .Or (b' :: r) pos))
    | _ => false
  | .cmp op a b, sc, e => match e with
    | .Compare a' [op'] [b'] _ => decide (opC op = op') && !behindInMarks (opC op) b' && chkE P a sc a' && chkE P b sc b'
    | _ => false
  | .chain op op2 a b c, sc, e => match e with
    | .Compare a' [op', op2'] [b', c'] _ => decide (opC op = op') && decide (opC op2 = op2') && !lastMarks [opC op, opC op2] [b', c'] && chkE P a sc a' && chkE P b sc b' && chkE P c sc c'
    | _ => false
  | .ite c a b, sc, e => match e with
    | .IfExp c' a' b' _ => chkE P c sc c' && chkE P a sc a' && chkE P b sc b'
    | _ => false
  | .tup es, sc, e => match e with
    | .Tuple es' _ _ => chkL P es sc es'
    | _ => false
  | .lst es, sc, e => match e with
    | .List es' _ => chkL P es sc es'
    | _ => false
  | .dic _, _, _ => false
  | .idx a i, sc, e => match e with
    | .Subscript a' i' _ => notSlice i' && chkE P a sc a' && chkE P i sc i'
    | _ => false
  | .slc a lo hi, sc, e => match e with
    | .Subscript a' (.Slice lo' hi' none _) _ => chkE P a sc a' && chkO P lo sc lo' && chkO P hi sc hi'
    | _ => false
  | .rev a, sc, e => match e with
    | .Subscript a' (.Slice none none (some (.UnaryOp .USub (.Constant (.int i) _ _) _)) _) _ => i == 1 && chkE P a sc a'
    | _ => false
  | .call f es, sc, e => match e with
    | .Call (.Name x _) es' [] _ => glC sc x && decide (P.fns.lookup x = some f) && chkL P es sc es'
    | _ => false
  | .bf b es, sc, e => match e with
    | .Call (.Name x _) es' [] _ => x == bfN b && glC sc x && !es'.isEmpty && chkL P es sc es'
    | _ => false
  | .isi a tys, sc, e => match tys, e with
    | [t], .Call (.Name f _) [a', .Name x2 _] [] _ => f == ("isinstance" : Str) && glC sc f && x2 == tyN t && glC sc x2 && nst a' && chkE P a sc a'
    | _, _ => false
  | .own m i es, sc, e => match e with
    | .Call (.Attribute (.Name x _) name apos) es' [] pos => ownN m name es'.length && slotC P i x && visC sc x && (apos.endLine == pos.line) && chkL P es sc es'
    | _ => false
  | .meth m o es, sc, e => match m, e with
    | .indexL, .Call (.Attribute a name apos) [x] [] pos => name == ("index" : Str) && notCall a && (apos.endLine == pos.line) && chkE P o sc a && chkL P es sc [x]
    | .join, .Call (.Attribute a name apos) [x] [] pos => name == ("join" : Str) && notCall a && (apos.endLine == pos.line) && chkE P o sc a && chkL P es sc [x]
    | .indexT, .Call (.Attribute (.Name y _) name apos) [x] [] pos => name == ("index" : Str) && (apos.endLine == pos.line) && glC sc y && (match o with | .cst (.tuple d) => conC P y (.tuple d) | _ => false) && chkL P es sc [x]
    | .get2, .Call (.Attribute (.Name y _) name apos) [x, z] [] pos => name == ("get" : Str) && (apos.endLine == pos.line) && glC sc y && (match o with | .cst (.dict d) => conC P y (.dict d) | _ => false) && chkL P es sc [x, z]
    | _, _ => false
  | .lc elt t it cond own, sc, e => match e with
    | .ListComp elt' [⟨tg, iter, ifs, a⟩] scope _ => (a == 0) && notSet iter && blkC P.N sc scope (ownP P own) && (tgSlots t).all (fun i => decide (i ∈ own)) && chkT P t (blkFn scope) (relS scope sc) tg &&
      chkI P it sc tg iter && chkC P cond (relS scope sc) ifs && chkE P elt (relS scope sc) elt'
    | _ => false
def chkL (P : Prm) : List E → Scope → List Expr → Bool
  | [], _, es => es.isEmpty
  | m :: ms, sc, es => match es with
    | e :: es => nst e && chkE P m sc e && chkL P ms sc es
    | [] => false
def chkO (P : Prm) : Option E → Scope → Option Expr → Bool
  | none, _, e => e.isNone
  | some m, sc, e => match e with
    | some e => chkE P m sc e
    | none => false
def chkC (P : Prm) : Option E → Scope → List Expr → Bool
  | none, _, es => es.isEmpty
  | some m, sc, es => match es with
    | [e] => chkE P m sc e
    | _ => false
def chkI (P : Prm) : It → Scope → Expr → Expr → Bool
  | .seq m, sc, tg, e => chkE P m sc e
  | .range1 m, sc, tg, e => match e with
    | .Call (.Name x _) [a] [] _ => x == ("range" : Str) && glC sc x && nst a && chkE P m sc a
    | _ => false
  | .range2 m m', sc, tg, e => match e with
    | .Call (.Name x _) [a, b] [] _ => x == ("range" : Str) && glC sc x && nst a && nst b && chkE P m sc a && chkE P m' sc b
    | _ => false
  | .enum m, sc, tg, e => match e, tg with
    | .Call (.Name x _) [a] [] _, .Tuple _ _ _ => x == ("enumerate" : Str) && glC sc x && nst a && chkE P m sc a
    | _, _ => false
  | .zip m m', sc, tg, e => match e, tg with
    | .Call (.Name x _) [a, b] [] _, .Tuple _ _ _ => x == ("zip" : Str) && glC sc x && nst a && nst b && chkE P m sc a && chkE P m' sc b
    | _, _ => false
  | .rev m, sc, tg, e => match e with
    | .Call (.Name x _) [a] [] _ => x == ("reversed" : Str) && glC sc x && nst a && chkE P m sc a
    | _ => false
end

/-! ### what the context must offer -/
structure ConOk (K : PySem.W.Frag) (w : World) (mg : Str → Option Value) (x : Str) (d : D) : Prop where
  ex : ∃ u y, mg x = some u ∧ RelV y u ∧ (∀ H B, Dq K w H B y d) ∧ (∀ ds, d = .tuple ds → ∃ c o, u = .ref c ∧ y = .ref c ∧ K.lookup c = some o ∧ o.cls = .type "tuple" ∧ o.dict = none) ∧
    ∀ kvs, d = .dict kvs → ∃ c, u = .ref c ∧ WD K w c kvs
def bltNames : List Str := ["len", "int", "str", "list", "tuple", "sorted", "all", "any", "sum", "max", "min", "abs", "dict", "bool", "isinstance", "range", "enumerate", "zip", "reversed"]
structure XOk (P : Prm) (T : Nat → Option (List Bool)) (F : Nat → List Arg → Option (R × List D)) (sc : Scope) (X : Cx) : Prop where
  hN : X.N = P.N
  nd : P.N.Nodup
  hsc : X.env.scope = sc
  kind : sc.kind = .function
  calm : X.calm = true
  deep : Deep X.A
  blt : ∀ x ∈ bltNames, X.mg x = none
  con : ∀ x d, P.cons.lookup x = some d → ConOk X.K X.w X.mg x d
  fns : ∀ x i, P.fns.lookup x = some i → ∃ f fd ps k ls, T i = some ls ∧ X.mg x = some (.ref f) ∧ PySem.W.keepIn X.K (.ref f) = true ∧ Binds X.K fd ps [] ∧ Room k X.A ∧ FnOk X.prog X.w X.K X.mg X.base CX0 k f fd ps (spD X.K X.w ls.length (F i))

section
variable {P : Prm} {T : Nat → Option (List Bool)} {F : Nat → List Arg → Option (R × List D)} {X : Cx} {sc scope : Scope} {e : Expr} {x : Str} {d : D}
theorem XOk.gl (O : XOk P T F sc X) (h : glC sc x = true) : Gl X x ∧ (x == ("__debug__" : Str)) = false := by
  unfold glC at h
  rw [Bool.and_eq_true] at h
  refine ⟨?_, by simpa using h.2⟩
  show X.env.scope.names.lookup x = _
  rw [O.hsc]
  exact of_decide_eq_true h.1
theorem XOk.vis (O : XOk P T F sc X) (h : visC sc x = true) : Vis X.env.scope x ∧ (x == ("__debug__" : Str)) = false ∧ (x == ("__classdict__" : Str)) = false := by
  unfold visC at h
  rw [Bool.and_eq_true, Bool.and_eq_true] at h
  refine ⟨?_, by simpa using h.1.2, by simpa using h.2⟩
  rw [O.hsc]
  have q := h.1.1
  split at q <;> first | exact .inl (by assumption) | exact .inr (.inl (by assumption)) | exact .inr (.inr (by assumption)) | cases q
theorem XOk.loc (O : XOk P T F sc X) (h : locC sc x = true) : Loc X.env.scope x := by
  unfold locC at h
  rw [O.hsc]
  split at h <;> first | exact .inl (by assumption) | exact .inr (by assumption) | cases h
theorem XOk.slot (O : XOk P T F sc X) {i : Nat} (h : slotC P i x = true) : X.N[i]? = some x := by
  rw [O.hN]
  exact of_decide_eq_true h
theorem nst_ok (h : nst e = true) : NoSt X e := fun es => by
  cases e <;> first | rfl | cases h
theorem conC_ok (O : XOk P T F sc X) (h : conC P x d = true) : ConOk X.K X.w X.mg x d := by
  unfold conC at h
  split at h
  · rename_i d' e
    rw [← eqPD_ok h]
    exact O.con x d' e
  · cases h
theorem XOk.blk (O : XOk P T F sc X) {own : List (Str × Nat)} (h : blkC P.N sc scope own = true) (s : Shared) (H : Hp) (C : Addr) (cl : List (Str × Addr)) (fp : List Addr) : XOk P T F (relS scope sc) (X.blk s H scope (compEnvC scope cl C X.env) fp) where
  hN := O.hN
  nd := O.nd
  hsc := by
    show relS scope X.env.scope = _
    rw [O.hsc]
  kind := (blkOk_by h).kind
  calm := O.calm
  deep := O.deep
  blt := O.blt
  con := O.con
  fns := O.fns
theorem XOk.blkOk (O : XOk P T F sc X) {own : List (Str × Nat)} (h : blkC P.N sc scope own = true) : BlkOk X.N X.env.scope scope own := by
  rw [O.hN, O.hsc]
  exact blkOk_by h
theorem ownP_snd {own : List Nat} : (ownP P own).map (·.2) = own := by
  unfold ownP
  rw [List.map_map]
  exact List.map_id own

mutual
theorem chkT_ok {fn : Str → Bool} (O : XOk P T F sc X) (hf : ∀ x, fn x = true → X.fn x = true) : ∀ {t : Tg} {e : Expr}, chkT P t fn sc e = true → PG X e (tGd X.K X.w t)
  | .name i, e, h => by
    unfold chkT at h
    split at h
    · rename_i x p
      rw [Bool.and_eq_true, Bool.and_eq_true] at h
      refine pgd_name (O.hN ▸ O.nd) (O.slot h.1.1) (O.loc h.1.2) ?_
      rcases Bool.or_eq_true _ _ ▸ h.2 with k | k
      · exact .inl (hf x k)
      · exact .inr (O.hsc ▸ of_decide_eq_true k)
    · cases h
  | .tup ts, e, h => by
    unfold chkT at h
    split at h
    · obtain ⟨h1, h2, h3, h4⟩ := chkTs_ok O hf h
      exact pgd_tup O.calm h1 h2 h3 h4
    · cases h
theorem chkTs_ok {fn : Str → Bool} (O : XOk P T F sc X) (hf : ∀ x, fn x = true → X.fn x = true) : ∀ {ts : List Tg} {es : List Expr}, chkTs P ts fn sc es = true →
    PGs X es (tGs X.K X.w ts) ∧ ts.length = es.length ∧ (assignEach es X.env).length = es.length ∧ (assignEach es X.env).findIdx? (·.1) = none
  | [], es, h => by
    unfold chkTs at h
    cases es with
    | nil => exact ⟨pgds_nil, rfl, rfl, rfl⟩
    | cons => cases h
  | t :: ts, es, h => by
    unfold chkTs at h
    split at h
    · rename_i e es
      rw [Bool.and_eq_true, Bool.and_eq_true] at h
      obtain ⟨h1, h2, h3, h4⟩ := chkTs_ok O hf h.2
      have he : assignEach (e :: es) X.env = (false, assign e X.env) :: assignEach es X.env := by
        have := h.1.1
        cases e <;> first | rfl | cases this
      refine ⟨pgds_cons (chkT_ok O hf h.1.2) h1 (by rw [he]; rfl), by rw [List.length_cons, List.length_cons, h2], by rw [he, List.length_cons, List.length_cons, h3], ?_⟩
      rw [he, List.findIdx?_cons, h4]
      rfl
    · cases h
end
end
end Mp

/-! MiniPy 15: the check is sound: expressions. -/
namespace Mp
open PySem PySem.Spec L2

structure Good (X : Cx) (e : Expr) (s : Sm) : Prop where
  pb : PB X e s
  po : ∀ op vs pos, e = .BoolOp op vs pos → PO2 X e s

section
variable {P : Prm} {T : Nat → Option (List Bool)} {F : Nat → List Arg → Option (R × List D)} {X : Cx} {sc scope : Scope} {e a : Expr} {es : List Expr} {x : Str} {d : D} {s : Sm} {pos : Pos}
theorem PO2.good (h : PO2 X e s) : Good X e s := ⟨h.pb, fun _ _ _ _ => h⟩
theorem conPB (O : XOk P T F sc X) (h1 : glC sc x = true) (h2 : conC P x d = true) {p : Pos} : PB X (.Name x p) (ofV fun ρ => some (.dat d, ρ)) := by
  obtain ⟨u, y, hm, r, dq, _⟩ := (conC_ok O h2).ex
  exact pb_glob (O.gl h1).1 hm r dq (O.gl h1).2
theorem hpl_of (h : es.all nst = true) : (backTo pos (starEach es X.env)).any (·.1) = false := by
  induction es with
  | nil => rfl
  | cons e es ih =>
    rw [List.all_cons, Bool.and_eq_true] at h
    rw [nst_ok h.1 es]
    have q := ih h.2
    unfold backTo at q ⊢
    rw [List.map_cons, List.any_cons, q]
    rfl
theorem bootB (b : Bf) : bootBuiltins (bfN b) = some (idB b) := by cases b <;> rfl
theorem bootT (t : Ty) : bootBuiltins (tyN t) = some (.type (tyS t)) := by cases t <;> rfl
theorem bfN_in (b : Bf) : bfN b ∈ bltNames := by cases b <;> decide +kernel
theorem tyN_in (t : Ty) : tyN t ∈ bltNames := by cases t <;> decide +kernel
theorem bfN_ne (b : Bf) : bfN b ≠ "__name__" := by cases b <;> decide +kernel
theorem tyN_ne (t : Ty) : tyN t ≠ "__name__" := by cases t <;> decide +kernel
theorem bfPB (O : XOk P T F sc X) {b : Bf} {vs : Env → Option (List R × Env)} {p : Pos} (hg : glC sc (bfN b) = true) (ha : PA X (e :: es) (tAs X.K X.w vs)) (he : nst e = true) (hs : es.all nst = true) : PB X (.Call (.Name (bfN b) p) (e :: es) [] pos) (ofV (bfV (bfD b) vs)) := by
  have hv := bootB b
  have hc := ob_bf O.calm b
  cases b <;> first
    | exact pb_bfB hc (O.gl hg).1 (O.blt _ (bfN_in _)) hv ha (bfN_ne _) (O.gl hg).2 (nst_ok he es) (hpl_of hs)
    | exact pb_bfT hc (O.gl hg).1 (O.blt _ (bfN_in _)) hv ha (bfN_ne _) (O.gl hg).2 (nst_ok he es) (hpl_of hs)
theorem callPB (O : XOk P T F sc X) {f : Nat} {vs : Env → Option (List R × Env)} {p : Pos} (hg : glC sc x = true) (hf : P.fns.lookup x = some f) (ha : PA X (e :: es) (tAs X.K X.w vs)) (he : nst e = true) (hs : es.all nst = true) : PB X (.Call (.Name x p) (e :: es) [] pos) (ofV (callV (T f) (F f) vs)) := by
  obtain ⟨a, fd, ps, k, ls, h1, h2, h3, h4, h5, h6⟩ := O.fns x f hf
  rw [h1]
  exact pb_call h6 h5 (O.gl hg).1 h2 h3 h4 (O.gl hg).2 ha (nst_ok he) (hpl_of hs)
theorem callPB0 (O : XOk P T F sc X) {f : Nat} {p : Pos} (hg : glC sc x = true) (hf : P.fns.lookup x = some f) : PB X (.Call (.Name x p) [] [] pos) (ofV (callV (T f) (F f) nilV)) := by
  obtain ⟨a, fd, ps, k, ls, h1, h2, h3, h4, h5, h6⟩ := O.fns x f hf
  rw [h1]
  exact pb_call0 h6 h5 (O.gl hg).1 h2 h3 h4 (O.gl hg).2
theorem hbase_of {name : Str} (h : notCall a = true) : attributeBase a name X.env (eval a X.env) = eval a X.env := by
  cases a <;> first | rfl | cases h
theorem hs_of (h : notSet e = true) : ∀ x, foldedSetIterable e X.env x = pure x := fun x => by
  cases e <;> first | rfl | cases h
theorem ix_of (h : notSlice e = true) : PlainIx e := fun o i => by
  cases e <;> first | rfl | cases h
theorem mem_all {α : Type} [DecidableEq α] {xs ys : List α} (h : xs.all (fun i => decide (i ∈ ys)) = true) : ∀ i ∈ xs, i ∈ ys := fun i hi => of_decide_eq_true (List.all_eq_true.mp h i hi)

mutual
theorem chkE_ok : ∀ {m : E} {sc : Scope} {e : Expr} {X : Cx}, XOk P T F sc X → chkE P m sc e = true → Good X e (sem T F m)
  | .cst d, sc, e, X, O, h => by
    unfold chkE at h
    split at h
    · cases eq_of_beq h
      exact ⟨pb_int, fun _ _ _ e => nomatch e⟩
    · cases eq_of_beq h
      exact ⟨pb_str, fun _ _ _ e => nomatch e⟩
    · cases eq_of_beq h
      exact ⟨pb_bool, fun _ _ _ e => nomatch e⟩
    · exact ⟨pb_none, fun _ _ _ e => nomatch e⟩
    · rw [Bool.and_eq_true] at h
      exact ⟨conPB O h.1 h.2, fun _ _ _ e => nomatch e⟩
    · cases h
  | .var i, sc, e, X, O, h => by
    unfold chkE at h
    split at h
    · rw [Bool.and_eq_true] at h
      have v := O.vis h.2
      exact ⟨pb_var (O.slot h.1) v.1 v.2.1 v.2.2, fun _ _ _ e => nomatch e⟩
    · cases h
  | .bin op a b, sc, e, X, O, h => by
    unfold chkE at h
    split at h
    · rw [Bool.and_eq_true, Bool.and_eq_true] at h
      cases of_decide_eq_true h.1.1
      exact ⟨pb_bin (chkE_ok O h.1.2).pb (chkE_ok O h.2).pb, fun _ _ _ e => nomatch e⟩
    · cases h
  | .neg a, sc, e, X, O, h => by
    unfold chkE at h
    split at h
    · exact ⟨pb_neg (chkE_ok O h).pb, fun _ _ _ e => nomatch e⟩
    · cases h
  | .not a, sc, e, X, O, h => by
    unfold chkE at h
    split at h
    · exact ⟨pb_not (chkE_ok O h).pb, fun _ _ _ e => nomatch e⟩
    · cases h
  | .and a b, sc, e, X, O, h => by
    unfold chkE at h
    split at h
    · rename_i a' b' r pos
      rw [Bool.and_eq_true] at h
      have h1 := (chkE_ok O h.1).pb
      have h2 := h.2
      split at h2
      · rename_i hr
        cases List.isEmpty_iff.mp hr
        exact (po_and h1 (po_one1 (chkE_ok O h2).pb)).good
      · exact (po_and h1 ((chkE_ok O h2).po _ _ _ rfl)).good
    · cases h
  | .or a b, sc, e, X, O, h => by
    unfold chkE at h
    split at h
    · rename_i a' b' r pos
      rw [Bool.and_eq_true] at h
      have h1 := (chkE_ok O h.1).pb
      have h2 := h.2
      split at h2
      · rename_i hr
        cases List.isEmpty_iff.mp hr
        exact (po_or h1 (po_one2 (chkE_ok O h2).pb)).good
      · exact (po_or h1 ((chkE_ok O h2).po _ _ _ rfl)).good
    · cases h
  | .cmp op a b, sc, e, X, O, h => by
    unfold chkE at h
    split at h
    · simp only [Bool.and_eq_true] at h
      cases of_decide_eq_true h.1.1.1
      exact ⟨pb_cmp1 O.deep (chkE_ok O h.1.2).pb (chkE_ok O h.2).pb (by simpa using h.1.1.2), fun _ _ _ e => nomatch e⟩
    · cases h
  | .chain op op2 a b c, sc, e, X, O, h => by
    unfold chkE at h
    split at h
    · simp only [Bool.and_eq_true] at h
      obtain ⟨⟨⟨⟨⟨h1, h2⟩, h3⟩, h4⟩, h5⟩, h6⟩ := h
      cases of_decide_eq_true h1
      cases of_decide_eq_true h2
      exact ⟨pb_chain O.deep (chkE_ok O h4).pb (chkE_ok O h5).pb (chkE_ok O h6).pb (by simpa using h3), fun _ _ _ e => nomatch e⟩
    · cases h
  | .ite c a b, sc, e, X, O, h => by
    unfold chkE at h
    split at h
    · simp only [Bool.and_eq_true] at h
      exact ⟨pb_ite (chkE_ok O h.1.1).pb (chkE_ok O h.1.2).pb (chkE_ok O h.2).pb, fun _ _ _ e => nomatch e⟩
    · cases h
  | .tup es, sc, e, X, O, h => by
    unfold chkE at h
    split at h
    · exact ⟨pb_tup (chkL_ok O h).1, fun _ _ _ e => nomatch e⟩
    · cases h
  | .lst es, sc, e, X, O, h => by
    unfold chkE at h
    split at h
    · exact ⟨pb_lst (chkL_ok O h).1, fun _ _ _ e => nomatch e⟩
    · cases h
  | .dic _, sc, e, X, O, h => by
    unfold chkE at h
    cases h
  | .idx a i, sc, e, X, O, h => by
    unfold chkE at h
    split at h
    · simp only [Bool.and_eq_true] at h
      exact ⟨pb_idx (chkE_ok O h.1.2).pb (chkE_ok O h.2).pb (ix_of h.1.1), fun _ _ _ e => nomatch e⟩
    · cases h
  | .slc a lo hi, sc, e, X, O, h => by
    unfold chkE at h
    split at h
    · simp only [Bool.and_eq_true] at h
      exact ⟨pb_slc (chkE_ok O h.1.1).pb (chkO_ok O h.1.2) (chkO_ok O h.2), fun _ _ _ e => nomatch e⟩
    · cases h
  | .rev a, sc, e, X, O, h => by
    unfold chkE at h
    split at h
    · simp only [Bool.and_eq_true] at h
      cases eq_of_beq h.1
      exact ⟨pb_rev (chkE_ok O h.2).pb, fun _ _ _ e => nomatch e⟩
    · cases h
  | .call f es, sc, e, X, O, h => by
    unfold chkE at h
    split at h
    · rename_i x p es' pos
      simp only [Bool.and_eq_true] at h
      have q := chkL_ok O h.2
      refine ⟨?_, fun _ _ _ e => nomatch e⟩
      cases es' with
      | nil =>
        cases es with
        | nil => exact callPB0 O h.1.1 (of_decide_eq_true h.1.2)
        | cons => exact absurd q.2.2 (by simp)
      | cons a as =>
        have n := q.2.1
        rw [List.all_cons, Bool.and_eq_true] at n
        exact callPB O h.1.1 (of_decide_eq_true h.1.2) q.1 n.1 n.2
    · cases h
  | .bf b es, sc, e, X, O, h => by
    unfold chkE at h
    split at h
    · rename_i x p es' pos
      simp only [Bool.and_eq_true] at h
      have q := chkL_ok O h.2
      refine ⟨?_, fun _ _ _ e => nomatch e⟩
      cases eq_of_beq h.1.1.1
      cases es' with
      | nil => exact absurd h.1.2 (by simp)
      | cons a as =>
        have n := q.2.1
        rw [List.all_cons, Bool.and_eq_true] at n
        exact bfPB O h.1.1.2 q.1 n.1 n.2
    · cases h
  | .isi a tys, sc, e, X, O, h => by
    unfold chkE at h
    split at h
    · rename_i t f p a' x2 p2 pos
      simp only [Bool.and_eq_true] at h
      obtain ⟨⟨⟨⟨⟨h1, h2⟩, h3⟩, h4⟩, h5⟩, h6⟩ := h
      cases eq_of_beq h1
      cases eq_of_beq h3
      exact ⟨pb_isi (chkE_ok O h6).pb (O.gl h2).1 (O.blt _ (by decide +kernel)) (O.gl h4).1 (O.blt _ (tyN_in t)) (bootT t) (tyN_ne t) (O.gl h4).2 (nst_ok h5), fun _ _ _ e => nomatch e⟩
    · cases h
  | .own m i es, sc, e, X, O, h => by
    unfold chkE at h
    split at h
    · rename_i x p name apos es' pos
      simp only [Bool.and_eq_true] at h
      obtain ⟨⟨⟨⟨h1, h2⟩, h3⟩, h4⟩, h5⟩ := h
      have q := chkL_ok O h5
      have v := O.vis h3
      refine ⟨?_, fun _ _ _ e => nomatch e⟩
      unfold ownN at h1
      split at h1
      · rw [Bool.and_eq_true] at h1
        cases eq_of_beq h1.1
        match es', q, h1.2 with
        | [a], q, _ => exact pb_own1 PySem.F.slot_list_append rfl mo_append (O.slot h2) v.1 v.2.1 v.2.2 q.1 (nst_ok (by simpa using q.2.1)) h4
      · rw [Bool.and_eq_true] at h1
        cases eq_of_beq h1.1
        match es', q, h1.2 with
        | [a], q, _ => exact pb_own1 PySem.F.slot_list_extend rfl mo_extend (O.slot h2) v.1 v.2.1 v.2.2 q.1 (nst_ok (by simpa using q.2.1)) h4
      · rw [Bool.and_eq_true] at h1
        cases eq_of_beq h1.1
        match es', es, q, h1.2 with
        | [], [], q, _ => exact pb_own0 PySem.F.slot_list_pop rfl mo_pop (O.slot h2) v.1 v.2.1 v.2.2 h4
      · cases h1
    · cases h
  | .meth m o es, sc, e, X, O, h => by
    unfold chkE at h
    split at h
    · rename_i a name apos x pos
      simp only [Bool.and_eq_true] at h
      obtain ⟨⟨⟨⟨h1, h2⟩, h3⟩, h4⟩, h5⟩ := h
      cases eq_of_beq h1
      have q := chkL_ok O h5
      exact ⟨pb_meth PySem.F.plainAttrs_list PySem.F.slot_list_index rfl md_indexL ty_indexL (chkE_ok O h4).pb q.1 (nst_ok (by simpa using q.2.1)) (hbase_of h2) h3, fun _ _ _ e => nomatch e⟩
    · rename_i a name apos x pos
      simp only [Bool.and_eq_true] at h
      obtain ⟨⟨⟨⟨h1, h2⟩, h3⟩, h4⟩, h5⟩ := h
      cases eq_of_beq h1
      have q := chkL_ok O h5
      exact ⟨pb_meth PySem.F.plainAttrs_str PySem.F.slot_str_join rfl md_join ty_join (chkE_ok O h4).pb q.1 (nst_ok (by simpa using q.2.1)) (hbase_of h2) h3, fun _ _ _ e => nomatch e⟩
    · rename_i y p name apos x pos
      simp only [Bool.and_eq_true] at h
      obtain ⟨⟨⟨⟨h1, h2⟩, h3⟩, h4⟩, h5⟩ := h
      cases eq_of_beq h1
      have q := chkL_ok O h5
      split at h4
      · obtain ⟨u, v, hm, r, dq, ht, _⟩ := (conC_ok O h4).ex
        obtain ⟨c, ob, rfl, rfl, k1, k2, k3⟩ := ht _ rfl
        exact ⟨pb_indexT (O.gl h3).1 hm k1 k2 k3 dq (O.gl h3).2 q.1 (nst_ok (by simpa using q.2.1)) h2, fun _ _ _ e => nomatch e⟩
      · cases h4
    · rename_i y p name apos x z pos
      simp only [Bool.and_eq_true] at h
      obtain ⟨⟨⟨⟨h1, h2⟩, h3⟩, h4⟩, h5⟩ := h
      cases eq_of_beq h1
      have q := chkL_ok O h5
      split at h4
      · obtain ⟨u, v, hm, r, dq, _, hd⟩ := (conC_ok O h4).ex
        obtain ⟨c, rfl, W⟩ := hd _ rfl
        have n : nst x = true ∧ nst z = true := by simpa using q.2.1
        exact ⟨pb_get2 (O.gl h3).1 hm W (O.gl h3).2 q.1 (nst_ok n.1) (nst_ok n.2) h2, fun _ _ _ e => nomatch e⟩
      · cases h4
    · cases h
  | .lc elt t it cond own, sc, e, X, O, h => by
    unfold chkE at h
    split at h
    · rename_i elt' tg iter ifs a scope pos
      simp only [Bool.and_eq_true] at h
      obtain ⟨⟨⟨⟨⟨⟨⟨h1, h2⟩, h3⟩, h4⟩, h5⟩, h6⟩, h7⟩, h8⟩ := h
      cases eq_of_beq h1
      have q := pb_lc (pos := pos) O.calm (O.hN ▸ O.nd) (chkI_ok O h6) (O.blkOk h3) (fun s H C cl fp => chkT_ok (O.blk h3 s H C cl fp) (fun _ z => z) h5) (fun s H C cl fp => chkC_ok (O.blk h3 s H C cl fp) h7)
        (fun s H C cl fp => (chkE_ok (O.blk h3 s H C cl fp) h8).pb) (by rw [ownP_snd]; exact mem_all h4) (hs_of h2)
      rw [ownP_snd] at q
      exact ⟨q, fun _ _ _ e => nomatch e⟩
    · cases h
theorem chkL_ok : ∀ {ms : List E} {sc : Scope} {es : List Expr} {X : Cx}, XOk P T F sc X → chkL P ms sc es = true → PA X es (tAs X.K X.w (semL T F ms)) ∧ es.all nst = true ∧ ms.length = es.length
  | [], sc, es, X, O, h => by
    unfold chkL at h
    cases es with
    | nil => exact ⟨pas_nil, rfl, rfl⟩
    | cons => cases h
  | m :: ms, sc, es, X, O, h => by
    unfold chkL at h
    split at h
    · rename_i e es
      rw [Bool.and_eq_true, Bool.and_eq_true] at h
      have q := chkL_ok O h.2
      exact ⟨pas_cons (chkE_ok O h.1.2).pb q.1 (nst_ok h.1.1 es), by rw [List.all_cons, h.1.1, q.2.1]; rfl, by rw [List.length_cons, List.length_cons, q.2.2]⟩
    · cases h
theorem chkO_ok : ∀ {m : Option E} {sc : Scope} {o : Option Expr} {X : Cx}, XOk P T F sc X → chkO P m sc o = true → PO X o (tO X.K X.w (semO T F m))
  | none, sc, o, X, O, h => by
    unfold chkO at h
    cases o with
    | none => exact pbo_none
    | some => cases h
  | some m, sc, o, X, O, h => by
    unfold chkO at h
    split at h
    · exact pbo_some (chkE_ok O h).pb
    · cases h
theorem chkC_ok : ∀ {m : Option E} {sc : Scope} {es : List Expr} {X : Cx}, XOk P T F sc X → chkC P m sc es = true → PTs X es (tT X.K X.w (semC T F m))
  | none, sc, es, X, O, h => by
    unfold chkC at h
    cases es with
    | nil => exact pbt_nil
    | cons => cases h
  | some m, sc, es, X, O, h => by
    unfold chkC at h
    split at h
    · exact pbt_one (chkE_ok O h).pb
    · cases h
theorem chkI_ok : ∀ {m : It} {sc : Scope} {tg e : Expr} {X : Cx}, XOk P T F sc X → chkI P m sc tg e = true → PI X tg e (tI X.K X.w (semI T F m))
  | .seq m, sc, tg, e, X, O, h => by
    unfold chkI at h
    exact pi_seq (chkE_ok O h).pb
  | .range1 m, sc, tg, e, X, O, h => by
    unfold chkI at h
    split at h
    · simp only [Bool.and_eq_true] at h
      cases eq_of_beq h.1.1.1
      exact pi_rng1 (chkE_ok O h.2).pb (O.gl h.1.1.2).1 (O.blt _ (by decide +kernel)) (nst_ok h.1.2)
    · cases h
  | .range2 m m', sc, tg, e, X, O, h => by
    unfold chkI at h
    split at h
    · simp only [Bool.and_eq_true] at h
      obtain ⟨⟨⟨⟨⟨h1, h2⟩, h3⟩, h4⟩, h5⟩, h6⟩ := h
      cases eq_of_beq h1
      exact pi_rng2 (chkE_ok O h5).pb (chkE_ok O h6).pb (O.gl h2).1 (O.blt _ (by decide +kernel)) (nst_ok h3) (nst_ok h4)
    · cases h
  | .enum m, sc, tg, e, X, O, h => by
    unfold chkI at h
    split at h
    · simp only [Bool.and_eq_true] at h
      cases eq_of_beq h.1.1.1
      exact pi_enumD (chkE_ok O h.2).pb (O.gl h.1.1.2).1 (O.blt _ (by decide +kernel)) (nst_ok h.1.2)
    · cases h
  | .zip m m', sc, tg, e, X, O, h => by
    unfold chkI at h
    split at h
    · simp only [Bool.and_eq_true] at h
      obtain ⟨⟨⟨⟨⟨h1, h2⟩, h3⟩, h4⟩, h5⟩, h6⟩ := h
      cases eq_of_beq h1
      exact pi_zipD (chkE_ok O h5).pb (chkE_ok O h6).pb (O.gl h2).1 (O.blt _ (by decide +kernel)) (nst_ok h3) (nst_ok h4)
    · cases h
  | .rev m, sc, tg, e, X, O, h => by
    unfold chkI at h
    split at h
    · simp only [Bool.and_eq_true] at h
      cases eq_of_beq h.1.1.1
      exact pi_revD (chkE_ok O h.2).pb (O.gl h.1.1.2).1 (O.blt _ (by decide +kernel)) (nst_ok h.1.2)
    · cases h
end
end
end Mp

/-! MiniPy 16: the check of statements, of a def's body; the table of defs. -/
namespace Mp
open PySem PySem.Spec L2

/-- target names of a comprehension bound to a local name on one line -/
def lcSet (sc : Scope) (x : Str) (px : Pos) (e : Expr) : Bool := match e with
  | .ListComp _ _ scope pos => decide (sc.names.lookup x = some .local) && (px.line == pos.line) && !(scope.names.any fun (n, k) => n == x && (k == .local || k == .cell))
  | _ => false
/-- a, b = x, y: plain names of one line -/
def parC (P : Prm) (sc : Scope) (i j : Nat) (ts vs : List Expr) : Bool := match ts, vs with
  | [.Name x px, .Name y py], [a, b] => decide (i ≠ j) && slotC P i x && slotC P j y && decide (sc.names.lookup x = some .local) && decide (sc.names.lookup y = some .local) && (py.line == px.line) && !(x == y) &&
    !([a, b].all (foldedForSure 8)) && !([a, b].all (constantsAlone 8)) && nst a && nst b
  | _, _ => false
def par3C (P : Prm) (sc : Scope) (i j l : Nat) (ts vs : List Expr) : Bool := match ts, vs with
  | [.Name x px, .Name y py, .Name z pz], [a, b, c] => decide (i ≠ j) && decide (i ≠ l) && decide (j ≠ l) && slotC P i x && slotC P j y && slotC P l z && decide (sc.names.lookup x = some .local) && decide (sc.names.lookup y = some .local) && decide (sc.names.lookup z = some .local) &&
    (py.line == px.line) && (pz.line == px.line) && !(x == y) && !(x == z) && !(y == z) && !([a, b, c].all (foldedForSure 8)) && !([a, b, c].all (constantsAlone 8)) && nst a && nst b && nst c
  | _, _ => false
def fnT : Str → Bool := fun _ => true

mutual
def chkS (P : Prm) : S → Scope → Stmt → Bool
  | .asg t m, sc, st => match st with
    | .Assign [tg] e _ => match t, tg with
      | .name i, .Name x px => slotC P i x && locC sc x && (notComp e || lcSet sc x px e) && chkE P m sc e
      | .tup ts, .Tuple es _ _ => notComp e && chkE P m sc e && (
          ((notTup e || decide (4 ≤ es.length)) && chkTs P ts fnT sc es) ||
          (match e, ts with
           | .Tuple vs _ _, [.name i, .name j] => parC P sc i j es vs
           | .Tuple vs _ _, [.name i, .name j, .name l] => par3C P sc i j l es vs
           | _, _ => false))
      | _, _ => false
    | _ => false
  | .sub i mx m, sc, st => match st with
    | .Assign [.Subscript (.Name x _) a _] e _ => slotC P i x && visC sc x && notSlice a && notComp e && chkE P mx sc a && chkE P m sc e
    | _ => false
  | .inc i m, sc, st => match st with
    | .AugAssign (.Name x _) .Add e _ => slotC P i x && locC sc x && chkE P m sc e
    | _ => false
  | .expr m, sc, st => match st with
    | .Expr e _ => notComp e && chkE P m sc e
    | _ => false
  | .ret m, sc, st => match st with
    | .Return (some e) _ => chkE P m sc e
    | .Return none _ => match m with
      | .cst .none => true
      | _ => false
    | _ => false
  | .ite c a b, sc, st => match st with
    | .If c' a' b' _ => chkE P c sc c' && chkSs P a sc a' && chkSs P b sc b'
    | _ => false
  | .whil c b, sc, st => match st with
    | .While c' b' [] _ => chkE P c sc c' && chkSs P b sc b'
    | _ => false
  | .for t it b, sc, st => match st with
    | .For tg iter b' [] _ => notSet iter && chkT P t fnT sc tg && chkI P it sc tg iter && chkSs P b sc b'
    | _ => false
  | .pass, sc, st => match st with
    | .Pass _ => true
    | _ => false
  | .brk, sc, st => match st with
    | .Break _ => true
    | _ => false
  | .cont, sc, st => match st with
    | .Continue _ => true
    | _ => false
def chkSs (P : Prm) : List S → Scope → List Stmt → Bool
  | [], _, sts => sts.isEmpty
  | m :: ms, sc, sts => match sts with
    | st :: sts => chkS P m sc st && chkSs P ms sc sts
    | [] => false
end

section
variable {X : Cx} {e a b c : Expr} {pos p : Pos} {s sa sb sc : Sm}
theorem sw_false (h : notComp e = true) {tg : Option Expr} {l : Nat} {env : PySem.Env} : swapsWith e tg l env = pure false := by
  cases e <;> first | rfl | cases h
theorem ss_none {es vs : List Expr} {k k2 : Nat} {p2 : Pos} {env : PySem.Env} (h : 4 ≤ es.length) : swappedStores [.Tuple es k p] (.Tuple vs k2 p2) env = pure none := by
  unfold swappedStores
  have h1 : (es.length == 2) = false := by simp; omega
  have h2 : (es.length == 3) = false := by simp; omega
  simp only [h1, h2, Bool.or_false, Bool.not_false, Bool.true_or, if_true]
theorem ss_some {x y : Str} {px py pt p2 : Pos} {k k2 : Nat} {env : PySem.Env} (hb : env.scope.kind = .function) (hx : env.scope.names.lookup x = some .local) (hy : env.scope.names.lookup y = some .local) (hl : (py.line == px.line) = true) (hxy : (x == y) = false)
    (h1 : [a, b].all (foldedForSure 8) = false) (h2 : [a, b].all (constantsAlone 8) = false) (ha : nst a = true) (hb2 : nst b = true) : swappedStores [.Tuple [.Name x px, .Name y py] k pt] (.Tuple [a, b] k2 p2) env = pure (some [x, y]) := by
  have kx : env.kindOf x = some .local := hx
  have ky : env.kindOf y = some .local := hy
  have hb' : env.blockKind = .function := by unfold Env.blockKind; rw [hb]; rfl
  have hyx : (y == x) = false := by
    rw [Bool.eq_false_iff] at hxy ⊢
    exact fun z => hxy (by rw [eq_of_beq z]; exact beq_self_eq_true x)
  unfold swappedStores
  simp only [hb', kx, ky, List.length_cons, List.length_nil, List.head?_cons, Option.map_some, Option.getD_some, Expr.pos, List.filterMap_cons, List.filterMap_nil, hl, h1, h2]
  simp [List.eraseDups_cons, hyx]
  intro h
  exfalso
  rcases h with h | h
  · cases a <;> first | cases ha; done | cases h
  · cases b <;> first | cases hb2; done | cases h
theorem ss_some3 {x y z : Str} {px py pz pt p2 : Pos} {k k2 : Nat} {env : PySem.Env} (hb : env.scope.kind = .function) (hx : env.scope.names.lookup x = some .local) (hy : env.scope.names.lookup y = some .local) (hz : env.scope.names.lookup z = some .local) (hl : (py.line == px.line) = true) (hl2 : (pz.line == px.line) = true)
    (hxy : (x == y) = false) (hxz : (x == z) = false) (hyz : (y == z) = false) (h1 : [a, b, c].all (foldedForSure 8) = false) (h2 : [a, b, c].all (constantsAlone 8) = false) (ha : nst a = true) (hb2 : nst b = true) (hc2 : nst c = true) :
    swappedStores [.Tuple [.Name x px, .Name y py, .Name z pz] k pt] (.Tuple [a, b, c] k2 p2) env = pure (some [x, y, z]) := by
  have kx : env.kindOf x = some .local := hx
  have ky : env.kindOf y = some .local := hy
  have kz : env.kindOf z = some .local := hz
  have hb' : env.blockKind = .function := by unfold Env.blockKind; rw [hb]; rfl
  have flip : ∀ {x y : Str}, (x == y) = false → (y == x) = false := fun {x y} h => by
    rw [Bool.eq_false_iff] at h ⊢
    exact fun z => h (by rw [eq_of_beq z]; exact beq_self_eq_true x)
  unfold swappedStores
  simp only [hb', kx, ky, kz, List.length_cons, List.length_nil, List.head?_cons, Option.map_some, Option.getD_some, Expr.pos, List.filterMap_cons, List.filterMap_nil, hl, hl2, h1, h2]
  simp [List.eraseDups_cons, flip hxy, flip hxz, flip hyz]
  intro h
  exfalso
  rcases h with h | h | h
  · cases a <;> first | cases ha; done | cases h
  · cases b <;> first | cases hb2; done | cases h
  · cases c <;> first | cases hc2; done | cases h
theorem ss_not {es : List Expr} {k : Nat} {env : PySem.Env} (h : notTup e = true) : swappedStores [.Tuple es k p] e env = pure none := by
  cases e <;> first | rfl | cases h
/-! a, b = x, y -/
section
variable {K : PySem.W.Frag} {w : World} {vs : Env → Option (List R × Env)} {i j l : Nat}
theorem setName {ρ ρ' : Env} {i : Nat} {d : D} (e : setTg (.name i) d ρ = some ρ') : okSlot ρ i = true ∧ ρ' = ρ.set i (some (.shr d)) := by
  obtain ⟨h, e⟩ := ifs (show (if okSlot ρ i = true then some (ρ.set i (some (.shr d))) else none) = some ρ' from e)
  cases e
  exact ⟨h, rfl⟩
theorem par_rd : ∀ D σ H, tS K w (asgV (.tup [.name i, .name j]) (tupV vs)) D σ H → tPar i j (tAs K w vs) D σ H := fun D σ H ⟨H0, B0, L, B, ρ, fl, ρ', fi, e, fin⟩ => by
  obtain ⟨⟨r, ρ1⟩, e1, e⟩ := bi e
  obtain ⟨ρ2, e2, e⟩ := bi e
  cases e
  obtain ⟨⟨rs, ρa⟩, e3, e1⟩ := bi e1
  obtain ⟨⟨ds, ρb⟩, e4, e1⟩ := bi e1
  obtain ⟨hl, e1⟩ := ifs e1
  cases e1
  refine ⟨B, ρ, rs, ρa, fi.rel, e3, fun xs H1 B1 p rr => ?_⟩
  obtain ⟨B2, p2, dq, _⟩ := frzAll_pst fi.rel p rr e4
  have e2 : setTg.setTgs [.name i, .name j] ds ρ1 = some ρ' := e2
  match ds, xs, dq, e2 with
  | [d1, d2], [v1, v2], dq, e2 =>
    cases dq with
    | cons q1 dq =>
    cases dq with
    | cons q2 _ =>
    obtain ⟨ρc, k1, e2⟩ := bi (show (setTg (.name i) d1 ρ1 >>= fun ρ => setTg.setTgs [.name j] [d2] ρ) = some ρ' from e2)
    obtain ⟨ρd, k2, e2⟩ := bi (show (setTg (.name j) d2 ρc >>= fun ρ => setTg.setTgs [] [] ρ) = some ρ' from e2)
    cases e2
    obtain ⟨h1, rfl⟩ := setName k1
    obtain ⟨h2, rfl⟩ := setName k2
    obtain ⟨r1, t1⟩ := rel_set p2.rel (okSlot_lt h1).1 q1
    obtain ⟨r2, t2⟩ := rel_set r1 (okSlot_lt h2).1 q2
    exact ⟨v1, v2, rfl, fin _ H1 B2 (((fi.pst p2).tgp r1 t1).tgp r2 t2) p2.stp.keeps⟩
  | [d1, d2], [], dq, _ => cases dq
  | [d1, d2], [v1], dq, _ => cases dq with | cons _ dq => cases dq
  | [d1, d2], v1 :: v2 :: v3 :: _, dq, _ => cases dq with | cons _ dq => cases dq with | cons _ dq => cases dq
  | [], _, _, e2 => cases e2
  | [d], _, _, e2 =>
    obtain ⟨ρc, k1, e2⟩ := bi (show (setTg (.name i) d ρ1 >>= fun ρ => setTg.setTgs [.name j] [] ρ) = some ρ' from e2)
    cases e2
  | d1 :: d2 :: d3 :: ds, _, _, e2 =>
    obtain ⟨ρc, k1, e2⟩ := bi (show (setTg (.name i) d1 ρ1 >>= fun ρ => setTg.setTgs [.name j] (d2 :: d3 :: ds) ρ) = some ρ' from e2)
    obtain ⟨ρd, k2, e2⟩ := bi (show (setTg (.name j) d2 ρc >>= fun ρ => setTg.setTgs [] (d3 :: ds) ρ) = some ρ' from e2)
    cases e2
theorem setTgs_inv {ts : List Tg} {ds : List D} {t : Tg} {ρ ρ' : Env} (e : setTg.setTgs (t :: ts) ds ρ = some ρ') : ∃ d ds' ρ1, ds = d :: ds' ∧ setTg t d ρ = some ρ1 ∧ setTg.setTgs ts ds' ρ1 = some ρ' := by
  cases ds with
  | nil => cases t <;> cases e
  | cons d ds =>
    obtain ⟨ρc, k1, e2⟩ := bi (show (setTg t d ρ >>= fun ρ => setTg.setTgs ts ds ρ) = some ρ' from e)
    exact ⟨d, ds, ρc, rfl, k1, e2⟩
theorem setTgs_nil {ds : List D} {ρ ρ' : Env} (e : setTg.setTgs [] ds ρ = some ρ') : ds = [] ∧ ρ' = ρ := by
  cases ds with
  | nil => cases e; exact ⟨rfl, rfl⟩
  | cons => cases e
theorem par3_rd : ∀ D σ H, tS K w (asgV (.tup [.name i, .name j, .name l]) (tupV vs)) D σ H → tPar3 i j l (tAs K w vs) D σ H := fun D σ H ⟨H0, B0, L, B, ρ, fl, ρ', fi, e, fin⟩ => by
  obtain ⟨⟨r, ρ1⟩, e1, e⟩ := bi e
  obtain ⟨ρ2, e2, e⟩ := bi e
  cases e
  obtain ⟨⟨rs, ρa⟩, e3, e1⟩ := bi e1
  obtain ⟨⟨ds, ρb⟩, e4, e1⟩ := bi e1
  obtain ⟨hl, e1⟩ := ifs e1
  cases e1
  refine ⟨B, ρ, rs, ρa, fi.rel, e3, fun xs H1 B1 p rr => ?_⟩
  obtain ⟨B2, p2, dq, _⟩ := frzAll_pst fi.rel p rr e4
  have e2 : setTg.setTgs [.name i, .name j, .name l] ds ρ1 = some ρ' := e2
  obtain ⟨d1, ds, ρc, rfl, k1, e2⟩ := setTgs_inv e2
  obtain ⟨d2, ds, ρd, rfl, k2, e2⟩ := setTgs_inv e2
  obtain ⟨d3, ds, ρe, rfl, k3, e2⟩ := setTgs_inv e2
  obtain ⟨rfl, rfl⟩ := setTgs_nil e2
  cases dq with
  | cons q1 dq =>
  cases dq with
  | cons q2 dq =>
  cases dq with
  | cons q3 dq =>
  cases dq
  obtain ⟨h1, rfl⟩ := setName k1
  obtain ⟨h2, rfl⟩ := setName k2
  obtain ⟨h3, rfl⟩ := setName k3
  obtain ⟨r1, t1⟩ := rel_set p2.rel (okSlot_lt h1).1 q1
  obtain ⟨r2, t2⟩ := rel_set r1 (okSlot_lt h2).1 q2
  obtain ⟨r3, t3⟩ := rel_set r2 (okSlot_lt h3).1 q3
  exact ⟨_, _, _, rfl, fin _ H1 B2 ((((fi.pst p2).tgp r1 t1).tgp r2 t2).tgp r3 t3) p2.stp.keeps⟩
end
end

section
variable {P : Prm} {T : Nat → Option (List Bool)} {F : Nat → List Arg → Option (R × List D)} {X : Cx} {sc : Scope} {e : Expr} {x : Str} {pos px : Pos}
theorem notB {b : Bool} (h : (!b) = true) : b = false := by simpa using h
theorem asgLc_ok (O : XOk P T F sc X) {i : Nat} {m : E} (h1 : slotC P i x = true) (h2 : lcSet sc x px e = true) (h3 : chkE P m sc e = true) : PS X (.Assign [.Name x px] e pos) (tS X.K X.w (asgV (.name i) (sem T F m).v)) := by
  unfold lcSet at h2
  split at h2
  · rename_i elt' gs scope lpos
    simp only [Bool.and_eq_true] at h2
    obtain ⟨⟨g1, g2⟩, g3⟩ := h2
    have hx := O.hsc ▸ of_decide_eq_true g1
    cases m with
    | lc elt t it cond own =>
      unfold chkE at h3
      split at h3
      · rename_i elt2 tg iter ifs a scope2 pos2 heq
        cases heq
        simp only [Bool.and_eq_true] at h3
        obtain ⟨⟨⟨⟨⟨⟨⟨k1, k2⟩, k3⟩, k4⟩, k5⟩, k6⟩, k7⟩, k8⟩ := h3
        cases eq_of_beq k1
        have q := ps_asgLc (spos := pos) (i := i) (y := x) (py := px) (pos := lpos) O.calm (O.hN ▸ O.nd) (O.slot h1) hx (sw_true (O.hsc ▸ O.kind) hx g2 (notB g3)) (chkI_ok O k6) (O.blkOk k3) (fun s H C cl fp => chkT_ok (O.blk k3 s H C cl fp) (fun _ z => z) k5)
          (fun s H C cl fp => chkC_ok (O.blk k3 s H C cl fp) k7) (fun s H C cl fp => (chkE_ok (O.blk k3 s H C cl fp) k8).pb) (by rw [ownP_snd]; exact mem_all k4) (hs_of k2)
        rw [ownP_snd] at q
        exact q
      · cases h3
    | _ =>
      unfold chkE at h3
      first
        | (cases h3; done)
        | (split at h3 <;> first | (cases h3; done) | (rename_i heq; cases heq; done) | (rename_i heq _; cases heq; done) | contradiction)
  · cases h2
theorem assignEach1 {t : Expr} {env : PySem.Env} (h : nst t = true) : (assignEach [t] env).map (·.2) = [assign t env] := by
  cases t <;> first | rfl | cases h
theorem par_ok (O : XOk P T F sc X) {i j k k2 : Nat} {es : List E} {ts vs : List Expr} {pt p2 : Pos} (h : parC P sc i j ts vs = true) (ha : PA X vs (tAs X.K X.w (semL T F es))) : PS X (.Assign [.Tuple ts k pt] (.Tuple vs k2 p2) pos) (tS X.K X.w (asgV (.tup [.name i, .name j]) (tupV (semL T F es)))) := by
  unfold parC at h
  split at h
  · simp only [Bool.and_eq_true] at h
    obtain ⟨⟨⟨⟨⟨⟨⟨⟨⟨⟨h1, h2⟩, h3⟩, h4⟩, h5⟩, h6⟩, h7⟩, h8⟩, h9⟩, h10⟩, h11⟩ := h
    have hx := O.hsc ▸ of_decide_eq_true h4
    have hy := O.hsc ▸ of_decide_eq_true h5
    exact PS.imp (ps_par O.calm (O.hN ▸ O.nd) (O.slot h2) (O.slot h3) (of_decide_eq_true h1) hx hy ha (ss_some (O.hsc ▸ O.kind) hx hy h6 (notB h7) (notB h8) (notB h9) h10 h11)) par_rd
  · cases h
theorem par3_ok (O : XOk P T F sc X) {i j l k k2 : Nat} {es : List E} {ts vs : List Expr} {pt p2 : Pos} (h : par3C P sc i j l ts vs = true) (ha : PA X vs (tAs X.K X.w (semL T F es))) : PS X (.Assign [.Tuple ts k pt] (.Tuple vs k2 p2) pos) (tS X.K X.w (asgV (.tup [.name i, .name j, .name l]) (tupV (semL T F es)))) := by
  unfold par3C at h
  split at h
  · simp only [Bool.and_eq_true] at h
    obtain ⟨⟨⟨⟨⟨⟨⟨⟨⟨⟨⟨⟨⟨⟨⟨⟨⟨⟨h1, h2⟩, h3⟩, h4⟩, h5⟩, h6⟩, h7⟩, h8⟩, h9⟩, h10⟩, h11⟩, h12⟩, h13⟩, h14⟩, h15⟩, h16⟩, h17⟩, h18⟩, h19⟩ := h
    have hx := O.hsc ▸ of_decide_eq_true h7
    have hy := O.hsc ▸ of_decide_eq_true h8
    have hz := O.hsc ▸ of_decide_eq_true h9
    exact PS.imp (ps_par3 O.calm (O.hN ▸ O.nd) (O.slot h4) (O.slot h5) (O.slot h6) (of_decide_eq_true h1) (of_decide_eq_true h2) (of_decide_eq_true h3) hx hy hz ha (ss_some3 (O.hsc ▸ O.kind) hx hy hz h10 h11 (notB h12) (notB h13) (notB h14) (notB h15) (notB h16) h17 h18 h19)) par3_rd
  · cases h
theorem asgT_ok (O : XOk P T F sc X) (hfn : ∀ x, X.fn x = true) {ts : List Tg} {m : E} {es : List Expr} {k : Nat} {pt : Pos} (h1 : notComp e = true) (h2 : chkE P m sc e = true) (h3 : (notTup e || decide (4 ≤ es.length)) = true) (h4 : chkTs P ts fnT sc es = true) :
    PS X (.Assign [.Tuple es k pt] e pos) (tS X.K X.w (asgV (.tup ts) (sem T F m).v)) := by
  have hg : PG X (.Tuple es k pt) (tGd X.K X.w (.tup ts)) := by
    refine chkT_ok (P := P) (fn := fnT) O (fun x _ => hfn x) ?_
    unfold chkT
    exact h4
  refine ps_asgT (chkE_ok O h2).pb hg (by unfold swapsWithSole; exact sw_false h1) ?_ rfl
  rcases Bool.or_eq_true _ _ ▸ h3 with k | k
  · exact ss_not k
  · cases e <;> first | rfl | exact ss_none (of_decide_eq_true k)
theorem tupE {m : E} {vs : List Expr} {k : Nat} {p : Pos} (h : chkE P m sc (.Tuple vs k p) = true) : ∃ es, m = .tup es ∧ chkL P es sc vs = true := by
  cases m with
  | tup es =>
    unfold chkE at h
    exact ⟨es, rfl, h⟩
  | _ =>
    unfold chkE at h
    first
      | (cases h; done)
      | (split at h <;> first | (cases h; done) | (rename_i heq; cases heq; done) | (rename_i heq _; cases heq; done) | contradiction)

mutual
theorem chkS_ok (O : XOk P T F sc X) (hfn : ∀ x, X.fn x = true) (hxe : X.xe = fun _ _ => False) : ∀ {m : S} {st : Stmt}, chkS P m sc st = true → PS X st (tS X.K X.w (run T F m))
  | .asg t m, st, h => by
    unfold chkS at h
    split at h
    · rename_i tg e pos
      split at h
      · rename_i i x px
        simp only [Bool.and_eq_true] at h
        obtain ⟨⟨⟨h1, h2⟩, h3⟩, h4⟩ := h
        rcases Bool.or_eq_true _ _ ▸ h3 with k | k
        · exact ps_asgN (O.hN ▸ O.nd) (O.slot h1) (O.loc h2) (chkE_ok O h4).pb (sw_false k) (.inl (hfn x))
        · exact asgLc_ok O h1 k h4
      · rename_i ts es kk pt
        simp only [Bool.and_eq_true] at h
        obtain ⟨⟨h1, h2⟩, h3⟩ := h
        rcases Bool.or_eq_true _ _ ▸ h3 with k | k
        · rw [Bool.and_eq_true] at k
          exact asgT_ok O hfn h1 h2 k.1 k.2
        · split at k
          · obtain ⟨es', rfl, q⟩ := tupE h2
            exact par_ok O k (chkL_ok O q).1
          · obtain ⟨es', rfl, q⟩ := tupE h2
            exact par3_ok O k (chkL_ok O q).1
          · cases k
      · cases h
    · cases h
  | .sub i mx m, st, h => by
    unfold chkS at h
    split at h
    · simp only [Bool.and_eq_true] at h
      obtain ⟨⟨⟨⟨⟨h1, h2⟩, h3⟩, h4⟩, h5⟩, h6⟩ := h
      have v := O.vis h2
      refine ps_subD (O.slot h1) v.1 v.2.1 v.2.2 (chkE_ok O h5).pb (chkE_ok O h6).pb (fun v => ?_) (by unfold swapsWithSole; exact sw_false h4) (by rfl) rfl
      rename_i a _ _ _ _
      cases a <;> first | rfl | cases h3
    · cases h
  | .inc i m, st, h => by
    unfold chkS at h
    split at h
    · simp only [Bool.and_eq_true] at h
      exact ps_inc (O.hN ▸ O.nd) (O.slot h.1.1) (O.loc h.1.2) (chkE_ok O h.2).pb (.inl (hfn _))
    · cases h
  | .expr m, st, h => by
    unfold chkS at h
    split at h
    · simp only [Bool.and_eq_true] at h
      exact ps_exprD (chkE_ok O h.2).pb (sw_false h.1)
    · cases h
  | .ret m, st, h => by
    unfold chkS at h
    split at h
    · exact ps_retD (chkE_ok O h).pb
    · split at h
      · exact ps_retN0
      · cases h
    · cases h
  | .ite c a b, st, h => by
    unfold chkS at h
    split at h
    · simp only [Bool.and_eq_true] at h
      exact ps_iteD (chkE_ok O h.1.1).pb (chkSs_ok O hfn hxe h.1.2) (chkSs_ok O hfn hxe h.2)
    · cases h
  | .whil c b, st, h => by
    unfold chkS at h
    split at h
    · simp only [Bool.and_eq_true] at h
      exact ps_whlD (by rw [hxe]; exact .never) (chkE_ok O h.1).pb (chkSs_ok O hfn hxe h.2)
    · cases h
  | .for t it b, st, h => by
    unfold chkS at h
    split at h
    · simp only [Bool.and_eq_true] at h
      obtain ⟨⟨⟨h1, h2⟩, h3⟩, h4⟩ := h
      exact ps_forD (by rw [hxe]; exact .never) O.calm (chkI_ok O h3) (chkT_ok O (fun x _ => hfn x) h2) (chkSs_ok O hfn hxe h4) (hs_of h1)
    · cases h
  | .pass, st, h => by
    unfold chkS at h
    split at h
    · exact ps_passD
    · cases h
  | .brk, st, h => by
    unfold chkS at h
    split at h
    · exact ps_brkD
    · cases h
  | .cont, st, h => by
    unfold chkS at h
    split at h
    · exact ps_contD
    · cases h
theorem chkSs_ok (O : XOk P T F sc X) (hfn : ∀ x, X.fn x = true) (hxe : X.xe = fun _ _ => False) : ∀ {ms : List S} {sts : List Stmt}, chkSs P ms sc sts = true → PSs X sts (tS X.K X.w (runs T F ms))
  | [], sts, h => by
    unfold chkSs at h
    cases sts with
    | nil => exact pbs_nil
    | cons => cases h
  | m :: ms, sts, h => by
    unfold chkSs at h
    split at h
    · rw [Bool.and_eq_true] at h
      exact pbs_cons (chkS_ok O hfn hxe h.1) (chkSs_ok O hfn hxe h.2)
    · cases h
end
end
end Mp

/-! MiniPy 17: what the top leaves: constants, defs, free names; the head's Hook. -/
namespace Mp
open PySem PySem.Spec L2

/-! ### constants -/
def vOf : Value → V
  | .none => .non
  | .bool b => .bl b
  | .int i _ => .int i
  | .str x _ => .str x
  | .ref a => .ref a
  | _ => .non
mutual
def vB (K : PySem.W.Frag) : D → Value → Bool
  | .none, u => match u with
    | .none => true
    | _ => false
  | .bool b, u => match u with
    | .bool c => b == c
    | _ => false
  | .int i, u => match u with
    | .int j _ => i == j
    | _ => false
  | .str x, u => match u with
    | .str y _ => x == y
    | _ => false
  | .tuple ds, u => match u with
    | .ref a => match K.lookup a with
      | some ⟨.type c, none, .seq its _, _⟩ => decide (c = "tuple") && decide (its.size ≤ sizeLine) && vBs K ds its.toList
      | _ => false
    | _ => false
  | .list ds, u => match u with
    | .ref a => match K.lookup a with
      | some ⟨.type c, none, .seq its _, sl⟩ => decide (c = "list") && sl.isEmpty && decide (its.size ≤ sizeLine) && vBs K ds its.toList
      | _ => false
    | _ => false
  | .dict _, _ => false
def vBs (K : PySem.W.Frag) : List D → List Value → Bool
  | [], us => us.isEmpty
  | d :: ds, us => match us with
    | u :: us => vB K d u && vBs K ds us
    | [] => false
end
section
variable {K : PySem.W.Frag} {w : World}
mutual
theorem vB_ok : ∀ {d : D} {u : Value}, vB K d u = true → RelV (vOf u) u ∧ ∀ H B, Dq K w H B (vOf u) d
  | .none, u, h => by
    unfold vB at h
    split at h
    · exact ⟨rfl, fun _ _ => .non⟩
    · cases h
  | .bool b, u, h => by
    unfold vB at h
    split at h
    · cases eq_of_beq h
      exact ⟨rfl, fun _ _ => .bl b⟩
    · cases h
  | .int i, u, h => by
    unfold vB at h
    split at h
    · cases eq_of_beq h
      exact ⟨⟨_, rfl⟩, fun _ _ => .int i⟩
    · cases h
  | .str x, u, h => by
    unfold vB at h
    split at h
    · cases eq_of_beq h
      exact ⟨⟨_, rfl⟩, fun _ _ => .str x⟩
    · cases h
  | .tuple ds, u, h => by
    unfold vB at h
    split at h
    · rename_i a
      refine ⟨rfl, fun H B => ?_⟩
      split at h
      · rename_i c its n sl q
        simp only [Bool.and_eq_true] at h
        obtain ⟨⟨h1, h2⟩, h3⟩ := h
        obtain ⟨h4, h5⟩ := vBs_ok h3
        exact .tupW ⟨_, its, n, q, congrArg Value.type (of_decide_eq_true h1), rfl, of_decide_eq_true h2, h4⟩ (h5 H B)
      · cases h
    · cases h
  | .list ds, u, h => by
    unfold vB at h
    split at h
    · rename_i a
      refine ⟨rfl, fun H B => ?_⟩
      split at h
      · rename_i c its n sl q
        simp only [Bool.and_eq_true] at h
        obtain ⟨⟨⟨h1, h0⟩, h2⟩, h3⟩ := h
        obtain ⟨h4, h5⟩ := vBs_ok h3
        have e1 : c = "list" := of_decide_eq_true h1
        have e2 : sl = #[] := Array.isEmpty_iff.mp h0
        subst e1 e2
        exact .lstW ⟨its.toList, n, q, by simpa using of_decide_eq_true h2, h4⟩ (h5 H B)
      · cases h
    · cases h
  | .dict _, u, h => by
    unfold vB at h
    cases h
theorem vBs_ok : ∀ {ds : List D} {us : List Value}, vBs K ds us = true → Vals (us.map vOf) us ∧ ∀ H B, Dqs K w H B (us.map vOf) ds
  | [], us, h => by
    unfold vBs at h
    cases us with
    | nil => exact ⟨.nil, fun _ _ => .nil⟩
    | cons => cases h
  | d :: ds, us, h => by
    unfold vBs at h
    split at h
    · rename_i u us
      rw [Bool.and_eq_true] at h
      obtain ⟨h1, h2⟩ := vB_ok h.1
      obtain ⟨h3, h4⟩ := vBs_ok h.2
      exact ⟨.cons h1 h3, fun H B => .cons (h2 H B) (h4 H B)⟩
    · cases h
end
end
def conB (K : PySem.W.Frag) (q : Str × D) : Bool := match PySem.W.nsIn K mainGlobals q.1 with
  | some (some u) => vB K q.2 u
  | _ => false
theorem conB_ok {K : PySem.W.Frag} {w : World} {h : Heap} {mg : Str → Option Value} (X : K.In h) (G : h.Ns mainGlobals mg) {x : Str} {d : D} (c : conB K (x, d) = true) : ConOk K w mg x d := by
  unfold conB at c
  split at c
  · rename_i u e
    have hm := PySem.W.mg_of X G e
    obtain ⟨h1, h2⟩ := vB_ok (w := w) c
    refine ⟨u, vOf u, hm, h1, h2, fun ds e1 => ?_, fun kvs e1 => ?_⟩
    · subst e1
      unfold vB at c
      split at c
      · rename_i a
        split at c
        · rename_i c' its n sl q
          simp only [Bool.and_eq_true] at c
          exact ⟨a, _, rfl, rfl, q, congrArg Value.type (of_decide_eq_true c.1.1), rfl⟩
        · cases c
      · cases c
    · subst e1
      unfold vB at c
      cases c
  · cases c
/-! a dict of the top: texts as keys, scalars as values -/
def scB : D → Value → Bool
  | .none, .none => true
  | .bool b, .bool c => b == c
  | .int i, .int j _ => i == j
  | .str x, .str y _ => x == y
  | _, _ => false
theorem scB_ok {d : D} {u : Value} (h : scB d u = true) : RelS d u := by
  unfold scB at h
  split at h
  · rfl
  · cases eq_of_beq h; rfl
  · cases eq_of_beq h; exact ⟨_, rfl⟩
  · cases eq_of_beq h; exact ⟨_, rfl⟩
  · cases h
def dD (kvs : List (Str × D)) : D := .dict (kvs.map fun q => (.str q.1, q.2))
def dicB (K : PySem.W.Frag) (q : Str × List (Str × D)) : Bool := decide (q.2.length ≤ 1000) && eqO' (PySem.W.nsIn K mainGlobals q.1) (He.ga K q.1) && q.2.all fun p => match PySem.W.nsIn K (He.ga K q.1) p.1 with
  | some (some u) => scB p.2 u
  | _ => false
where eqO' (o : Option (Option Value)) (a : Addr) : Bool := He.eqO o (some (some (.ref a)))
theorem eqv_str {x y : Str} : PyData.eqv (.str x) (.str y) = (x == y) := by simp [PyData.eqv]
theorem look_str {kvs : List (Str × D)} {x : Str} : lookD (kvs.map fun q => ((.str q.1 : D), q.2)) (.str x) = (kvs.find? fun q => q.1 == x).map (·.2) := by
  unfold lookD
  have e : ((fun kv : D × D => PyData.eqv kv.1 (.str x)) ∘ fun q : Str × D => ((.str q.1 : D), q.2)) = fun q => q.1 == x := funext fun q => eqv_str
  rw [List.find?_map, Option.map_map, e]
  rfl
theorem keysOf {P : Params} : ∀ {l : List DictEntry} {ks : List Str}, l.map He.keyOf = He.keysIn P ks → (l.length = ks.length) ∧ ∀ e ∈ l, ∃ k ∈ ks, ∃ t, e.key = .str k t
  | [], [], _ => ⟨rfl, fun e he => by cases he⟩
  | [], k :: ks, h => by cases h
  | e :: r, [], h => by cases h
  | e :: r, k :: ks, h => by
    have h1 : He.keyOf e :: r.map He.keyOf = some (k, PyData.keyHash P k) :: He.keysIn P ks := h
    injection h1 with h2 h3
    obtain ⟨h4, h5⟩ := keysOf h3
    refine ⟨by rw [List.length_cons, List.length_cons, h4], fun e' he => ?_⟩
    rcases List.mem_cons.mp he with rfl | he
    · unfold He.keyOf at h2
      split at h2
      · rename_i x t q
        obtain ⟨h6, _⟩ := Prod.mk.inj (Option.some.inj h2)
        exact ⟨k, List.mem_cons_self, t, by rw [q, h6]⟩
      · cases h2
    · obtain ⟨k', m, t, q⟩ := h5 e' he
      exact ⟨k', List.mem_cons_of_mem _ m, t, q⟩
theorem wd_of {K : PySem.W.Frag} {w : World} {q : Str × List (Str × D)} (h : dicB K q = true) (hk : He.dicW K (He.ga K q.1) = some (He.keysIn w.params (q.2.map (·.1)))) : WD K w (He.ga K q.1) (q.2.map fun p => (.str p.1, p.2)) := by
  unfold dicB at h
  simp only [Bool.and_eq_true] at h
  obtain ⟨⟨h1, h2⟩, h3⟩ := h
  obtain ⟨es, n, D⟩ := He.dicW_ok hk
  have low := D.low
  have at_ := D.at_
  have hm : es.toList.map He.keyOf = He.keysIn w.params (q.2.map (·.1)) := by
    unfold He.dicW at hk
    rw [at_] at hk
    simp only at hk
    split at hk
    · exact Option.some.inj hk
    · cases hk
  obtain ⟨k1, k2⟩ := keysOf hm
  refine ⟨⟨es, n, at_, D.lit, ?_⟩, low, ?_, fun x d e => ?_, fun x e => ?_⟩
  · rw [List.length_map] at k1 ⊢
    rw [← k1, Array.length_toList]
  · rw [List.length_map]
    exact Nat.le_trans (of_decide_eq_true h1) (by decide)
  · rw [look_str] at e
    obtain ⟨p, hp, rfl⟩ := Option.map_eq_some_iff.mp e
    have m := List.mem_of_find?_eq_some hp
    have hx := List.find?_some hp
    have := List.all_eq_true.mp h3 p m
    split at this
    · rename_i u hu
      exact ⟨u, by rw [← eq_of_beq hx]; exact hu, scB_ok this⟩
    · cases this
  · rw [look_str, Option.map_eq_none_iff, List.find?_eq_none] at e
    unfold PySem.W.nsIn
    rw [at_]
    have f1 : es.toList.find? (·.key.isStr x) = none := by
      rw [List.find?_eq_none]
      intro en he
      obtain ⟨k, mk, t, hq⟩ := k2 en he
      obtain ⟨p, mp, rfl⟩ := List.mem_map.mp mk
      have := e p mp
      rw [hq]
      simpa [Value.isStr] using this
    have f2 : es.toList.any (·.refKey) = false := by
      rw [List.any_eq_false]
      intro en he
      obtain ⟨k, mk, t, hq⟩ := k2 en he
      simp [DictEntry.refKey, hq]
    simp only [f1, f2]
    rfl
theorem dic_ok {K : PySem.W.Frag} {w : World} {h : Heap} {mg : Str → Option Value} (X : K.In h) (G : h.Ns mainGlobals mg) {q : Str × List (Str × D)} (c : dicB K q = true) (hk : He.dicW K (He.ga K q.1) = some (He.keysIn w.params (q.2.map (·.1)))) : ConOk K w mg q.1 (dD q.2) := by
  have W := wd_of c hk
  unfold dicB at c
  simp only [Bool.and_eq_true] at c
  have hm := PySem.W.mg_of X G (He.eqO_ok c.1.2)
  exact ⟨_, .ref (He.ga K q.1), hm, rfl, fun H B => .dicW W, fun ds e => (by cases e), fun kvs e => (by cases e; exact ⟨_, rfl, W⟩)⟩
end Mp

/-! MiniPy 18: the table of defs; the law's end. -/
namespace Mp
open PySem PySem.Spec L2

/-- a def: its name, its slots' names, its parameters, its term, its text -/
structure FDef where
  name : Str
  N : List Str
  ps : List Str
  m : MDef
  st : Stmt
def fnsOf (ds : List FDef) : List (Str × Nat) := ds.zipIdx.map fun p => (p.1.name, p.2)
def nodupB : List Str → Bool
  | [] => true
  | x :: xs => !(xs.contains x) && nodupB xs
theorem nodupB_ok : ∀ {l : List Str}, nodupB l = true → l.Nodup
  | [], _ => List.nodup_nil
  | x :: xs, h => by
    unfold nodupB at h
    rw [Bool.and_eq_true] at h
    refine List.nodup_cons.mpr ⟨fun m => ?_, nodupB_ok h.2⟩
    rw [List.contains_iff_mem.mpr m] at h
    exact absurd h.1 (by decide)
/-- the check of one def -/
def defC (fns : List (Str × Nat)) (cs : List (Str × D)) (d : FDef) : Bool :=
  decide ((defScope d.st).kind = .function) && !(defScope d.st).isCoroutine && !(defScope d.st).isGenerator && nodupB d.N && decide (d.N.take d.ps.length = d.ps) && (d.ps.all fun x => locC (defScope d.st) x) &&
    ((defScope d.st).names.all fun y => decide (y.2 ≠ .free)) && decide (d.m.slots = d.N.length) && decide (d.m.lent.length = d.ps.length) && chkSs ⟨d.N, fns, cs⟩ d.m.body (defScope d.st) (defBody d.st)
theorem defC_scope {fns : List (Str × Nat)} {cs : List (Str × D)} {d : FDef} (h : defC fns cs d = true) :
    FnScope d.N d.ps (defScope d.st) ∧ d.m.slots = d.N.length ∧ d.m.lent.length = d.ps.length ∧ chkSs ⟨d.N, fns, cs⟩ d.m.body (defScope d.st) (defBody d.st) = true := by
  unfold defC at h
  simp only [Bool.and_eq_true] at h
  obtain ⟨⟨⟨⟨⟨⟨⟨⟨⟨h1, h2⟩, h3⟩, h4⟩, h5⟩, h6⟩, h7⟩, h8⟩, h9⟩, h10⟩ := h
  refine ⟨⟨of_decide_eq_true h1, notB h2, notB h3, nodupB_ok h4, of_decide_eq_true h5, fun x hx => ?_, fun y hy => ?_⟩, of_decide_eq_true h8, of_decide_eq_true h9, h10⟩
  · have q := List.all_eq_true.mp h6 x hx
    unfold locC at q
    split at q <;> first | exact .inl (by assumption) | exact .inr (by assumption) | cases q
  · exact of_decide_eq_true (List.all_eq_true.mp h7 y hy)
/-- how its arguments bind -/
def BindD (d : FDef) : Prop := ∀ (kV doc pm : Value) (an : Option Addr) (cdv ct : Value) (us : List Value), us.length = d.ps.length →
  bindArgs (PySem.W.fnOf d.name d.name (defArgs d.st) (defBody d.st) (defScope d.st) .none kV doc pm an cdv ct) ⟨us, []⟩ = pure (d.ps.zip us)
abbrev FunOk (K : PySem.W.Frag) (d : FDef) (f : Addr) (fd : FuncData) : Prop := FunD K d.name d.name (defArgs d.st) (defBody d.st) (defScope d.st) [] [] f fd

/-- what the top leaves -/
structure TopOk (K : PySem.W.Frag) (w : World) (mg : Str → Option Value) (ds : List FDef) (cs : List (Str × D)) : Prop where
  fn : ∀ (i : Nat) (d : FDef), ds[i]? = some d → ∃ f fd, mg d.name = some (.ref f) ∧ FunOk K d f fd
  blt : ∀ x ∈ bltNames, mg x = none
  con : ∀ x d, cs.lookup x = some d → ConOk K w mg x d

theorem lookup_mem {α : Type} {x : Str} {a : α} : ∀ {l : List (Str × α)}, l.lookup x = some a → (x, a) ∈ l
  | [], h => by cases h
  | (y, b) :: r, h => by
    rw [List.lookup_cons] at h
    split at h
    · rename_i e
      cases h
      rw [eq_of_beq e]
      exact List.mem_cons_self
    · exact List.mem_cons_of_mem _ (lookup_mem h)
theorem fns_get {ds : List FDef} {x : Str} {i : Nat} (h : (fnsOf ds).lookup x = some i) : ∃ d, ds[i]? = some d ∧ d.name = x := by
  obtain ⟨p, hp, e⟩ := List.mem_map.mp (lookup_mem h)
  obtain ⟨d, j⟩ := p
  cases e
  exact ⟨d, List.mem_zipIdx_iff_getElem?.mp hp, rfl⟩
section
variable {P : Program} {w : World} {K : PySem.W.Frag} {mg : Str → Option Value} {ds : List FDef} {cs : List (Str × D)}
theorem tab_ok (t : TopOk K w mg ds cs) (hb : ∀ d ∈ ds, BindD d) (hc : ∀ d ∈ ds, defC (fnsOf ds) cs d = true) (base : Heap) : ∀ (k i : Nat) (d : FDef) (f : Addr) (fd : FuncData), ds[i]? = some d → mg d.name = some (.ref f) → FunOk K d f fd →
    FnOk P w K mg base CX0 (8 + k) f fd d.ps (spD K w d.m.lent.length (callD (ds.map (·.m)) k i))
  | 0, i, d, f, fd, hi, hm, F => ⟨fun vs H Q E h => by
      obtain ⟨_, B, as, r, os, _, _, e, _⟩ := h
      exact absurd e (fun z => nomatch z), fun A outer s H args us vs Q E hr he hbd hv h => by
      obtain ⟨_, B, as, r, os, _, _, e, _⟩ := h
      exact absurd e (fun z => nomatch z)⟩
  | k + 1, i, d, f, fd, hi, hm, F => by
    have md := List.mem_of_getElem? hi
    obtain ⟨S, h1, h2, h3⟩ := defC_scope (hc d md)
    have hT : callD (ds.map (·.m)) (k + 1) i = runDef (lentOf (ds.map (·.m))) (callD (ds.map (·.m)) k) d.m := funext fun as => by
      have e : (ds.map (·.m))[i]? = some d.m := by rw [List.getElem?_map, hi]; rfl
      unfold callD
      rw [e]
    rw [hT]
    refine FunD.ok (k := 8 + k) F S (fun vs H Q E h => by rw [h.1, h2]) fun cdv A outer s H vs Q E hr hsp => ?_
    have O : XOk ⟨d.N, fnsOf ds, cs⟩ (lentOf (ds.map (·.m))) (callD (ds.map (·.m)) k) (defScope d.st) (cxOf CX0 P w K mg base d.N d.name (defScope d.st) f cdv A outer s H E).nox := by
      refine ⟨rfl, S.nd, rfl, S.kind, rfl, ?_, t.blt, t.con, fun x j hj => ?_⟩
      · have := hr.un
        show (A.deeper _).units + 300 < cLine
        omega
      · obtain ⟨d', hd', rfl⟩ := fns_get hj
        obtain ⟨f', fd', hm', F'⟩ := t.fn j d' hd'
        have md' := List.mem_of_getElem? hd'
        refine ⟨f', fd', d'.ps, 8 + k, d'.m.lent, ?_, hm', F'.kp, FunD.bindsN F' (hb d' md'), hr, tab_ok t hb hc base k j d' f' fd' hd' hm' F'⟩
        unfold lentOf
        rw [List.getElem?_map, hd']
        rfl
    exact ⟨_, PSs.nox (chkSs_ok O (fun _ => rfl) rfl h3), body_rd (E := E) h1 hsp⟩
end

/-! ### the law's end -/
theorem dqs_ints_mk {K : PySem.W.Frag} {w : World} {H : Hp} {B : Own} : ∀ ns : List Int, Dqs K w H B (ns.map V.int) (ns.map fun i => (.int i : D))
  | [] => .nil
  | i :: ns => .cons (.int i) (dqs_ints_mk ns)
theorem walk_ofM {l : PySem.W.OpenLaw} {k i : Nat} {q : Program} {loose : List Str} {XP : (Str → Option Value) → Heap → Prop} {YP : World → Heap → Prop} {d : DefRec} {x : Str} {ds : List FDef} {cs : List (Str × D)} {fdef : FDef}
    (hn : l.most = some 63) (hdf : d.params.defaults = []) (hr : Room (8 + k) callerA) (hi : ds[i]? = some fdef) (hname : fdef.name = d.name) (hps : fdef.ps = [x])
    (hb : ∀ d ∈ ds, BindD d) (hc : ∀ d ∈ ds, defC (fnsOf ds) cs d = true) (hl : fdef.m.lent.length = 1)
    (F : ∀ (w : World) (h : Heap) (mg : Str → Option Value), YP w h → h.Ns mainGlobals mg → ∃ K : PySem.W.Frag, K.In h ∧ TopOk K w mg ds cs)
    (law : ∀ ns : List Int, ns.length ≤ 63 → callD (ds.map (·.m)) k i [.shr (.list (ns.map fun i => (.int i : D)))] = some (.dat (.bool true), [])) :
    PySem.W.WalkO q loose XP YP l.row.toRowW d [] (fun f vs => PySem.call f vs) := by
  refine Att.attach_call hn hdf fun w s₀ s₁ mg mb fa o pm cd doc a vs ns G Y ho hd hcd hmg hobj hints hlen hg => ?_
  obtain ⟨K, KX, t⟩ := F w s₁.heap mg Y G.T.g
  obtain ⟨f, fd, hf, Fd⟩ := t.fn i fdef hi
  have e : f = fa := by
    rw [hname, hmg] at hf
    cases hf
    rfl
  subst e
  have md := List.mem_of_getElem? hi
  have FF : ∀ base : Heap, FnOk l.prog w K mg base CX0 (8 + k) f fd [x] (spD K w fdef.m.lent.length (callD (ds.map (·.m)) k i)) := fun base => by
    have := tab_ok (P := l.prog) t hb hc base k i fdef f fd hi hf Fd
    rw [hps] at this
    exact this
  refine law_call KX G.T.g G.T.b G.T.builtins G.T.nolimit hg hobj hints (Nat.le_trans hlen (by decide)) hr (fun base _ _ => FF base) (fun s u => ?_) (fun H hO hS => ?_) fun H e s' h => h.elim
  · have hb1 := FunD.bindsA (ps := fdef.ps) Fd (hb fdef md) s [u] (by rw [hps]; rfl)
    rw [hps] at hb1
    exact hb1
  · refine ⟨hl.symm, fun _ => False, [.shr (.list (ns.map fun i => (.int i : D)))], .dat (.bool true), [], .shr ?_ .nil, List.nodup_nil, law ns hlen, fun v H' B' st ou rr => ?_⟩
    · rcases hS with h | ⟨o', its, n, h1, h2, h3, h4, h5, h6⟩
      · exact .lst h (fun z => z) (dqs_ints_mk ns)
      · have e1 := KX _ _ h1
        rw [hobj] at e1
        cases e1
        cases h4
        refine .lstW ⟨vs, _, h1, ?_, ?_⟩ (dqs_ints_mk ns)
        · simpa using h5
        · simpa using h6
    · have rr' : Dq K w H' B' v (.bool true) := rr
      cases rr'
      rfl
end Mp

/-! MiniPy 19: the head's Hook. -/
namespace Mp
open PySem PySem.Spec L2
def defD (d : FDef) : He.DefD := ⟨(d.name, none), d.name, d.name, defArgs d.st, defBody d.st, defScope d.st, [], []⟩
structure Tp where
  ds : List FDef
  cons : List (Str × D)
  dics : List (Str × List (Str × D))
def Tp.cs (t : Tp) : List (Str × D) := t.cons ++ t.dics.map fun q => (q.1, dD q.2)
abbrev AlM : Type := (Bool × List He.FnW) × List (Option (List (Option (Str × Int))))
def obsM (t : Tp) (K : PySem.W.Frag) : AlM :=
  (((bltNames.all fun x => (He.Fa.free x).ok K) && (t.cons.all (conB K) && (t.dics.all (dicB K) && t.ds.all fun d => (He.Fa.glo d.name).ok K && (defD d).ok K)), t.ds.map fun d => He.fnW K (d.name, none)), t.dics.map fun q => He.dicW K (He.ga K q.1))
def valM (t : Tp) (w : World) : AlM := ((true, t.ds.map fun d => (defD d).val), t.dics.map fun q => some (He.keysIn w.params (q.2.map (·.1))))
def obsMG (n : Nat) (t : Tp) (g : Addr → Option Obj) : AlM := obsM t (He.frG g (He.asD g n))
def hookM (n : Nat) (t : Tp) : PySem.W.Hook where
  α := AlM
  obs := fun s => obsMG n t s.heap.get?
  val := fun w => valM t w
  says := fun w h => ∃ K : PySem.W.Frag, K.In h ∧ obsM t K = valM t w
  of := fun _ _ e => ⟨_, He.frG_in, e⟩
  keeps := fun _ _ _ ⟨K, hK, c⟩ k => ⟨K, PySem.W.Frag.In.keeps hK k, c⟩
theorem obsMG_eq {n : Nat} {t : Tp} {g : Addr → Option Obj} {s : Shared} (h : ∀ a, g a = s.heap.get? a) : obsMG n t g = (hookM n t).obs s := by
  have e : g = s.heap.get? := funext h
  rw [e] <;> rfl
theorem top_of {t : Tp} {w : World} {h : Heap} {mg : Str → Option Value} {K : PySem.W.Frag} (X : K.In h) (G : h.Ns mainGlobals mg) (c : obsM t K = valM t w) : TopOk K w mg t.ds t.cs := by
  have c1 := congrArg (fun z : AlM => z.1.1) c
  have c2 := congrArg (fun z : AlM => z.1.2) c
  have c3 := congrArg (fun z : AlM => z.2) c
  change ((bltNames.all fun x => (He.Fa.free x).ok K) && (t.cons.all (conB K) && (t.dics.all (dicB K) && t.ds.all fun d => (He.Fa.glo d.name).ok K && (defD d).ok K))) = true at c1
  change (t.ds.map fun d => He.fnW K (d.name, none)) = t.ds.map fun d => (defD d).val at c2
  change (t.dics.map fun q => He.dicW K (He.ga K q.1)) = t.dics.map fun q => some (He.keysIn w.params (q.2.map (·.1))) at c3
  simp only [Bool.and_eq_true] at c1
  obtain ⟨h1, h2, h3, h4⟩ := c1
  refine ⟨fun i d hi => ?_, fun x hx => He.free_ok X G (List.all_eq_true.mp h1 x hx), fun x d hx => ?_⟩
  · have q := List.all_eq_true.mp h4 d (List.mem_of_getElem? hi)
    rw [Bool.and_eq_true] at q
    have e : ((t.ds.map fun d => He.fnW K (d.name, none)))[i]? = (t.ds.map fun d => (defD d).val)[i]? := by rw [c2]
    rw [List.getElem?_map, List.getElem?_map, hi] at e
    obtain ⟨fd, F⟩ := He.DefD.funD (d := defD d) (Option.some.inj e) q.2
    exact ⟨_, fd, He.glo_ok X G q.1, F⟩
  · rcases List.mem_append.mp (lookup_mem hx) with m | m
    · exact conB_ok X G (List.all_eq_true.mp h2 _ m)
    · obtain ⟨q, mq, e⟩ := List.mem_map.mp m
      cases e
      refine dic_ok X G (List.all_eq_true.mp h3 _ mq) ?_
      obtain ⟨i, hi⟩ := List.getElem?_of_mem mq
      have e : ((t.dics.map fun q => He.dicW K (He.ga K q.1)))[i]? = (t.dics.map fun q => some (He.keysIn w.params (q.2.map (·.1))))[i]? := by rw [c3]
      rw [List.getElem?_map, List.getElem?_map, hi] at e
      exact Option.some.inj e
inductive AllP {α : Type} (p : α → Prop) : List α → Prop
  | nil : AllP p []
  | cons {x : α} {xs : List α} : p x → AllP p xs → AllP p (x :: xs)
theorem AllP.all {α : Type} {p : α → Prop} {l : List α} (h : AllP p l) : ∀ x ∈ l, p x := by
  induction h with
  | nil => intro x hx; cases hx
  | cons h1 _ ih =>
    intro x hx
    rcases List.mem_cons.mp hx with rfl | hx
    · exact h1
    · exact ih x hx
theorem allB {α : Type} {f : α → Bool} {l : List α} (h : l.all f = true) : ∀ x ∈ l, f x = true := List.all_eq_true.mp h
end Mp

/-! MiniPy 20: what is asked of a term so that its meaning is there and has a property: rules for walks over values. -/
namespace Mp
open PySem

section
variable {T : Nat → Option (List Bool)} {F : Nat → List Arg → Option (R × List D)} {ρ ρ1 ρ2 : Env}
structure EV (T : Nat → Option (List Bool)) (F : Nat → List Arg → Option (R × List D)) (e : E) (ρ : Env) (Q : R → Env → Prop) : Prop where
  ex : ∃ r ρ', (sem T F e).v ρ = some (r, ρ') ∧ Q r ρ'
structure ET (T : Nat → Option (List Bool)) (F : Nat → List Arg → Option (R × List D)) (e : E) (ρ : Env) (Q : Bool → Env → Prop) : Prop where
  ex : ∃ r ρ', (sem T F e).t ρ = some (r, ρ') ∧ Q r ρ'
structure EL (T : Nat → Option (List Bool)) (F : Nat → List Arg → Option (R × List D)) (es : List E) (ρ : Env) (Q : List R → Env → Prop) : Prop where
  ex : ∃ r ρ', semL T F es ρ = some (r, ρ') ∧ Q r ρ'
structure EO (T : Nat → Option (List Bool)) (F : Nat → List Arg → Option (R × List D)) (e : Option E) (ρ : Env) (Q : Option Int → Env → Prop) : Prop where
  ex : ∃ r ρ', semO T F e ρ = some (r, ρ') ∧ Q r ρ'
structure EC (T : Nat → Option (List Bool)) (F : Nat → List Arg → Option (R × List D)) (e : Option E) (ρ : Env) (Q : Bool → Env → Prop) : Prop where
  ex : ∃ r ρ', semC T F e ρ = some (r, ρ') ∧ Q r ρ'
structure EI (T : Nat → Option (List Bool)) (F : Nat → List Arg → Option (R × List D)) (it : It) (ρ : Env) (Q : List D → Env → Prop) : Prop where
  ex : ∃ r ρ', semI T F it ρ = some (r, ρ') ∧ Q r ρ'
structure ES (T : Nat → Option (List Bool)) (F : Nat → List Arg → Option (R × List D)) (s : S) (ρ : Env) (Q : Fl → Env → Prop) : Prop where
  ex : ∃ r ρ', run T F s ρ = some (r, ρ') ∧ Q r ρ'
structure EB (T : Nat → Option (List Bool)) (F : Nat → List Arg → Option (R × List D)) (ss : List S) (ρ : Env) (Q : Fl → Env → Prop) : Prop where
  ex : ∃ r ρ', runs T F ss ρ = some (r, ρ') ∧ Q r ρ'
structure CL (F : Nat → List Arg → Option (R × List D)) (f : Nat) (as : List Arg) (Q : R → List D → Prop) : Prop where
  ex : ∃ r os, F f as = some (r, os) ∧ Q r os
structure BR (k : Bool) (A B : Prop) : Prop where
  ex : if k = true then A else B
theorem br_t {k : Bool} {A B : Prop} (h : k = true) (a : A) : BR k A B := by refine ⟨?_⟩; rw [if_pos h]; exact a
theorem br_f {k : Bool} {A B : Prop} (h : k = false) (b : B) : BR k A B := by refine ⟨?_⟩; rw [if_neg (by rw [h]; decide)]; exact b
theorem br_s {k : Bool} {A B : Prop} (a : k = true → A) (b : k = false → B) : BR k A B := by cases k; exact br_f rfl (b rfl); exact br_t rfl (a rfl)
theorem cl_of {f : Nat} {as : List Arg} {r : R} {os : List D} {Q : R → List D → Prop} (h : F f as = some (r, os)) (q : Q r os) : CL F f as Q := ⟨r, os, h, q⟩
theorem CL.imp {f : Nat} {as : List Arg} {Q Q' : R → List D → Prop} (h : CL F f as Q) (i : ∀ r os, Q r os → Q' r os) : CL F f as Q' := by
  obtain ⟨r, os, e, q⟩ := h
  exact ⟨r, os, e, i _ _ q⟩
theorem le_sz {n : Nat} (h : Nat.ble n sizeLine = true) : n ≤ sizeLine := Nat.le_of_ble_eq_true h

variable {a b c e : E} {es : List E} {Q : R → Env → Prop} {QT : Bool → Env → Prop} {d : D} {i : Nat}
theorem ev_cst (q : Q (.dat d) ρ) : EV T F (.cst d) ρ Q := ⟨_, _, rfl, q⟩
theorem ev_shr (h : Env.at ρ i = some (.shr d)) (q : Q (.dat d) ρ) : EV T F (.var i) ρ Q := ⟨.dat d, ρ, by show (match Env.at ρ i with | some (.shr d) => _ | some (.own _ _) => _ | none => _) = _; rw [h], q⟩
theorem ev_own {l : Bool} (h : Env.at ρ i = some (.own l d)) (q : Q (.bor i) ρ) : EV T F (.var i) ρ Q := ⟨.bor i, ρ, by show (match Env.at ρ i with | some (.shr d) => _ | some (.own _ _) => _ | none => _) = _; rw [h], q⟩
theorem ev_bin {op : Op} (h : EV T F a ρ fun x ρ1 => EV T F b ρ1 fun y ρ2 => ∃ dx dy z, res ρ2 x = some dx ∧ res ρ2 y = some dy ∧ binD op dx dy = some z ∧ Q (mkR z) ρ2) : EV T F (.bin op a b) ρ Q := by
  obtain ⟨x, ρ1, e1, y, ρ2, e2, dx, dy, z, e3, e4, e5, q⟩ := h
  refine ⟨_, _, ?_, q⟩
  show ((sem T F a).v ρ >>= _) = _
  rw [e1]
  show ((sem T F b).v ρ1 >>= _) = _
  rw [e2]
  show (res ρ2 x >>= _) = _
  rw [e3]
  show (res ρ2 y >>= _) = _
  rw [e4]
  show (binD op dx dy >>= _) = _
  rw [e5]
  rfl
theorem ev_neg (h : EV T F a ρ fun x ρ1 => ∃ j, res ρ1 x = some (.int j) ∧ Q (.dat (.int (-j))) ρ1) : EV T F (.neg a) ρ Q := by
  obtain ⟨x, ρ1, e1, j, e3, q⟩ := h
  refine ⟨_, _, ?_, q⟩
  show ((sem T F a).v ρ >>= _) = _
  rw [e1]
  show (res ρ1 x >>= _) = _
  rw [e3]
  rfl
theorem ev_not (h : EV T F a ρ fun x ρ1 => ∃ d k, res ρ1 x = some d ∧ truD d = some k ∧ Q (.dat (.bool (!k))) ρ1) : EV T F (.not a) ρ Q := by
  obtain ⟨x, ρ1, e1, d, k, e2, e3, q⟩ := h
  refine ⟨_, _, ?_, q⟩
  show ((sem T F a).v ρ >>= _) = _
  rw [e1]
  show ((res ρ1 x).bind truD >>= _) = _
  rw [e2]
  show (truD d >>= _) = _
  rw [e3]
  rfl
theorem et_not (h : ET T F a ρ fun k ρ1 => QT (!k) ρ1) : ET T F (.not a) ρ QT := by
  obtain ⟨k, ρ1, e1, q⟩ := h
  refine ⟨_, _, ?_, q⟩
  show ((sem T F a).t ρ >>= _) = _
  rw [e1]
  rfl
theorem ev_and (h : EV T F a ρ fun x ρ1 => ∃ d k, res ρ1 x = some d ∧ truD d = some k ∧ BR k (EV T F b ρ1 Q) (Q x ρ1)) : EV T F (.and a b) ρ Q := by
  obtain ⟨x, ρ1, e1, d, k, e2, e3, q⟩ := h
  have e4 : (sem T F (.and a b)).v ρ = if k = true then (sem T F b).v ρ1 else some (x, ρ1) := by
    show ((sem T F a).v ρ >>= _) = _
    rw [e1]
    show ((res ρ1 x).bind truD >>= _) = _
    rw [e2]
    show (truD d >>= _) = _
    rw [e3]
    rfl
  cases k with
  | true =>
    obtain ⟨r, ρ', e5, q⟩ := q
    exact ⟨r, ρ', e4.trans e5, q⟩
  | false => exact ⟨x, ρ1, e4, q.ex⟩
theorem et_and (h : ET T F a ρ fun k ρ1 => BR k (ET T F b ρ1 QT) (QT false ρ1)) : ET T F (.and a b) ρ QT := by
  obtain ⟨k, ρ1, e1, q⟩ := h
  have e4 : (sem T F (.and a b)).t ρ = if k = true then (sem T F b).t ρ1 else some (false, ρ1) := by
    show ((sem T F a).t ρ >>= _) = _
    rw [e1]
    rfl
  cases k with
  | true =>
    obtain ⟨r, ρ', e5, q⟩ := q
    exact ⟨r, ρ', e4.trans e5, q⟩
  | false => exact ⟨_, ρ1, e4, q.ex⟩
theorem ev_or (h : EV T F a ρ fun x ρ1 => ∃ d k, res ρ1 x = some d ∧ truD d = some k ∧ BR k (Q x ρ1) (EV T F b ρ1 Q)) : EV T F (.or a b) ρ Q := by
  obtain ⟨x, ρ1, e1, d, k, e2, e3, q⟩ := h
  have e4 : (sem T F (.or a b)).v ρ = if k = true then some (x, ρ1) else (sem T F b).v ρ1 := by
    show ((sem T F a).v ρ >>= _) = _
    rw [e1]
    show ((res ρ1 x).bind truD >>= _) = _
    rw [e2]
    show (truD d >>= _) = _
    rw [e3]
    rfl
  cases k with
  | false =>
    obtain ⟨r, ρ', e5, q⟩ := q
    exact ⟨r, ρ', e4.trans e5, q⟩
  | true => exact ⟨x, ρ1, e4, q.ex⟩
theorem et_or (h : ET T F a ρ fun k ρ1 => BR k (QT true ρ1) (ET T F b ρ1 QT)) : ET T F (.or a b) ρ QT := by
  obtain ⟨k, ρ1, e1, q⟩ := h
  have e4 : (sem T F (.or a b)).t ρ = if k = true then some (true, ρ1) else (sem T F b).t ρ1 := by
    show ((sem T F a).t ρ >>= _) = _
    rw [e1]
    rfl
  cases k with
  | false =>
    obtain ⟨r, ρ', e5, q⟩ := q
    exact ⟨r, ρ', e4.trans e5, q⟩
  | true => exact ⟨_, ρ1, e4, q.ex⟩
theorem ev_ite (h : ET T F c ρ fun k ρ1 => BR k (EV T F a ρ1 Q) (EV T F b ρ1 Q)) : EV T F (.ite c a b) ρ Q := by
  obtain ⟨k, ρ1, e1, q⟩ := h
  have e4 : (sem T F (.ite c a b)).v ρ = if k = true then (sem T F a).v ρ1 else (sem T F b).v ρ1 := by
    show ((sem T F c).t ρ >>= _) = _
    rw [e1]
    rfl
  cases k <;>
  · obtain ⟨r, ρ', e5, q⟩ := q
    exact ⟨r, ρ', e4.trans e5, q⟩
theorem et_ite (h : ET T F c ρ fun k ρ1 => BR k (ET T F a ρ1 QT) (ET T F b ρ1 QT)) : ET T F (.ite c a b) ρ QT := by
  obtain ⟨k, ρ1, e1, q⟩ := h
  have e4 : (sem T F (.ite c a b)).t ρ = if k = true then (sem T F a).t ρ1 else (sem T F b).t ρ1 := by
    show ((sem T F c).t ρ >>= _) = _
    rw [e1]
    rfl
  cases k <;>
  · obtain ⟨r, ρ', e5, q⟩ := q
    exact ⟨r, ρ', e4.trans e5, q⟩
/-- a test by its value -/
theorem et_of (ht : (sem T F e).t = (ofV (sem T F e).v).t) (h : EV T F e ρ fun x ρ1 => ∃ d k, res ρ1 x = some d ∧ truD d = some k ∧ QT k ρ1) : ET T F e ρ QT := by
  obtain ⟨x, ρ1, e1, d, k, e2, e3, q⟩ := h
  refine ⟨_, _, ?_, q⟩
  rw [ht]
  show ((sem T F e).v ρ >>= _) = _
  rw [e1]
  show (res ρ1 x >>= _) = _
  rw [e2]
  show (truD d >>= _) = _
  rw [e3]
  rfl
theorem ev_cmp {op : Cmp} (h : EV T F a ρ fun x ρ1 => EV T F b ρ1 fun y ρ2 => ∃ dx dy k, res ρ2 x = some dx ∧ res ρ2 y = some dy ∧ cmpD op dx dy = some k ∧ Q (.dat (.bool k)) ρ2) : EV T F (.cmp op a b) ρ Q := by
  obtain ⟨x, ρ1, e1, y, ρ2, e2, dx, dy, z, e3, e4, e5, q⟩ := h
  refine ⟨_, _, ?_, q⟩
  show ((sem T F a).v ρ >>= _) = _
  rw [e1]
  show ((sem T F b).v ρ1 >>= _) = _
  rw [e2]
  show (res ρ2 x >>= _) = _
  rw [e3]
  show (res ρ2 y >>= _) = _
  rw [e4]
  show ((cmpD op dx dy).map _ >>= _) = _
  rw [e5]
  rfl
theorem et_cmp {op : Cmp} (h : EV T F a ρ fun x ρ1 => EV T F b ρ1 fun y ρ2 => ∃ dx dy k, res ρ2 x = some dx ∧ res ρ2 y = some dy ∧ cmpD op dx dy = some k ∧ QT k ρ2) : ET T F (.cmp op a b) ρ QT := by
  refine et_of rfl (ev_cmp ?_)
  obtain ⟨x, ρ1, e1, y, ρ2, e2, dx, dy, z, e3, e4, e5, q⟩ := h
  exact ⟨x, ρ1, e1, y, ρ2, e2, dx, dy, z, e3, e4, e5, _, _, rfl, rfl, q⟩
theorem ev_chain {op op' : Cmp} (h : EV T F a ρ fun x ρ1 => EV T F b ρ1 fun y ρ2 => ∃ dx dy k, res ρ2 x = some dx ∧ res ρ2 y = some dy ∧ cmpD op dx dy = some k ∧
    BR k (EV T F c ρ2 fun z ρ3 => ∃ dy dz k, res ρ3 y = some dy ∧ res ρ3 z = some dz ∧ cmpD op' dy dz = some k ∧ Q (.dat (.bool k)) ρ3) (Q (.dat (.bool false)) ρ2)) : EV T F (.chain op op' a b c) ρ Q := by
  obtain ⟨x, ρ1, e1, y, ρ2, e2, dx, dy, k, e3, e4, e5, q⟩ := h
  have e6 : (sem T F (.chain op op' a b c)).v ρ = if k = true then ((sem T F c).v ρ2 >>= fun p => res p.2 y >>= fun dy => res p.2 p.1 >>= fun dz => cmpD op' dy dz >>= fun k => some (.dat (.bool k), p.2)) else some (.dat (.bool false), ρ2) := by
    show ((sem T F a).v ρ >>= _) = _
    rw [e1]
    show ((sem T F b).v ρ1 >>= _) = _
    rw [e2]
    show (res ρ2 x >>= _) = _
    rw [e3]
    show (res ρ2 y >>= _) = _
    rw [e4]
    show (cmpD op dx dy >>= _) = _
    rw [e5]
    rfl
  cases k with
  | false => exact ⟨_, ρ2, e6, q.ex⟩
  | true =>
    obtain ⟨z, ρ3, f1, dy, dz, k, f2, f3, f4, q⟩ := q
    refine ⟨_, _, e6.trans ?_, q⟩
    show ((sem T F c).v ρ2 >>= _) = _
    rw [f1]
    show (res ρ3 y >>= _) = _
    rw [f2]
    show (res ρ3 z >>= _) = _
    rw [f3]
    show (cmpD op' dy dz >>= _) = _
    rw [f4]
    rfl
theorem el_nil {Q : List R → Env → Prop} (q : Q [] ρ) : EL T F [] ρ Q := ⟨_, _, rfl, q⟩
theorem el_cons {Q : List R → Env → Prop} (h : EV T F e ρ fun r ρ1 => EL T F es ρ1 fun rs ρ2 => Q (r :: rs) ρ2) : EL T F (e :: es) ρ Q := by
  obtain ⟨r, ρ1, e1, rs, ρ2, e2, q⟩ := h
  refine ⟨_, _, ?_, q⟩
  show ((sem T F e).v ρ >>= _) = _
  rw [e1]
  show (semL T F es ρ1 >>= _) = _
  rw [e2]
  rfl
theorem ev_tup (h : EL T F es ρ fun rs ρ1 => ∃ ds ρ2, frzAll rs ρ1 = some (ds, ρ2) ∧ Nat.ble ds.length sizeLine = true ∧ Q (.dat (.tuple ds)) ρ2) : EV T F (.tup es) ρ Q := by
  obtain ⟨rs, ρ1, e1, ds, ρ2, e2, e3, q⟩ := h
  refine ⟨_, _, ?_, q⟩
  show (semL T F es ρ >>= _) = _
  rw [e1]
  show (frzAll rs ρ1 >>= _) = _
  rw [e2]
  exact if_pos (le_sz e3)
theorem ev_lst (h : EL T F es ρ fun rs ρ1 => ∃ ds ρ2, frzAll rs ρ1 = some (ds, ρ2) ∧ Nat.ble ds.length sizeLine = true ∧ Q (.frs (.list ds)) ρ2) : EV T F (.lst es) ρ Q := by
  obtain ⟨rs, ρ1, e1, ds, ρ2, e2, e3, q⟩ := h
  refine ⟨_, _, ?_, q⟩
  show (semL T F es ρ >>= _) = _
  rw [e1]
  show (frzAll rs ρ1 >>= _) = _
  rw [e2]
  exact if_pos (le_sz e3)
theorem ev_idx (h : EV T F a ρ fun x ρ1 => EV T F b ρ1 fun y ρ2 => ∃ dx dy z, res ρ2 x = some dx ∧ res ρ2 y = some dy ∧ idxD dx dy = some z ∧ Q (.dat z) ρ2) : EV T F (.idx a b) ρ Q := by
  obtain ⟨x, ρ1, e1, y, ρ2, e2, dx, dy, z, e3, e4, e5, q⟩ := h
  refine ⟨_, _, ?_, q⟩
  show ((sem T F a).v ρ >>= _) = _
  rw [e1]
  show ((sem T F b).v ρ1 >>= _) = _
  rw [e2]
  show (res ρ2 x >>= _) = _
  rw [e3]
  show (res ρ2 y >>= _) = _
  rw [e4]
  show ((idxD dx dy).map _ >>= _) = _
  rw [e5]
  rfl
theorem eo_none {Q : Option Int → Env → Prop} (q : Q none ρ) : EO T F none ρ Q := ⟨_, _, rfl, q⟩
theorem eo_some {Q : Option Int → Env → Prop} (h : EV T F e ρ fun x ρ1 => ∃ j, res ρ1 x = some (.int j) ∧ Q (some j) ρ1) : EO T F (some e) ρ Q := by
  obtain ⟨x, ρ1, e1, j, e2, q⟩ := h
  refine ⟨_, _, ?_, q⟩
  show ((sem T F e).v ρ >>= _) = _
  rw [e1]
  show (res ρ1 x >>= _) = _
  rw [e2]
  rfl
theorem ev_slc {lo hi : Option E} (h : EV T F a ρ fun x ρ1 => EO T F lo ρ1 fun l ρ2 => EO T F hi ρ2 fun r ρ3 => ∃ dx z, res ρ3 x = some dx ∧ slcD dx l r = some z ∧ Q (mkR z) ρ3) : EV T F (.slc a lo hi) ρ Q := by
  obtain ⟨x, ρ1, e1, l, ρ2, e2, r, ρ3, e3, dx, z, e4, e5, q⟩ := h
  refine ⟨_, _, ?_, q⟩
  show ((sem T F a).v ρ >>= _) = _
  rw [e1]
  show (semO T F lo ρ1 >>= _) = _
  rw [e2]
  show (semO T F hi ρ2 >>= _) = _
  rw [e3]
  show (res ρ3 x >>= _) = _
  rw [e4]
  show (slcD dx l r >>= _) = _
  rw [e5]
  rfl
theorem ev_rev (h : EV T F a ρ fun x ρ1 => ∃ dx z, res ρ1 x = some dx ∧ revD dx = some z ∧ Q (mkR z) ρ1) : EV T F (.rev a) ρ Q := by
  obtain ⟨x, ρ1, e1, dx, z, e4, e5, q⟩ := h
  refine ⟨_, _, ?_, q⟩
  show ((sem T F a).v ρ >>= _) = _
  rw [e1]
  show (res ρ1 x >>= _) = _
  rw [e4]
  show (revD dx >>= _) = _
  rw [e5]
  rfl
theorem ev_call {f : Nat} (h : EL T F es ρ fun rs ρ1 => ∃ ls rs' ρ2 as, T f = some ls ∧ args1 ls rs ρ1 = some (rs', ρ2) ∧ decide (lentSlots ls rs').Nodup = true ∧ args2 ρ2 ls rs' = some as ∧ CL F f as fun r os => ∃ ρ3, backOf ls rs' os ρ2 = some ρ3 ∧ Q r ρ3) : EV T F (.call f es) ρ Q := by
  obtain ⟨rs, ρ1, e1, ls, rs', ρ2, as, e2, e3, e4, e5, r, os, e6, ρ3, e7, q⟩ := h
  refine ⟨_, _, ?_, q⟩
  show (semL T F es ρ >>= _) = _
  rw [e1]
  show callR (T f) (F f) rs ρ1 = _
  rw [e2]
  show (args1 ls rs ρ1 >>= _) = _
  rw [e3]
  refine (if_pos (of_decide_eq_true e4)).trans ?_
  rw [e5]
  show (F f as >>= _) = _
  rw [e6]
  show (backOf ls rs' os ρ2 >>= _) = _
  rw [e7]
  rfl
theorem ev_bf {bf : Bf} (h : EL T F es ρ fun rs ρ1 => ∃ ds z, rs.mapM (res ρ1) = some ds ∧ bfD bf ds = some z ∧ Q (mkR z) ρ1) : EV T F (.bf bf es) ρ Q := by
  obtain ⟨rs, ρ1, e1, ds, z, e2, e3, q⟩ := h
  refine ⟨_, _, ?_, q⟩
  show (semL T F es ρ >>= _) = _
  rw [e1]
  show (rs.mapM (res ρ1) >>= _) = _
  rw [e2]
  show (bfD bf ds >>= _) = _
  rw [e3]
  rfl
theorem ev_isi {t : Ty} (h : EV T F a ρ fun x ρ1 => ∃ dx, res ρ1 x = some dx ∧ Q (.dat (.bool (tyOf dx t))) ρ1) : EV T F (.isi a [t]) ρ Q := by
  obtain ⟨x, ρ1, e1, dx, e4, q⟩ := h
  refine ⟨_, _, ?_, q⟩
  show ((sem T F a).v ρ >>= _) = _
  rw [e1]
  show (res ρ1 x >>= _) = _
  rw [e4]
  show some _ = some _
  rw [List.any_cons, List.any_nil, Bool.or_false]
theorem ev_ownm {m : Mt} {l0 : Bool} {d0 : D} (h0 : Env.at ρ i = some (.own l0 d0)) (h : EL T F es ρ fun rs ρ1 => ∃ ds ρ2 l d y d', frzAll rs ρ1 = some (ds, ρ2) ∧ Env.at ρ2 i = some (.own l d) ∧ ownMeth m d ds = some (y, d') ∧ Q (.dat y) (ρ2.set i (some (.own l d')))) : EV T F (.own m i es) ρ Q := by
  obtain ⟨rs, ρ1, e1, ds, ρ2, l, d, y, d', e2, e3, e4, q⟩ := h
  refine ⟨_, _, ?_, q⟩
  show (match Env.at ρ i with | some (.own _ _) => _ | _ => none) = _
  rw [h0]
  show (semL T F es ρ >>= _) = _
  rw [e1]
  show (frzAll rs ρ1 >>= _) = _
  rw [e2]
  show (match Env.at ρ2 i with | some (.own l d) => _ | _ => none) = _
  rw [e3]
  show (ownMeth m d ds >>= _) = _
  rw [e4]
  rfl
theorem ev_meth {m : Mt} (h : EV T F a ρ fun x ρ1 => ∃ d, res ρ1 x = some d ∧ mtOk m d = true ∧ EL T F es ρ1 fun rs ρ2 => ∃ d ds z, res ρ2 x = some d ∧ rs.mapM (res ρ2) = some ds ∧ datMeth m d ds = some z ∧ Q (mkR z) ρ2) : EV T F (.meth m a es) ρ Q := by
  obtain ⟨x, ρ1, e1, d, e2, e3, rs, ρ2, e4, d', ds, z, e5, e6, e7, q⟩ := h
  refine ⟨_, _, ?_, q⟩
  show ((sem T F a).v ρ >>= _) = _
  rw [e1]
  show (res ρ1 x >>= _) = _
  rw [e2]
  refine (if_pos e3).trans ?_
  rw [e4]
  show (res ρ2 x >>= _) = _
  rw [e5]
  show (rs.mapM (res ρ2) >>= _) = _
  rw [e6]
  show (datMeth m d' ds >>= _) = _
  rw [e7]
  rfl
/-! ### iterables -/
section
variable {Q : List D → Env → Prop}
theorem ei_seq (h : EV T F e ρ fun r ρ1 => ∃ d ρ2 ds, frz ρ1 r = some (d, ρ2) ∧ itemsD d = some ds ∧ Q ds ρ2) : EI T F (.seq e) ρ Q := by
  obtain ⟨r, ρ1, e1, d, ρ2, ds, e2, e3, q⟩ := h
  refine ⟨_, _, ?_, q⟩
  show ((sem T F e).v ρ >>= _) = _
  rw [e1]
  show (frz ρ1 r >>= _) = _
  rw [e2]
  show (itemsD d >>= _) = _
  rw [e3]
  rfl
theorem ei_rev (h : EV T F e ρ fun r ρ1 => ∃ d ρ2 ds, frz ρ1 r = some (d, ρ2) ∧ itemsD d = some ds ∧ Q ds.reverse ρ2) : EI T F (.rev e) ρ Q := by
  obtain ⟨r, ρ1, e1, d, ρ2, ds, e2, e3, q⟩ := h
  refine ⟨_, _, ?_, q⟩
  show ((sem T F e).v ρ >>= _) = _
  rw [e1]
  show (frz ρ1 r >>= _) = _
  rw [e2]
  show (itemsD d >>= _) = _
  rw [e3]
  rfl
theorem ei_enum (h : EV T F e ρ fun r ρ1 => ∃ d ρ2 ds, frz ρ1 r = some (d, ρ2) ∧ itemsD d = some ds ∧ Q (enumFrom 0 ds) ρ2) : EI T F (.enum e) ρ Q := by
  obtain ⟨r, ρ1, e1, d, ρ2, ds, e2, e3, q⟩ := h
  refine ⟨_, _, ?_, q⟩
  show ((sem T F e).v ρ >>= _) = _
  rw [e1]
  show (frz ρ1 r >>= _) = _
  rw [e2]
  show (itemsD d >>= _) = _
  rw [e3]
  rfl
theorem ei_rng1 (h : EV T F e ρ fun r ρ1 => ∃ n, res ρ1 r = some (.int n) ∧ okInt n = true ∧ Q (rangeD 0 n.toNat) ρ1) : EI T F (.range1 e) ρ Q := by
  obtain ⟨r, ρ1, e1, n, e2, e3, q⟩ := h
  refine ⟨_, _, ?_, q⟩
  show ((sem T F e).v ρ >>= _) = _
  rw [e1]
  show (res ρ1 r >>= _) = _
  rw [e2]
  exact if_pos e3
theorem ei_rng2 (h : EV T F a ρ fun x ρ1 => EV T F b ρ1 fun y ρ2 => ∃ i j, res ρ2 x = some (.int i) ∧ res ρ2 y = some (.int j) ∧ (okInt i && okInt j) = true ∧ Q (rangeD i (j - i).toNat) ρ2) : EI T F (.range2 a b) ρ Q := by
  obtain ⟨x, ρ1, e1, y, ρ2, e2, i, j, e3, e4, e5, q⟩ := h
  refine ⟨_, _, ?_, q⟩
  show ((sem T F a).v ρ >>= _) = _
  rw [e1]
  show ((sem T F b).v ρ1 >>= _) = _
  rw [e2]
  show (res ρ2 x >>= _) = _
  rw [e3]
  show (res ρ2 y >>= _) = _
  rw [e4]
  exact if_pos e5
theorem ei_zipL (h : EV T F a ρ fun x ρ1 => EV T F b ρ1 fun y ρ2 => ∃ xs ρ3 ys ρ4, frz ρ2 x = some (.list xs, ρ3) ∧ frz ρ3 y = some (.list ys, ρ4) ∧ Q (zipD xs ys) ρ4) : EI T F (.zip a b) ρ Q := by
  obtain ⟨x, ρ1, e1, y, ρ2, e2, xs, ρ3, ys, ρ4, e3, e4, q⟩ := h
  refine ⟨_, _, ?_, q⟩
  show ((sem T F a).v ρ >>= _) = _
  rw [e1]
  show ((sem T F b).v ρ1 >>= _) = _
  rw [e2]
  show (frz ρ2 x >>= _) = _
  rw [e3]
  show (frz ρ3 y >>= _) = _
  rw [e4]
  rfl
theorem ei_zipT (h : EV T F a ρ fun x ρ1 => EV T F b ρ1 fun y ρ2 => ∃ xs ρ3 ys ρ4, frz ρ2 x = some (.tuple xs, ρ3) ∧ frz ρ3 y = some (.tuple ys, ρ4) ∧ Q (zipD xs ys) ρ4) : EI T F (.zip a b) ρ Q := by
  obtain ⟨x, ρ1, e1, y, ρ2, e2, xs, ρ3, ys, ρ4, e3, e4, q⟩ := h
  refine ⟨_, _, ?_, q⟩
  show ((sem T F a).v ρ >>= _) = _
  rw [e1]
  show ((sem T F b).v ρ1 >>= _) = _
  rw [e2]
  show (frz ρ2 x >>= _) = _
  rw [e3]
  show (frz ρ3 y >>= _) = _
  rw [e4]
  rfl
end
/-! ### statements -/
variable {s : S} {ss bs : List S} {QS : Fl → Env → Prop} {t : Tg}
structure SQ (T : Nat → Option (List Bool)) (F : Nat → List Arg → Option (R × List D)) (ss : List S) (Q : Fl → Env → Prop) (fl : Fl) (ρ : Env) : Prop where
  ex : match fl with
    | .nx => EB T F ss ρ Q
    | fl => Q fl ρ
theorem sq_nx (h : EB T F ss ρ QS) : SQ T F ss QS .nx ρ := ⟨h⟩
theorem sq_rt {r : R} (h : QS (.rt r) ρ) : SQ T F ss QS (.rt r) ρ := ⟨h⟩
theorem sq_bk (h : QS .bk ρ) : SQ T F ss QS .bk ρ := ⟨h⟩
theorem sq_ct (h : QS .ct ρ) : SQ T F ss QS .ct ρ := ⟨h⟩
theorem eb_nil (q : QS .nx ρ) : EB T F [] ρ QS := ⟨_, _, rfl, q⟩
theorem eb_cons (h : ES T F s ρ (SQ T F ss QS)) : EB T F (s :: ss) ρ QS := by
  obtain ⟨fl, ρ1, e1, q⟩ := h
  have q := q.ex
  cases fl with
  | nx =>
    obtain ⟨fl, ρ2, e2, q⟩ := q
    refine ⟨_, _, ?_, q⟩
    show (run T F s ρ >>= _) = _
    rw [e1]
    exact e2
  | _ =>
    refine ⟨_, _, ?_, q⟩
    show (run T F s ρ >>= _) = _
    rw [e1]
    rfl
theorem es_asg (h : EV T F e ρ fun r ρ1 => ∃ ρ2, setR t r ρ1 = some ρ2 ∧ QS .nx ρ2) : ES T F (.asg t e) ρ QS := by
  obtain ⟨r, ρ1, e1, ρ2, e2, q⟩ := h
  refine ⟨_, _, ?_, q⟩
  show ((sem T F e).v ρ >>= _) = _
  rw [e1]
  show (setR t r ρ1 >>= _) = _
  rw [e2]
  rfl
theorem es_sub {l0 : Bool} {d0 : D} {ix : E} (h0 : Env.at ρ i = some (.own l0 d0)) (h : EV T F e ρ fun r ρ1 => ∃ d ρ2, frz ρ1 r = some (d, ρ2) ∧ EV T F ix ρ2 fun k ρ3 => ∃ dk ρ4, res ρ3 k = some dk ∧ setAt i d dk ρ3 = some (.nx, ρ4) ∧ QS .nx ρ4) : ES T F (.sub i ix e) ρ QS := by
  obtain ⟨r, ρ1, e1, d, ρ2, e2, k, ρ3, e3, dk, ρ4, e4, e5, q⟩ := h
  refine ⟨_, _, ?_, q⟩
  show (match Env.at ρ i with | some (.own _ _) => _ | _ => none) = _
  rw [h0]
  show ((sem T F e).v ρ >>= _) = _
  rw [e1]
  show (frz ρ1 r >>= _) = _
  rw [e2]
  show ((sem T F ix).v ρ2 >>= _) = _
  rw [e3]
  show (res ρ3 k >>= _) = _
  rw [e4]
  exact e5
theorem es_inc {x : Int} (h0 : Env.at ρ i = some (.shr (.int x))) (h : EV T F e ρ fun r ρ1 => ∃ y, res ρ1 r = some (.int y) ∧ okSlot ρ1 i = true ∧ QS .nx (ρ1.set i (some (.shr (.int (x + y)))))) : ES T F (.inc i e) ρ QS := by
  obtain ⟨r, ρ1, e1, y, e2, e3, q⟩ := h
  refine ⟨_, _, ?_, q⟩
  show (match Env.at ρ i with | some (.shr (.int x)) => _ | _ => none) = _
  rw [h0]
  show ((sem T F e).v ρ >>= _) = _
  rw [e1]
  show (res ρ1 r >>= _) = _
  rw [e2]
  exact if_pos e3
theorem es_expr (h : EV T F e ρ fun _ ρ1 => QS .nx ρ1) : ES T F (.expr e) ρ QS := by
  obtain ⟨r, ρ1, e1, q⟩ := h
  refine ⟨_, _, ?_, q⟩
  show ((sem T F e).v ρ >>= _) = _
  rw [e1]
  rfl
structure RT (Q : Fl → Env → Prop) (r : R) (ρ : Env) : Prop where
  ex : match r with
    | .bor i => ∃ d, Env.at ρ i = some (.own false d) ∧ Q (.rt (.frs d)) (ρ.set i none)
    | r => Q (.rt r) ρ
theorem rt_dat (q : QS (.rt (.dat d)) ρ) : RT QS (.dat d) ρ := ⟨q⟩
theorem rt_frs (q : QS (.rt (.frs d)) ρ) : RT QS (.frs d) ρ := ⟨q⟩
theorem rt_bor (h : Env.at ρ i = some (.own false d)) (q : QS (.rt (.frs d)) (ρ.set i none)) : RT QS (.bor i) ρ := ⟨d, h, q⟩
theorem es_ret (h : EV T F e ρ (RT QS)) : ES T F (.ret e) ρ QS := by
  obtain ⟨r, ρ1, e1, q⟩ := h
  have q := q.ex
  cases r with
  | bor i =>
    obtain ⟨d, e2, q⟩ := q
    refine ⟨_, _, ?_, q⟩
    show ((sem T F e).v ρ >>= _) = _
    rw [e1]
    show (match Env.at ρ1 i with | some (.own false d) => some (Fl.rt (.frs d), ρ1.set i none) | _ => none) = _
    rw [e2]
  | _ =>
    refine ⟨_, _, ?_, q⟩
    show ((sem T F e).v ρ >>= _) = _
    rw [e1]
    rfl
theorem es_ite (h : ET T F c ρ fun k ρ1 => BR k (EB T F ss ρ1 QS) (EB T F bs ρ1 QS)) : ES T F (.ite c ss bs) ρ QS := by
  obtain ⟨k, ρ1, e1, q⟩ := h
  have e4 : run T F (.ite c ss bs) ρ = if k = true then runs T F ss ρ1 else runs T F bs ρ1 := by
    show ((sem T F c).t ρ >>= _) = _
    rw [e1]
    rfl
  cases k <;>
  · obtain ⟨r, ρ', e5, q⟩ := q
    exact ⟨r, ρ', e4.trans e5, q⟩
theorem es_pass (q : QS .nx ρ) : ES T F .pass ρ QS := ⟨_, _, rfl, q⟩
theorem es_brk (q : QS .bk ρ) : ES T F .brk ρ QS := ⟨_, _, rfl, q⟩
theorem es_cont (q : QS .ct ρ) : ES T F .cont ρ QS := ⟨_, _, rfl, q⟩
/-! ### loops -/
structure FR (T : Nat → Option (List Bool)) (F : Nat → List Arg → Option (R × List D)) (t : Tg) (bs : List S) (ds : List D) (ρ : Env) (Q : Fl → Env → Prop) : Prop where
  ex : ∃ fl ρ', forD (fun d ρ => do
      let ρ ← setTg t d ρ
      runs T F bs ρ) ds ρ = some (fl, ρ') ∧ Q fl ρ'
structure FK (T : Nat → Option (List Bool)) (F : Nat → List Arg → Option (R × List D)) (t : Tg) (bs : List S) (ds : List D) (Q : Fl → Env → Prop) (fl : Fl) (ρ : Env) : Prop where
  ex : match fl with
    | .nx => FR T F t bs ds ρ Q
    | .ct => FR T F t bs ds ρ Q
    | .bk => Q .nx ρ
    | .rt r => Q (.rt r) ρ
theorem es_for {it : It} (h : EI T F it ρ fun ds ρ1 => FR T F t bs ds ρ1 QS) : ES T F (.for t it bs) ρ QS := by
  obtain ⟨ds, ρ1, e1, fl, ρ2, e2, q⟩ := h
  refine ⟨_, _, ?_, q⟩
  show (semI T F it ρ >>= _) = _
  rw [e1]
  exact e2
variable {ds : List D}
theorem fr_nil (q : QS .nx ρ) : FR T F t bs [] ρ QS := ⟨_, _, rfl, q⟩
theorem fr_cons (h : ∃ ρ1, setTg t d ρ = some ρ1 ∧ EB T F bs ρ1 (FK T F t bs ds QS)) : FR T F t bs (d :: ds) ρ QS := by
  obtain ⟨ρ1, e1, fl, ρ2, e2, q⟩ := h
  have e3 : (setTg t d ρ >>= fun ρ => runs T F bs ρ) = some (fl, ρ2) := by
    rw [e1]
    exact e2
  have q := q.ex
  cases fl with
  | nx =>
    obtain ⟨fl, ρ3, e4, q⟩ := q
    refine ⟨_, _, ?_, q⟩
    show ((setTg t d ρ >>= fun ρ => runs T F bs ρ) >>= _) = _
    rw [e3]
    exact e4
  | ct =>
    obtain ⟨fl, ρ3, e4, q⟩ := q
    refine ⟨_, _, ?_, q⟩
    show ((setTg t d ρ >>= fun ρ => runs T F bs ρ) >>= _) = _
    rw [e3]
    exact e4
  | _ =>
    refine ⟨_, _, ?_, q⟩
    show ((setTg t d ρ >>= fun ρ => runs T F bs ρ) >>= _) = _
    rw [e3]
    rfl
theorem fk_nx (h : FR T F t bs ds ρ QS) : FK T F t bs ds QS .nx ρ := ⟨h⟩
theorem fk_ct (h : FR T F t bs ds ρ QS) : FK T F t bs ds QS .ct ρ := ⟨h⟩
theorem fk_bk (h : QS .nx ρ) : FK T F t bs ds QS .bk ρ := ⟨h⟩
theorem fk_rt {r : R} (h : QS (.rt r) ρ) : FK T F t bs ds QS (.rt r) ρ := ⟨h⟩
structure WK (T : Nat → Option (List Bool)) (F : Nat → List Arg → Option (R × List D)) (c : E) (bs : List S) (Q : Fl → Env → Prop) (fl : Fl) (ρ : Env) : Prop where
  ex : match fl with
    | .nx => ES T F (.whil c bs) ρ Q
    | .ct => ES T F (.whil c bs) ρ Q
    | .bk => Q .nx ρ
    | .rt r => Q (.rt r) ρ
/-- how a body's turn goes on, where a loop has an invariant -/
structure IK (J : Env → Prop) (Q : Fl → Env → Prop) (fl : Fl) (ρ : Env) : Prop where
  ex : match fl with
    | .nx => J ρ
    | .ct => J ρ
    | .bk => Q .nx ρ
    | .rt r => Q (.rt r) ρ
theorem ik_nx {J : Env → Prop} (h : J ρ) : IK J QS .nx ρ := ⟨h⟩
theorem ik_ct {J : Env → Prop} (h : J ρ) : IK J QS .ct ρ := ⟨h⟩
theorem ik_bk {J : Env → Prop} (h : QS .nx ρ) : IK J QS .bk ρ := ⟨h⟩
theorem ik_rt {J : Env → Prop} {r : R} (h : QS (.rt r) ρ) : IK J QS (.rt r) ρ := ⟨h⟩
theorem es_whl (h : ET T F c ρ fun k ρ1 => BR k (EB T F bs ρ1 (WK T F c bs QS)) (QS .nx ρ1)) : ES T F (.whil c bs) ρ QS := by
  obtain ⟨k, ρ1, e1, q⟩ := h
  cases k with
  | false =>
    refine ⟨_, _, ?_, q.ex⟩
    show whlD (sem T F c).t (runs T F bs) ρ = _
    rw [whlD, e1]
    rfl
  | true =>
    obtain ⟨fl, ρ2, e2, q⟩ := q
    have q := q.ex
    cases fl with
    | nx =>
      obtain ⟨fl, ρ3, e3, q⟩ := q
      refine ⟨_, _, ?_, q⟩
      show whlD (sem T F c).t (runs T F bs) ρ = _
      rw [whlD, e1]
      show (runs T F bs ρ1 >>= _) = _
      rw [e2]
      exact e3
    | ct =>
      obtain ⟨fl, ρ3, e3, q⟩ := q
      refine ⟨_, _, ?_, q⟩
      show whlD (sem T F c).t (runs T F bs) ρ = _
      rw [whlD, e1]
      show (runs T F bs ρ1 >>= _) = _
      rw [e2]
      exact e3
    | _ =>
      refine ⟨_, _, ?_, q⟩
      show whlD (sem T F c).t (runs T F bs) ρ = _
      rw [whlD, e1]
      show (runs T F bs ρ1 >>= _) = _
      rw [e2]
      rfl
/-- while by an invariant and a measure -/
theorem whl_inv (I : Nat → Env → Prop) (n : Nat) (h0 : I n ρ) (h : ∀ n ρ, I n ρ → ET T F c ρ fun k ρ1 => BR k (EB T F bs ρ1 (IK (fun ρ2 => ∃ m, m < n ∧ I m ρ2) QS)) (QS .nx ρ1)) : ES T F (.whil c bs) ρ QS := by
  induction n using Nat.strongRecOn generalizing ρ with
  | ind n ih =>
    refine es_whl ?_
    obtain ⟨k, ρ1, e1, q⟩ := h n ρ h0
    refine ⟨k, ρ1, e1, ?_⟩
    cases k with
    | false => exact br_f rfl q.ex
    | true =>
      obtain ⟨fl, ρ2, e2, q⟩ := q
      refine br_t rfl ⟨fl, ρ2, e2, ⟨?_⟩⟩
      have q := q.ex
      cases fl with
      | nx =>
        obtain ⟨m, hm, q⟩ := q
        exact ih m hm q
      | ct =>
        obtain ⟨m, hm, q⟩ := q
        exact ih m hm q
      | bk => exact q
      | rt r => exact q
/-! ### comprehensions -/
structure LR (T : Nat → Option (List Bool)) (F : Nat → List Arg → Option (R × List D)) (elt : E) (t : Tg) (cond : Option E) (own : List Nat) (ds : List D) (ρ : Env) (Q : List D → Env → Prop) : Prop where
  ex : ∃ xs ρ', lcD (fun d ρ => do
        let ρ ← setTg t d (wipeE ρ own)
        let (k, ρ) ← semC T F cond ρ
        if k then do
          let (r, ρ) ← (sem T F elt).v ρ
          let (x, ρ) ← frz ρ r
          some (some x, ρ)
        else some (none, ρ)) ds ρ = some (xs, ρ') ∧ Q xs ρ'
theorem ev_lc {elt : E} {it : It} {cond : Option E} {own : List Nat} (h : EI T F it ρ fun ds ρ1 => noOwn ρ1 own = true ∧ LR T F elt t cond own ds ρ1 fun xs ρ2 => xs.length ≤ sizeLine ∧ Q (.frs (.list xs)) (backE ρ1 ρ2 own)) : EV T F (.lc elt t it cond own) ρ Q := by
  obtain ⟨ds, ρ1, e1, e2, xs, ρ2, e3, e4, q⟩ := h
  refine ⟨_, _, ?_, q⟩
  show (semI T F it ρ >>= _) = _
  rw [e1]
  refine (if_pos e2).trans ?_
  rw [e3]
  exact if_pos e4
theorem ec_none (q : QT true ρ) : EC T F none ρ QT := ⟨_, _, rfl, q⟩
theorem ec_some (h : ET T F e ρ QT) : EC T F (some e) ρ QT := ⟨h.ex⟩
theorem lr_nil {elt : E} {cond : Option E} {own : List Nat} {Q : List D → Env → Prop} (q : Q [] ρ) : LR T F elt t cond own [] ρ Q := ⟨_, _, rfl, q⟩
theorem lr_cons {elt : E} {cond : Option E} {own : List Nat} {Q : List D → Env → Prop} (h : ∃ ρ1, setTg t d (wipeE ρ own) = some ρ1 ∧ EC T F cond ρ1 fun k ρ2 => BR k (EV T F elt ρ2 fun r ρ3 => ∃ x ρ4, frz ρ3 r = some (x, ρ4) ∧ LR T F elt t cond own ds ρ4 fun xs ρ5 => Q (x :: xs) ρ5) (LR T F elt t cond own ds ρ2 Q)) :
    LR T F elt t cond own (d :: ds) ρ Q := by
  obtain ⟨ρ1, e1, k, ρ2, e2, q⟩ := h
  cases k with
  | false =>
    obtain ⟨xs, ρ3, e3, q⟩ := q
    refine ⟨_, _, ?_, q⟩
    have e4 : (do
        let ρ ← setTg t d (wipeE ρ own)
        let (k, ρ) ← semC T F cond ρ
        if k then do
          let (r, ρ) ← (sem T F elt).v ρ
          let (x, ρ) ← frz ρ r
          some (some x, ρ)
        else some (none, ρ)) = some ((none : Option D), ρ2) := by
      rw [e1]
      show (semC T F cond ρ1 >>= _) = _
      rw [e2]
      rfl
    unfold lcD
    rw [e4]
    show (lcD _ ds ρ2 >>= _) = _
    rw [e3]
    rfl
  | true =>
    obtain ⟨r, ρ3, e3, x, ρ4, e4, xs, ρ5, e5, q⟩ := q
    refine ⟨_, _, ?_, q⟩
    have e6 : (do
        let ρ ← setTg t d (wipeE ρ own)
        let (k, ρ) ← semC T F cond ρ
        if k then do
          let (r, ρ) ← (sem T F elt).v ρ
          let (x, ρ) ← frz ρ r
          some (some x, ρ)
        else some (none, ρ)) = some (some x, ρ4) := by
      rw [e1]
      show (semC T F cond ρ1 >>= _) = _
      rw [e2]
      show ((sem T F elt).v ρ2 >>= _) = _
      rw [e3]
      show (frz ρ3 r >>= _) = _
      rw [e4]
      rfl
    unfold lcD
    rw [e6]
    show (lcD _ ds ρ4 >>= _) = _
    rw [e5]
    rfl
end
/-! ### a def -/
structure RK (ls : List Bool) (Q : R → List D → Prop) (fl : Fl) (ρ : Env) : Prop where
  ex : match fl with
    | .nx => ∃ os, outsOf ls ρ = some os ∧ Q (.dat .none) os
    | .rt r => ∃ os, outsOf ls ρ = some os ∧ Q r os
    | _ => False
theorem rk_nx {ls : List Bool} {Q : R → List D → Prop} {ρ : Env} {os : List D} (h : outsOf ls ρ = some os) (q : Q (.dat .none) os) : RK ls Q .nx ρ := ⟨os, h, q⟩
theorem rk_rt {ls : List Bool} {Q : R → List D → Prop} {ρ : Env} {os : List D} {r : R} (h : outsOf ls ρ = some os) (q : Q r os) : RK ls Q (.rt r) ρ := ⟨os, h, q⟩
theorem cl_def {T : List MDef} {k f : Nat} {m : MDef} {as : List Arg} {ρ : Env} {Q : R → List D → Prop} (hm : T[f]? = some m) (hf : (argsFit m.lent as && decide (as.length ≤ m.slots)) = true) (hρ : as.map cellOf ++ List.replicate (m.slots - as.length) none = ρ) (h : EB (lentOf T) (callD T k) m.body ρ (RK m.lent Q)) :
    CL (callD T (k + 1)) f as Q := by
  obtain ⟨fl, ρ1, e1, q⟩ := h
  have e : ∀ r os, outsOf m.lent ρ1 = some os → (match fl with | .nx => some (R.dat .none, os) | .rt r => some (r, os) | _ => none) = some (r, os) → callD T (k + 1) f as = some (r, os) := fun r os e2 e3 => by
    unfold callD
    rw [hm]
    show runDef _ _ m as = _
    unfold runDef
    rw [if_pos hf, hρ, e1]
    show (outsOf m.lent ρ1 >>= _) = _
    rw [e2]
    exact e3
  have q := q.ex
  cases fl with
  | nx =>
    obtain ⟨os, e2, q⟩ := q
    exact ⟨_, os, e _ _ e2 rfl, q⟩
  | rt r =>
    obtain ⟨os, e2, q⟩ := q
    exact ⟨_, os, e _ _ e2 rfl, q⟩
  | _ => exact q.elim
/-! ### operators by their kinds -/
theorem mulOk_r {i j : Int} (h : -(2 ^ 64) < j ∧ j < 2 ^ 64) : mulOk i j = true := by
  unfold mulOk
  rw [decide_eq_true h, Bool.or_true]
theorem mulOk_l {i j : Int} (h : -(2 ^ 64) < i ∧ i < 2 ^ 64) : mulOk i j = true := by
  unfold mulOk
  rw [decide_eq_true h, Bool.true_or]
theorem bin_mul {i j : Int} (h : mulOk i j = true) : binD .mul (.int i) (.int j) = some (.int (i * j), false) := by
  show ((if mulOk i j = true then some (PyData.int (i * j)) else none).map _) = _
  rw [if_pos h]
  rfl
theorem divOk_of {j : Int} (h : 1 ≤ j ∧ j < 2 ^ 64) : divOk j = true := by
  unfold divOk
  refine decide_eq_true ⟨by omega, ?_⟩
  have : j.natAbs < 2 ^ 64 := by omega
  by_cases h0 : j.natAbs = 0
  · rw [h0]; decide
  · have := (Nat.log2_lt h0).mpr this
    omega
theorem bin_fdiv {i j : Int} (h : divOk j = true) : binD .fdiv (.int i) (.int j) = some (.int (i.fdiv j), false) := by
  show ((if divOk j = true then some (PyData.int (i.fdiv j)) else none).map _) = _
  rw [if_pos h]
  rfl
theorem bin_mod {i j : Int} (h : j ≠ 0) : binD .mod (.int i) (.int j) = some (.int (i.fmod j), false) := by
  show ((if j = 0 then none else some (PyData.int (i.fmod j))).map _) = _
  rw [if_neg h]
  rfl
section
variable {T : Nat → Option (List Bool)} {F : Nat → List Arg → Option (R × List D)} {ρ : Env} {a b : E} {Q : R → Env → Prop}
/-- a value that is an int -/
structure IV (ρ : Env) (r : R) (Q : Int → Prop) : Prop where
  ex : ∃ i, res ρ r = some (.int i) ∧ Q i
theorem iv_mk {r : R} {Q : Int → Prop} {i : Int} (h : res ρ r = some (.int i)) (q : Q i) : IV ρ r Q := ⟨i, h, q⟩
theorem ev_mul (h : EV T F a ρ fun x ρ1 => EV T F b ρ1 fun y ρ2 => IV ρ2 x fun i => IV ρ2 y fun j => mulOk i j = true ∧ Q (.dat (.int (i * j))) ρ2) : EV T F (.bin .mul a b) ρ Q := by
  refine ev_bin ?_
  obtain ⟨x, ρ1, e1, y, ρ2, e2, i, e3, j, e4, h, q⟩ := h
  exact ⟨x, ρ1, e1, y, ρ2, e2, _, _, _, e3, e4, bin_mul h, q⟩
theorem ev_fdiv (h : EV T F a ρ fun x ρ1 => EV T F b ρ1 fun y ρ2 => IV ρ2 x fun i => IV ρ2 y fun j => divOk j = true ∧ Q (.dat (.int (i.fdiv j))) ρ2) : EV T F (.bin .fdiv a b) ρ Q := by
  refine ev_bin ?_
  obtain ⟨x, ρ1, e1, y, ρ2, e2, i, e3, j, e4, h, q⟩ := h
  exact ⟨x, ρ1, e1, y, ρ2, e2, _, _, _, e3, e4, bin_fdiv h, q⟩
theorem ev_mod (h : EV T F a ρ fun x ρ1 => EV T F b ρ1 fun y ρ2 => IV ρ2 x fun i => IV ρ2 y fun j => j ≠ 0 ∧ Q (.dat (.int (i.fmod j))) ρ2) : EV T F (.bin .mod a b) ρ Q := by
  refine ev_bin ?_
  obtain ⟨x, ρ1, e1, y, ρ2, e2, i, e3, j, e4, h, q⟩ := h
  exact ⟨x, ρ1, e1, y, ρ2, e2, _, _, _, e3, e4, bin_mod h, q⟩
theorem ev_sub (h : EV T F a ρ fun x ρ1 => EV T F b ρ1 fun y ρ2 => IV ρ2 x fun i => IV ρ2 y fun j => Q (.dat (.int (i - j))) ρ2) : EV T F (.bin .sub a b) ρ Q := by
  refine ev_bin ?_
  obtain ⟨x, ρ1, e1, y, ρ2, e2, i, e3, j, e4, q⟩ := h
  exact ⟨x, ρ1, e1, y, ρ2, e2, _, _, _, e3, e4, rfl, q⟩
theorem ev_pow (h : EV T F a ρ fun x ρ1 => EV T F b ρ1 fun y ρ2 => IV ρ2 x fun i => IV ρ2 y fun j => powOk i j = true ∧ Q (.dat (.int (i ^ j.toNat))) ρ2) : EV T F (.bin .pow a b) ρ Q := by
  refine ev_bin ?_
  obtain ⟨x, ρ1, e1, y, ρ2, e2, i, e3, j, e4, h, q⟩ := h
  refine ⟨x, ρ1, e1, y, ρ2, e2, _, _, (.int (i ^ j.toNat), false), e3, e4, ?_, q⟩
  show ((if powOk i j = true then some (PyData.int (i ^ j.toNat)) else none).map _) = _
  rw [if_pos h]
  rfl
end
end Mp

section
open PySem PySem.Spec L2 Mp
local macro_rules | `(tactic| walk_at "st") => `(tactic| first
  | (show EV _ _ _ _ _; first | refine ev_cst ?_ | refine ev_shr rfl ?_ | refine ev_own rfl ?_ | refine ev_tup ?_ | refine ev_idx ?_ | refine ev_call ?_ | refine ev_cmp ?_ | refine ev_mul ?_ | refine ev_mod ?_ | refine ev_fdiv ?_ | refine ev_sub ?_ | refine ev_pow ?_ | refine ev_bin ?_ | refine ev_lst ?_ | refine ev_neg ?_ | refine ev_not ?_ | refine ev_and ?_ | refine ev_or ?_ | refine ev_ite ?_ | refine ev_chain ?_ | refine ev_slc ?_ | refine ev_rev ?_ | refine ev_bf ?_ | refine ev_isi ?_ | refine ev_ownm rfl ?_ | refine ev_meth ?_)
  | (show EL _ _ _ _ _; first | refine el_cons ?_ | refine el_nil ?_)
  | (show ET _ _ _ _ _; first | refine et_cmp ?_ | refine et_not ?_ | refine et_and ?_ | refine et_or ?_ | refine et_ite ?_ | refine et_of rfl ?_)
  | (show EB _ _ _ _ _; first | refine eb_cons ?_ | refine eb_nil ?_)
  | (show ES _ _ _ _ _; first | refine es_asg ?_ | refine es_ite ?_ | refine es_ret ?_ | refine es_sub rfl ?_ | refine es_inc rfl ?_ | refine es_expr ?_ | refine es_pass ?_ | refine es_for ?_ | refine es_cont ?_ | refine es_brk ?_)
  | (show SQ _ _ _ _ _ _; first | (refine sq_nx ?_; try dsimp only [List.set_cons_zero, List.set_cons_succ]) | refine sq_rt ?_ | refine sq_ct ?_ | refine sq_bk ?_)
  | (show EI _ _ _ _ _; first | refine ei_enum ?_ | refine ei_rng1 ?_ | refine ei_rng2 ?_ | refine ei_rev ?_ | refine ei_zipL ?_ | refine ei_seq ?_)
  | (show FK _ _ _ _ _ _ _ _; first | (refine fk_nx ?_; try dsimp only [List.set_cons_zero, List.set_cons_succ]) | (refine fk_ct ?_; try dsimp only [List.set_cons_zero, List.set_cons_succ]) | refine fk_bk ?_ | refine fk_rt ?_)
  | (show IK _ _ _ _; first | (refine ik_nx ?_; try dsimp only [List.set_cons_zero, List.set_cons_succ]) | (refine ik_ct ?_; try dsimp only [List.set_cons_zero, List.set_cons_succ]) | refine ik_bk ?_ | refine ik_rt ?_)
  | (show EC _ _ _ _ _; first | refine ec_none ?_ | refine ec_some ?_)
  | (show RT _ _ _; first | refine rt_dat ?_ | refine rt_frs ?_ | refine rt_bor rfl ?_)
  | (show IV _ _ _; refine iv_mk rfl ?_)
  | (show BR _ _ _; first | refine br_t rfl ?_ | refine br_f rfl ?_ | refine br_t (decide_eq_true (by omega)) ?_ | refine br_f (decide_eq_false (by omega)) ?_ | refine br_t (by decide +kernel) ?_ | refine br_f (by decide +kernel) ?_)
  | (show EO _ _ _ _ _; first | refine eo_none ?_ | refine eo_some ?_)
  | (show RK _ _ _ _; first | refine rk_rt rfl ?_ | refine rk_nx rfl ?_)
  | (show CL _ _ _ _; fail)
  | (show Exists _; first | refine ⟨_, _, _, rfl, rfl, rfl, ?_⟩ | refine ⟨_, _, rfl, rfl, ?_⟩ | refine ⟨_, _, _, rfl, rfl, ?_⟩ | refine ⟨_, rfl, ?_⟩ | refine ⟨_, _, rfl, ?_⟩ | refine ⟨_, _, _, _, rfl, rfl, rfl, rfl, ?_⟩ | refine ⟨_, rfl, rfl, ?_⟩ | refine ⟨_, _, _, _, _, _, rfl, rfl, rfl, ?_⟩)
  | (show And _ _; first | refine ⟨mulOk_r (by decide), ?_⟩ | refine ⟨mulOk_l (by decide), ?_⟩ | refine ⟨mulOk_l ⟨by omega, by omega⟩, ?_⟩ | refine ⟨divOk_of ⟨by omega, by omega⟩, ?_⟩ | refine ⟨(by omega : (_ : Int) ≠ 0), ?_⟩ | refine ⟨(by decide +kernel : powOk _ _ = true), ?_⟩))
local macro_rules | `(tactic| walk_at "go") => `(tactic| repeat walk_at "st")

namespace K56
open PySem PySem.Spec L2 Mp
/-! ### the constants of the text -/
/-! ### the defs -/
abbrev f_integer_text : Nat := 0
abbrev f_has_parts : Nat := 1
abbrev f_argument_pieces : Nat := 2
abbrev f_list_pieces : Nat := 3
abbrev f_pieces_of : Nat := 4
abbrev f_show : Nat := 5
abbrev f__law_mix : Nat := 6
abbrev f__law_tape : Nat := 7
abbrev f__law_take : Nat := 8
abbrev f__law_boolean : Nat := 9
abbrev f__law_value : Nat := 10
abbrev f__law_named : Nat := 11
abbrev f__law_show : Nat := 12
abbrev f__law_wide : Nat := 13
abbrev f_law : Nat := 14
def topS (i : Nat) : Stmt := PySem.Challenge.pw_shapewright_k56_written_form_of_values.main.body.getD i (.Pass ⟨0, 0, 0, 0⟩)
def m_integer_text : MDef := ⟨1, [false], [
  .ret (.ite (.cmp .lt (.var 0) (.cst (.int 0))) (.bin .add (.cst (.str "~")) (.bf .str [.neg (.var 0)])) (.bf .str [.var 0]))]⟩
def d_integer_text : FDef := ⟨"integer_text", ["n"], ["n"], m_integer_text, topS 1⟩
def m_has_parts : MDef := ⟨1, [false], [
  .ite (.or (.cmp .eq (.idx (.var 0) (.cst (.int 0))) (.cst (.str "con"))) (.cmp .eq (.idx (.var 0) (.cst (.int 0))) (.cst (.str "packet")))) [
    .ret (.cmp .isnot (.idx (.var 0) (.cst (.int 3))) (.cst (.none)))] [],
  .ret (.cmp .eq (.idx (.var 0) (.cst (.int 0))) (.cst (.str "ref")))]⟩
def d_has_parts : FDef := ⟨"has_parts", ["value"], ["value"], m_has_parts, topS 2⟩
def m_argument_pieces : MDef := ⟨2, [false, false], [
  .ite (.cmp .is (.var 1) (.cst (.none))) [
    .ret (.lst [.var 0])] [],
  .ret (.lst [.bin .add (.var 0) (.cst (.str " ")), .tup [.var 1, .call f_has_parts [.var 1]]])]⟩
def d_argument_pieces : FDef := ⟨"argument_pieces", ["name", "value"], ["name", "value"], m_argument_pieces, topS 3⟩
def m_list_pieces : MDef := ⟨7, [false, false, false, false], [
  .asg (.name 4) (.lst [.var 0]),
  .for (.tup [.name 5, .name 6]) (.enum (.var 2)) [
    .expr (.own .append 4 [.bin .add (.ite (.cmp .gt (.var 5) (.cst (.int 0))) (.cst (.str ", ")) (.cst (.str ""))) (.idx (.var 1) (.var 5))]),
    .expr (.own .append 4 [.tup [.var 6, .cst (.bool false)]])],
  .expr (.own .append 4 [.var 3]),
  .ret (.var 4)]⟩
def d_list_pieces : FDef := ⟨"list_pieces", ["opening", "heads", "parts", "closing", "pieces", "at", "part"], ["opening", "heads", "parts", "closing"], m_list_pieces, topS 4⟩
def m_pieces_of : MDef := ⟨6, [false, false], [
  .asg (.name 2) (.idx (.var 0) (.cst (.int 0))),
  .ite (.cmp .eq (.var 2) (.cst (.str "int"))) [
    .ret (.lst [.call f_integer_text [.idx (.var 0) (.cst (.int 1))]])] [],
  .ite (.cmp .eq (.var 2) (.cst (.str "tuple"))) [
    .ret (.call f_list_pieces [.cst (.str "("), .lc (.cst (.str "")) (.name 5) (.seq (.idx (.var 0) (.cst (.int 1)))) none [5], .idx (.var 0) (.cst (.int 1)), .cst (.str ")")])] [],
  .ite (.cmp .eq (.var 2) (.cst (.str "record"))) [
    .asg (.name 3) (.lc (.bin .add (.idx (.var 4) (.cst (.int 0))) (.cst (.str " = "))) (.name 4) (.seq (.idx (.var 0) (.cst (.int 1)))) none [4]),
    .ret (.call f_list_pieces [.cst (.str "{"), .var 3, .lc (.idx (.var 4) (.cst (.int 1))) (.name 4) (.seq (.idx (.var 0) (.cst (.int 1)))) none [4], .cst (.str "}")])] [],
  .ite (.or (.cmp .eq (.var 2) (.cst (.str "con"))) (.cmp .eq (.var 2) (.cst (.str "packet")))) [
    .ret (.call f_argument_pieces [.idx (.var 0) (.cst (.int 2)), .idx (.var 0) (.cst (.int 3))])] [],
  .ite (.cmp .eq (.var 2) (.cst (.str "exn"))) [
    .ret (.lst [.idx (.var 0) (.cst (.int 2))])] [],
  .ite (.cmp .eq (.var 2) (.cst (.str "ref"))) [
    .ret (.call f_argument_pieces [.cst (.str "ref"), .idx (.var 1) (.idx (.var 0) (.cst (.int 1)))])] [],
  .ret (.lst [.cst (.str "fn")])]⟩
def d_pieces_of : FDef := ⟨"pieces_of", ["value", "store", "tag", "heads", "field", "_"], ["value", "store"], m_pieces_of, topS 5⟩
def m_show : MDef := ⟨8, [false, false, false], [
  .asg (.name 3) (.lst []),
  .asg (.name 4) (.cst (.int 0)),
  .asg (.name 5) (.lst [.tup [.var 0, .cst (.bool false)]]),
  .whil (.var 5) [
    .asg (.name 6) (.own .pop 5 []),
    .ite (.isi (.var 6) [.str]) [
      .expr (.own .append 3 [.var 6]),
      .cont] [],
    .inc 4 (.cst (.int 1)),
    .ite (.cmp .gt (.var 4) (.var 2)) [
      .expr (.own .append 3 [.cst (.str "..")]),
      .cont] [],
    .asg (.name 7) (.call f_pieces_of [.idx (.var 6) (.cst (.int 0)), .var 1]),
    .ite (.idx (.var 6) (.cst (.int 1))) [
      .asg (.name 7) (.bin .add (.bin .add (.lst [.cst (.str "(")]) (.var 7)) (.lst [.cst (.str ")")]))] [],
    .expr (.own .extend 5 [.rev (.var 7)])],
  .ret (.meth .join (.cst (.str "")) [.var 3])]⟩
def d_show : FDef := ⟨"show", ["value", "store", "limit", "out", "count", "todo", "piece", "pieces"], ["value", "store", "limit"], m_show, topS 6⟩
def m__law_mix : MDef := ⟨1, [false], [
  .asg (.name 0) (.bin .mod (.bf .int [.bin .add (.bin .mul (.var 0) (.cst (.int 6364136223846793005))) (.cst (.int 1442695040888963407))]) (.cst (.int 18446744073709551616))),
  .ret (.bin .mod (.bf .int [.bin .add (.bin .fdiv (.bin .mul (.var 0) (.var 0)) (.cst (.int 4294967296))) (.bin .mul (.var 0) (.cst (.int 69621)))]) (.cst (.int 18446744073709551557)))]⟩
def d__law_mix : FDef := ⟨"_law_mix", ["number"], ["number"], m__law_mix, topS 8⟩
def m__law_tape : MDef := ⟨2, [false, false], [
  .ret (.lst [.bf .list [.var 0], .cst (.int 0), .cst (.int 0), .cst (.int 1), .var 1])]⟩
def d__law_tape : FDef := ⟨"_law_tape", ["script", "budget"], ["script", "budget"], m__law_tape, topS 9⟩
def m__law_take : MDef := ⟨4, [true, false], [
  .ite (.cmp .lt (.idx (.var 0) (.cst (.int 2))) (.var 1)) [
    .ite (.cmp .lt (.idx (.var 0) (.cst (.int 1))) (.bf .len [.idx (.var 0) (.cst (.int 0))])) [
      .asg (.name 3) (.idx (.idx (.var 0) (.cst (.int 0))) (.idx (.var 0) (.cst (.int 1)))),
      .asg (.name 3) (.ite (.cmp .ge (.var 3) (.cst (.int 0))) (.bin .mul (.cst (.int 2)) (.var 3)) (.bin .sub (.bin .mul (.neg (.cst (.int 2))) (.var 3)) (.cst (.int 1)))),
      .sub 0 (.cst (.int 1)) (.bin .add (.idx (.var 0) (.cst (.int 1))) (.cst (.int 1))),
      .sub 0 (.cst (.int 3)) (.call f__law_mix [.bin .add (.idx (.var 0) (.cst (.int 3))) (.var 3)]),
      .sub 0 (.cst (.int 2)) (.ite (.cmp .ge (.var 3) (.bin .pow (.cst (.int 10)) (.cst (.int 18)))) (.var 3) (.call f__law_mix [.call f__law_mix [.var 3]]))] [
      .sub 0 (.cst (.int 3)) (.call f__law_mix [.bin .add (.idx (.var 0) (.cst (.int 3))) (.cst (.int 1))]),
      .sub 0 (.cst (.int 2)) (.idx (.var 0) (.cst (.int 3)))]] [],
  .asg (.name 2) (.bin .mod (.bf .int [.idx (.var 0) (.cst (.int 2))]) (.var 1)),
  .sub 0 (.cst (.int 2)) (.bin .fdiv (.idx (.var 0) (.cst (.int 2))) (.var 1)),
  .ret (.var 2)]⟩
def d__law_take : FDef := ⟨"_law_take", ["tape", "many", "digit", "cell"], ["tape", "many"], m__law_take, topS 10⟩
def m__law_boolean : MDef := ⟨1, [false], [
  .ret (.tup [.cst (.str "con"), .var 0, .idx (.lst [.cst (.str "False"), .cst (.str "True")]) (.var 0), .cst (.none)])]⟩
def d__law_boolean : FDef := ⟨"_law_boolean", ["draw"], ["draw"], m__law_boolean, topS 11⟩
def m__law_value : MDef := ⟨7, [true, false], [
  .asg (.name 2) (.ite (.cmp .gt (.var 1) (.cst (.int 0))) (.call f__law_take [.var 0, .cst (.int 9)]) (.call f__law_take [.var 0, .cst (.int 4)])),
  .ite (.cmp .eq (.var 2) (.cst (.int 0))) [
    .ret (.tup [.cst (.str "int"), .bin .sub (.call f__law_take [.var 0, .cst (.int 3)]) (.cst (.int 1))])] [],
  .ite (.cmp .eq (.var 2) (.cst (.int 1))) [
    .ret (.call f__law_boolean [.call f__law_take [.var 0, .cst (.int 2)]])] [],
  .ite (.cmp .eq (.var 2) (.cst (.int 2))) [
    .ret (.tup [.cst (.str "ref"), .call f__law_take [.var 0, .cst (.int 3)]])] [],
  .ite (.cmp .eq (.var 2) (.cst (.int 3))) [
    .ret (.idx (.lst [.tup [.cst (.str "tuple"), .tup []], .tup [.cst (.str "fun"), .cst (.str "x"), .tup [.cst (.str "var"), .cst (.str "x")], .cst (.none)], .tup [.cst (.str "exn"), .cst (.int 4), .cst (.str "E")], .tup [.cst (.str "con"), .cst (.int 0), .cst (.str "Nil"), .cst (.none)]]) (.call f__law_take [.var 0, .cst (.int 4)]))] [],
  .ite (.cmp .eq (.var 2) (.cst (.int 4))) [
    .ret (.tup [.cst (.str "con"), .cst (.int 1), .cst (.str "Cons"), .tup [.cst (.str "tuple"), .tup [.call f__law_value [.var 0, .bin .sub (.var 1) (.cst (.int 1))], .call f__law_value [.var 0, .bin .sub (.var 1) (.cst (.int 1))]]]])] [],
  .ite (.cmp .eq (.var 2) (.cst (.int 5))) [
    .ret (.tup [.cst (.str "con"), .cst (.int 2), .cst (.str "Some"), .call f__law_value [.var 0, .bin .sub (.var 1) (.cst (.int 1))]])] [],
  .ite (.cmp .eq (.var 2) (.cst (.int 6))) [
    .asg (.name 4) (.ite (.cmp .eq (.call f__law_take [.var 0, .cst (.int 2)]) (.cst (.int 0))) (.cst (.none)) (.call f__law_value [.var 0, .bin .sub (.var 1) (.cst (.int 1))])),
    .ret (.tup [.cst (.str "packet"), .bin .add (.cst (.int 4)) (.call f__law_take [.var 0, .cst (.int 2)]), .cst (.str "E"), .var 4])] [],
  .ite (.cmp .eq (.var 2) (.cst (.int 7))) [
    .asg (.name 5) (.lst [.tup [.cst (.str "m"), .call f__law_value [.var 0, .bin .sub (.var 1) (.cst (.int 1))]], .tup [.cst (.str "n"), .call f__law_value [.var 0, .bin .sub (.var 1) (.cst (.int 1))]]]),
    .ret (.tup [.cst (.str "record"), .bf .tuple [.slc (.var 5) none (some (.call f__law_take [.var 0, .cst (.int 3)]))]])] [],
  .asg (.name 3) (.idx (.lst [.cst (.int 2), .cst (.int 2), .cst (.int 3), .cst (.int 6)]) (.call f__law_take [.var 0, .cst (.int 4)])),
  .ret (.tup [.cst (.str "tuple"), .bf .tuple [.lc (.call f__law_value [.var 0, .bin .sub (.var 1) (.cst (.int 1))]) (.name 6) (.range1 (.var 3)) none [6]]])]⟩
def d__law_value : FDef := ⟨"_law_value", ["tape", "deep", "draw", "many", "inner", "fields", "k"], ["tape", "deep"], m__law_value, topS 12⟩
def m__law_named : MDef := ⟨6, [false, false, false, true], [
  .ite (.cmp .is (.var 1) (.cst (.none))) [
    .ret (.var 0)] [],
  .asg (.name 4) (.or (.cmp .eq (.idx (.var 1) (.cst (.int 0))) (.cst (.str "ref"))) (.and (.cmp .isin (.idx (.var 1) (.cst (.int 0))) (.tup [.cst (.str "con"), .cst (.str "packet")])) (.cmp .isnot (.idx (.var 1) (.cst (.int 3))) (.cst (.none))))),
  .ite (.cmp .le (.idx (.var 3) (.cst (.int 0))) (.cst (.int 0))) [
    .ret (.bin .add (.var 0) (.cst (.str " ..")))] [],
  .asg (.name 5) (.call f__law_show [.var 1, .var 2, .var 3]),
  .ret (.ite (.var 4) (.bin .add (.bin .add (.bin .add (.var 0) (.cst (.str " ("))) (.var 5)) (.cst (.str ")"))) (.bin .add (.bin .add (.var 0) (.cst (.str " "))) (.var 5)))]⟩
def d__law_named : FDef := ⟨"_law_named", ["name", "value", "store", "left", "inside", "text"], ["name", "value", "store", "left"], m__law_named, topS 13⟩
def m__law_show : MDef := ⟨5, [false, false, true], [
  .ite (.cmp .le (.idx (.var 2) (.cst (.int 0))) (.cst (.int 0))) [
    .ret (.cst (.str ".."))] [],
  .sub 2 (.cst (.int 0)) (.bin .sub (.idx (.var 2) (.cst (.int 0))) (.cst (.int 1))),
  .ite (.cmp .eq (.idx (.var 0) (.cst (.int 0))) (.cst (.str "int"))) [
    .ret (.ite (.cmp .ge (.idx (.var 0) (.cst (.int 1))) (.cst (.int 0))) (.bf .str [.idx (.var 0) (.cst (.int 1))]) (.bin .add (.cst (.str "~")) (.bf .str [.bin .sub (.cst (.int 0)) (.idx (.var 0) (.cst (.int 1)))])))] [],
  .ite (.cmp .eq (.idx (.var 0) (.cst (.int 0))) (.cst (.str "tuple"))) [
    .ret (.bin .add (.bin .add (.cst (.str "(")) (.meth .join (.cst (.str ", ")) [.lc (.call f__law_show [.var 3, .var 1, .var 2]) (.name 3) (.seq (.idx (.var 0) (.cst (.int 1)))) none [3]])) (.cst (.str ")")))] [],
  .ite (.cmp .eq (.idx (.var 0) (.cst (.int 0))) (.cst (.str "record"))) [
    .ret (.bin .add (.bin .add (.cst (.str "{")) (.meth .join (.cst (.str ", ")) [.lc (.bin .add (.bin .add (.idx (.var 4) (.cst (.int 0))) (.cst (.str " = "))) (.call f__law_show [.idx (.var 4) (.cst (.int 1)), .var 1, .var 2])) (.name 4) (.seq (.idx (.var 0) (.cst (.int 1)))) none [4]])) (.cst (.str "}")))] [],
  .ite (.or (.cmp .eq (.idx (.var 0) (.cst (.int 0))) (.cst (.str "con"))) (.cmp .eq (.idx (.var 0) (.cst (.int 0))) (.cst (.str "packet")))) [
    .ret (.call f__law_named [.idx (.var 0) (.cst (.int 2)), .idx (.var 0) (.cst (.int 3)), .var 1, .var 2])] [],
  .ite (.cmp .eq (.idx (.var 0) (.cst (.int 0))) (.cst (.str "ref"))) [
    .ret (.call f__law_named [.cst (.str "ref"), .idx (.var 1) (.idx (.var 0) (.cst (.int 1))), .var 1, .var 2])] [],
  .ret (.ite (.cmp .eq (.idx (.var 0) (.cst (.int 0))) (.cst (.str "exn"))) (.idx (.var 0) (.cst (.int 2))) (.cst (.str "fn")))]⟩
def d__law_show : FDef := ⟨"_law_show", ["value", "store", "left", "item", "field"], ["value", "store", "left"], m__law_show, topS 14⟩
def m__law_wide : MDef := ⟨4, [true], [
  .asg (.name 1) (.lc (.tup [.cst (.str "tuple"), .bf .tuple [.lc (.call f__law_value [.var 0, .cst (.int 1)]) (.name 3) (.range1 (.cst (.int 6))) none [3]]]) (.name 2) (.range1 (.bin .add (.cst (.int 2)) (.call f__law_take [.var 0, .cst (.int 4)]))) none [2]),
  .ret (.tup [.cst (.str "con"), .cst (.int 2), .cst (.str "Some"), .tup [.cst (.str "tuple"), .bf .tuple [.var 1]]])]⟩
def d__law_wide : FDef := ⟨"_law_wide", ["tape", "rows", "turn", "k"], ["tape"], m__law_wide, topS 15⟩
def m_law : MDef := ⟨7, [false], [
  .asg (.name 1) (.call f__law_tape [.var 0, .cst (.int 0)]),
  .asg (.name 2) (.bf .tuple [.lc (.call f__law_value [.var 1, .cst (.int 2)]) (.name 6) (.range1 (.cst (.int 3))) none [6]]),
  .asg (.name 3) (.call f__law_value [.var 1, .cst (.int 4)]),
  .asg (.name 4) (.bin .add (.cst (.int 1)) (.call f__law_take [.var 1, .cst (.int 90)])),
  .ite (.cmp .eq (.call f__law_take [.var 1, .cst (.int 2)]) (.cst (.int 0))) [
    .asg (.name 4) (.bin .add (.cst (.int 1)) (.call f__law_take [.var 1, .cst (.int 9)]))] [],
  .ite (.cmp .eq (.call f__law_take [.var 1, .cst (.int 6)]) (.cst (.int 0))) [
    .asg (.name 4) (.bin .add (.cst (.int 91)) (.call f__law_take [.var 1, .cst (.int 110)])),
    .asg (.name 2) (.bf .tuple [.lc (.tup [.cst (.str "int"), .var 6]) (.name 6) (.range1 (.cst (.int 3))) none [6]]),
    .asg (.name 3) (.tup [.cst (.str "tuple"), .bf .tuple [.lc (.call f__law_wide [.var 1]) (.name 6) (.range1 (.cst (.int 6))) none [6]]])] [],
  .asg (.name 5) (.call f_show [.var 3, .var 2, .var 4]),
  .ite (.or (.not (.isi (.var 5) [.str])) (.cmp .ne (.var 5) (.call f__law_show [.var 3, .var 2, .lst [.var 4]]))) [
    .ret (.cst (.bool false))] [],
  .ret (.cmp .eq (.call f_show [.tup [.cst (.str "int"), .neg (.var 4)], .tup [], .cst (.int 1)]) (.bin .add (.cst (.str "~")) (.bf .str [.var 4])))]⟩
def d_law : FDef := ⟨"law", ["script", "tape", "store", "value", "limit", "told", "k"], ["script"], m_law, topS 16⟩
def defs : List FDef := [d_integer_text, d_has_parts, d_argument_pieces, d_list_pieces, d_pieces_of, d_show, d__law_mix, d__law_tape, d__law_take, d__law_boolean, d__law_value, d__law_named, d__law_show, d__law_wide, d_law]
def cons : List (Str × D) := []
def dics : List (Str × List (Str × D)) := []
def tp : Tp := ⟨defs, cons, dics⟩
theorem chk : ∀ d ∈ tp.ds, defC (fnsOf tp.ds) tp.cs d = true := allB (by decide +kernel)
theorem b_integer_text : BindD d_integer_text := fun _ _ _ _ _ _ us hl => match us, hl with | [_], _ => rfl
theorem b_has_parts : BindD d_has_parts := fun _ _ _ _ _ _ us hl => match us, hl with | [_], _ => rfl
theorem b_argument_pieces : BindD d_argument_pieces := fun _ _ _ _ _ _ us hl => match us, hl with | [_, _], _ => rfl
theorem b_list_pieces : BindD d_list_pieces := fun _ _ _ _ _ _ us hl => match us, hl with | [_, _, _, _], _ => rfl
theorem b_pieces_of : BindD d_pieces_of := fun _ _ _ _ _ _ us hl => match us, hl with | [_, _], _ => rfl
theorem b_show : BindD d_show := fun _ _ _ _ _ _ us hl => match us, hl with | [_, _, _], _ => rfl
theorem b__law_mix : BindD d__law_mix := fun _ _ _ _ _ _ us hl => match us, hl with | [_], _ => rfl
theorem b__law_tape : BindD d__law_tape := fun _ _ _ _ _ _ us hl => match us, hl with | [_, _], _ => rfl
theorem b__law_take : BindD d__law_take := fun _ _ _ _ _ _ us hl => match us, hl with | [_, _], _ => rfl
theorem b__law_boolean : BindD d__law_boolean := fun _ _ _ _ _ _ us hl => match us, hl with | [_], _ => rfl
theorem b__law_value : BindD d__law_value := fun _ _ _ _ _ _ us hl => match us, hl with | [_, _], _ => rfl
theorem b__law_named : BindD d__law_named := fun _ _ _ _ _ _ us hl => match us, hl with | [_, _, _, _], _ => rfl
theorem b__law_show : BindD d__law_show := fun _ _ _ _ _ _ us hl => match us, hl with | [_, _, _], _ => rfl
theorem b__law_wide : BindD d__law_wide := fun _ _ _ _ _ _ us hl => match us, hl with | [_], _ => rfl
theorem b_law : BindD d_law := fun _ _ _ _ _ _ us hl => match us, hl with | [_], _ => rfl
theorem binds : ∀ d ∈ tp.ds, BindD d := AllP.all (.cons b_integer_text (.cons b_has_parts (.cons b_argument_pieces (.cons b_list_pieces (.cons b_pieces_of (.cons b_show (.cons b__law_mix (.cons b__law_tape (.cons b__law_take (.cons b__law_boolean (.cons b__law_value (.cons b__law_named (.cons b__law_show (.cons b__law_wide (.cons b_law .nil)))))))))))))))
abbrev Rw : PySem.W.OpenRow := PySem.W.OpenLaw.row PySem.Challenge.rw_shapewright_k56_written_form_of_values
abbrev hk : PySem.W.Hook := hookM 4 tp
def ob (s : PySem.W.SharedT) : AlM := obsMG 4 tp (HandSHeadRun.getT s)
theorem ob_eq (s : PySem.W.SharedT) : ob s = hk.obs s.abs := obsMG_eq (HandSHeadRun.getT_eq s)
def loose0 : List PySem.Str := ["integer_text", "has_parts", "argument_pieces", "list_pieces", "pieces_of", "show", "_law_mix", "_law_tape", "_law_take", "_law_boolean", "_law_value", "_law_named", "_law_show", "_law_wide"]
def loose : List PySem.Str := loose0
theorem run (w : World) : HandSHeadRun.RunEq Rw (PySem.W.view Rw.prog [16]) hk ob 4000 loose w := by
  intro os
  kernel_rfl
def topLaw : DefRec := HandSHeadRun.topDef Rw.prog 16
end K56

namespace K56
open PySem PySem.Spec L2 Mp
abbrev TT := tp.ds.map (·.m)
def mixI (n : Int) : Int := 
  let n := (n * 6364136223846793005 + 1442695040888963407).fmod 18446744073709551616
  ((n*n).fdiv 4294967296 + n * 69621).fmod 18446744073709551557
theorem mix_lt (n : Int) : 0 ≤ mixI n ∧ mixI n < 18446744073709551557 := ⟨Int.fmod_nonneg_of_pos _ (by decide), Int.fmod_lt_of_pos _ (by decide)⟩
theorem c_mix (k : Nat) (i : Int) {Q : R → List D → Prop} (q : Q (.dat (.int (mixI i))) []) : CL (callD TT (k+1)) f__law_mix [.shr (.int i)] Q := by
  have h2 := Int.fmod_nonneg_of_pos (i * 6364136223846793005 + 1442695040888963407) (b := 18446744073709551616) (by decide)
  have h3 := Int.fmod_lt_of_pos (i * 6364136223846793005 + 1442695040888963407) (b := 18446744073709551616) (by decide)
  refine cl_def (m := m__law_mix) (ρ := [some (.shr (.int i))]) rfl rfl rfl ?_
  repeat walk_at "st"
  exact q
def tapeD (s : List Int) (p : Nat) (a b c : Int) : D := .list [.list (s.map .int), .int p, .int a, .int b, .int c]
theorem idx_nat {xs : List D} {p : Nat} {z : D} (h : xs[p]? = some z) : idxD (.list xs) (.int p) = some z := by
  show L2.atI xs p = some z
  rw [L2.atI_nat h]
theorem c_take (k : Nat) (s : List Int) (p : Nat) (a b c m : Int) (hm : 1 ≤ m) (hm2 : m < 2 ^ 64) {Q : R → List D → Prop} (q : ∀ p' a' b' n, 0 ≤ n → n < m → Q (.dat (.int n)) [tapeD s p' a' b' c]) :
    CL (callD TT (k+2)) f__law_take [.own (tapeD s p a b c), .shr (.int m)] Q := by
  refine cl_def (m := m__law_take) (ρ := [some (.own true (tapeD s p a b c)), some (.shr (.int m)), none, none]) rfl rfl rfl ?_
  have f1 := fun x : Int => Int.fmod_nonneg_of_pos x (b := m) (by omega)
  have f2 := fun x : Int => Int.fmod_lt_of_pos x (b := m) (by omega)
  by_cases h1 : a < m
  · by_cases h2 : (p : Int) < ((s.map PyData.int).length : Int)
    · have hp : p < s.length := by simpa using h2
      have hx : (s.map PyData.int)[p]? = some (.int s[p]) := by rw [List.getElem?_map, List.getElem?_eq_getElem hp]; rfl
      generalize s[p] = cell at hx
      repeat walk_at "st"
      refine ⟨_, _, _, rfl, rfl, idx_nat hx, ?_⟩
      repeat walk_at "st"
      refine br_s (fun h => ?_) (fun h => ?_)
      · repeat walk_at "st"
        refine c_mix _ _ ?_
        repeat walk_at "st"
        refine br_s (fun h => ?_) (fun h => ?_)
        · repeat walk_at "st"
          exact q (p + 1) _ _ _ (f1 _) (f2 _)
        · repeat walk_at "st"
          refine c_mix _ _ ?_
          repeat walk_at "st"
          refine c_mix _ _ ?_
          repeat walk_at "st"
          exact q (p + 1) _ _ _ (f1 _) (f2 _)
      · repeat walk_at "st"
        refine c_mix _ _ ?_
        repeat walk_at "st"
        refine br_s (fun h => ?_) (fun h => ?_)
        · repeat walk_at "st"
          exact q (p + 1) _ _ _ (f1 _) (f2 _)
        · repeat walk_at "st"
          refine c_mix _ _ ?_
          repeat walk_at "st"
          refine c_mix _ _ ?_
          repeat walk_at "st"
          exact q (p + 1) _ _ _ (f1 _) (f2 _)
    · repeat walk_at "st"
      refine c_mix _ _ ?_
      repeat walk_at "st"
      exact q p _ _ _ (f1 _) (f2 _)
  · repeat walk_at "st"
    exact q p _ _ _ (f1 _) (f2 _)
end K56

/-! k56: values, their written form with a counter; the same as pieces on a stack. No program in sight. -/
namespace K56
open PySem Mp SX
abbrev Tx := List Nat
inductive Vl where
  | int (i : Int)
  | con (pk : Bool) (a : Int) (name : Tx) (arg : Option Vl)
  | ref (j : Nat)
  | tup (vs : List Vl)
  | fn
  | exn
  | rcd (fs : List (Tx × Vl))
deriving Inhabited
mutual
def enc : Vl → D
  | .int i => .tuple [.str "int", .int i]
  | .con pk a name arg => .tuple [.str (if pk then "packet" else "con"), .int a, .str (S name), encO arg]
  | .ref j => .tuple [.str "ref", .int j]
  | .tup vs => .tuple [.str "tuple", .tuple (encL vs)]
  | .fn => .tuple [.str "fun", .str "x", .tuple [.str "var", .str "x"], .none]
  | .exn => .tuple [.str "exn", .int 4, .str "E"]
  | .rcd fs => .tuple [.str "record", .tuple (encF fs)]
def encO : Option Vl → D
  | none => .none
  | some v => enc v
def encL : List Vl → List D
  | [] => []
  | v :: vs => enc v :: encL vs
def encF : List (Tx × Vl) → List D
  | [] => []
  | (x, v) :: fs => .tuple [.str (S x), enc v] :: encF fs
end
theorem encL_map : ∀ vs : List Vl, encL vs = vs.map enc
  | [] => rfl
  | v :: vs => by unfold encL; rw [encL_map vs]; rfl
theorem encF_map : ∀ fs : List (Tx × Vl), encF fs = fs.map fun f => .tuple [.str (S f.1), enc f.2]
  | [] => rfl
  | (x, v) :: fs => by unfold encF; rw [encF_map fs]; rfl
/-- the text of a number -/
def itx (i : Int) : Tx := if i < 0 then 126 :: TL.numL (-i).toNat else TL.numL i.toNat
/-- has it parts (of an argument)? -/
def prt : Vl → Bool
  | .con _ _ _ arg => arg.isSome
  | .ref _ => true
  | _ => false
abbrev TwoDots : Tx := [46, 46]
abbrev Comma : Tx := [44, 32]
/-- one after another, the counter handed on -/
def seqS {α : Type} (f : α → Nat → Tx × Nat) : List α → Nat → List Tx × Nat
  | [], l => ([], l)
  | v :: vs, l => ((f v l).1 :: (seqS f vs (f v l).2).1, (seqS f vs (f v l).2).2)
def named (f : Vl → Nat → Tx × Nat) (name : Tx) (arg : Option Vl) (l : Nat) : Tx × Nat := match arg with
  | none => (name, l)
  | some v => if l = 0 then (name ++ [32, 46, 46], 0) else if prt v then (name ++ [32, 40] ++ (f v l).1 ++ [41], (f v l).2) else (name ++ [32] ++ (f v l).1, (f v l).2)
/-- a value's text with the counter at l; n: fuel -/
def sh (st : List Vl) : Nat → Vl → Nat → Tx × Nat
  | 0, _, _ => (TwoDots, 0)
  | n + 1, v, l => match l with
    | 0 => (TwoDots, 0)
    | l + 1 => match v with
      | .int i => (itx i, l)
      | .con _ _ name arg => named (sh st n) name arg l
      | .ref j => named (sh st n) [114, 101, 102] (some (st.getD j .fn)) l
      | .tup vs => ([40] ++ TL.joinL Comma (seqS (sh st n) vs l).1 ++ [41], (seqS (sh st n) vs l).2)
      | .fn => ([102, 110], l)
      | .exn => ([69], l)
      | .rcd fs => ([123] ++ TL.joinL Comma (seqS (fun f l => (f.1 ++ [32, 61, 32] ++ (sh st n f.2 l).1, (sh st n f.2 l).2)) fs l).1 ++ [125], (seqS (fun f l => (f.1 ++ [32, 61, 32] ++ (sh st n f.2 l).1, (sh st n f.2 l).2)) fs l).2)
theorem seqS_le {α : Type} {f : α → Nat → Tx × Nat} (h : ∀ v l, (f v l).2 ≤ l) : ∀ (vs : List α) (l : Nat), (seqS f vs l).2 ≤ l
  | [], l => Nat.le_refl _
  | v :: vs, l => Nat.le_trans (seqS_le h vs _) (h v l)
theorem named_le {f : Vl → Nat → Tx × Nat} (h : ∀ v l, (f v l).2 ≤ l) (name : Tx) (arg : Option Vl) (l : Nat) : (named f name arg l).2 ≤ l := by
  unfold named
  split
  · exact Nat.le_refl _
  · split
    · exact Nat.zero_le _
    · split <;> exact h _ _
theorem sh_le (st : List Vl) : ∀ (n : Nat) (v : Vl) (l : Nat), (sh st n v l).2 ≤ l
  | 0, _, _ => Nat.zero_le _
  | n + 1, v, 0 => Nat.le_refl _
  | n + 1, v, l + 1 => by
    have ih := sh_le st n
    cases v with
    | int i => exact Nat.le_succ _
    | con p a name arg => exact Nat.le_succ_of_le (named_le ih _ _ _)
    | ref j => exact Nat.le_succ_of_le (named_le ih _ _ _)
    | tup vs => exact Nat.le_succ_of_le (seqS_le ih _ _)
    | fn => exact Nat.le_succ _
    | exn => exact Nat.le_succ _
    | rcd fs => exact Nat.le_succ_of_le (seqS_le (f := fun (f : Tx × Vl) l => (f.1 ++ [32, 61, 32] ++ (sh st n f.2 l).1, (sh st n f.2 l).2)) (fun v l => ih v.2 l) _ _)
theorem seqS_congr {α : Type} {f g : α → Nat → Tx × Nat} {b : Nat} (h : ∀ v l, l ≤ b → f v l = g v l) (hl : ∀ v l, (f v l).2 ≤ l) : ∀ (vs : List α) (l : Nat), l ≤ b → seqS f vs l = seqS g vs l
  | [], l, _ => rfl
  | v :: vs, l, hb => by
    unfold seqS
    rw [← h v l hb, seqS_congr h hl vs _ (Nat.le_trans (hl v l) hb)]
theorem named_congr {f g : Vl → Nat → Tx × Nat} {b : Nat} (h : ∀ v l, l ≤ b → f v l = g v l) (name : Tx) (arg : Option Vl) (l : Nat) (hb : l ≤ b) : named f name arg l = named g name arg l := by
  unfold named
  split
  · rfl
  · rw [h _ _ hb]
theorem sh_fuel (st : List Vl) : ∀ (n m : Nat) (v : Vl) (l : Nat), l ≤ n → l ≤ m → sh st n v l = sh st m v l
  | 0, 0, _, _, _, _ => rfl
  | 0, m + 1, v, l, h, _ => by
    have : l = 0 := by omega
    subst this
    rfl
  | n + 1, 0, v, l, _, h => by
    have : l = 0 := by omega
    subst this
    rfl
  | n + 1, m + 1, v, 0, _, _ => rfl
  | n + 1, m + 1, v, l + 1, h1, h2 => by
    have ih : ∀ v k, k ≤ l → sh st n v k = sh st m v k := fun v k hk => sh_fuel st n m v k (by omega) (by omega)
    cases v with
    | int i => rfl
    | con p a name arg => exact named_congr ih _ _ _ (Nat.le_refl _)
    | ref j => exact named_congr ih [114, 101, 102] (some (st.getD j .fn)) _ (Nat.le_refl _)
    | tup vs =>
      show (_, _) = (_, _)
      rw [seqS_congr ih (sh_le st n) vs l (Nat.le_refl _)]
    | fn => rfl
    | exn => rfl
    | rcd fs =>
      show (_, _) = (_, _)
      rw [seqS_congr (f := fun (f : Tx × Vl) l => (f.1 ++ [32, 61, 32] ++ (sh st n f.2 l).1, (sh st n f.2 l).2)) (g := fun (f : Tx × Vl) l => (f.1 ++ [32, 61, 32] ++ (sh st m f.2 l).1, (sh st m f.2 l).2)) (fun v k hk => by rw [ih v.2 k hk]) (fun v l => sh_le st n v.2 l) fs l (Nat.le_refl _)]
/-! ### pieces -/
inductive Pc where
  | s (x : Tx)
  | v (x : Vl) (b : Bool)
def encP : Pc → D
  | .s x => .str (S x)
  | .v x b => .tuple [enc x, .bool b]
def rd (st : List Vl) : List Pc → Nat → Tx × Nat
  | [], l => ([], l)
  | .s x :: ps, l => (x ++ (rd st ps l).1, (rd st ps l).2)
  | .v x b :: ps, l => if l = 0 then (TwoDots ++ (rd st ps 0).1, (rd st ps 0).2) else
    ((if b then [40] ++ (sh st l x l).1 ++ [41] else (sh st l x l).1) ++ (rd st ps (sh st l x l).2).1, (rd st ps (sh st l x l).2).2)
def argP (name : Tx) : Option Vl → List Pc
  | none => [.s name]
  | some v => [.s (name ++ [32]), .v v (prt v)]
/-- heads and parts -/
def lpP : Bool → List (Tx × Vl) → List Pc
  | _, [] => []
  | c, (x, v) :: r => .s ((if c then Comma else []) ++ x) :: .v v false :: lpP true r
def pcs (st : List Vl) : Vl → List Pc
  | .int i => [.s (itx i)]
  | .con _ _ name arg => argP name arg
  | .ref j => argP [114, 101, 102] (some (st.getD j .fn))
  | .tup vs => .s [40] :: (lpP false (vs.map fun v => ([], v)) ++ [.s [41]])
  | .fn => [.s [102, 110]]
  | .exn => [.s [69]]
  | .rcd fs => .s [123] :: (lpP false (fs.map fun f => (f.1 ++ [32, 61, 32], f.2)) ++ [.s [125]])
theorem rd_app (st : List Vl) : ∀ (ps qs : List Pc) (l : Nat), rd st (ps ++ qs) l = ((rd st ps l).1 ++ (rd st qs (rd st ps l).2).1, (rd st qs (rd st ps l).2).2)
  | [], qs, l => rfl
  | .s x :: ps, qs, l => by
    simp only [List.cons_append, rd, rd_app st ps qs l, List.append_assoc]
  | .v x b :: ps, qs, l => by
    simp only [List.cons_append, rd]
    split
    · rw [rd_app st ps qs 0]
      simp
    · rw [rd_app st ps qs _]
      simp only [List.append_assoc]
/-- a list's pieces -/
theorem rd_lp (st : List Vl) : ∀ (c : Bool) (xs : List (Tx × Vl)) (l : Nat), rd st (lpP c xs) l =
    (match xs with | [] => [] | _ :: _ => (if c then Comma else []) ++ TL.joinL Comma (seqS (fun f l => (f.1 ++ (sh st l f.2 l).1, (sh st l f.2 l).2)) xs l).1, (seqS (fun f l => (f.1 ++ (sh st l f.2 l).1, (sh st l f.2 l).2)) xs l).2)
  | _, [], l => rfl
  | c, (x, v) :: r, l => by
    have e : rd st (.v v false :: lpP true r) l = ((sh st l v l).1 ++ (rd st (lpP true r) (sh st l v l).2).1, (rd st (lpP true r) (sh st l v l).2).2) := by
      simp only [rd]
      split
      · rename_i h
        subst h
        rfl
      · rfl
    have e2 : rd st (lpP c ((x, v) :: r)) l = (((if c then Comma else []) ++ x) ++ (rd st (.v v false :: lpP true r) l).1, (rd st (.v v false :: lpP true r) l).2) := rfl
    rw [e2, e, rd_lp st true r]
    cases r with
    | nil => simp [seqS, TL.joinL]
    | cons y r => simp [seqS, TL.joinL]
theorem seqS_map {α β : Type} (f : β → Nat → Tx × Nat) (g : α → β) : ∀ (xs : List α) (l : Nat), seqS f (xs.map g) l = seqS (fun x l => f (g x) l) xs l
  | [], l => rfl
  | x :: xs, l => by
    show ((f (g x) l).1 :: (seqS f (xs.map g) (f (g x) l).2).1, (seqS f (xs.map g) (f (g x) l).2).2) = _
    rw [seqS_map f g xs]
    rfl
theorem rd_lp0 (st : List Vl) (xs : List (Tx × Vl)) (l : Nat) : rd st (lpP false xs) l = (TL.joinL Comma (seqS (fun f l => (f.1 ++ (sh st l f.2 l).1, (sh st l f.2 l).2)) xs l).1, (seqS (fun f l => (f.1 ++ (sh st l f.2 l).1, (sh st l f.2 l).2)) xs l).2) := by
  rw [rd_lp]
  cases xs with
  | nil => rfl
  | cons x xs => simp
theorem rd_brk (st : List Vl) (a b : Nat) (xs : List (Tx × Vl)) (l : Nat) : rd st (.s [a] :: (lpP false xs ++ [.s [b]])) l =
    ([a] ++ TL.joinL Comma (seqS (fun f l => (f.1 ++ (sh st l f.2 l).1, (sh st l f.2 l).2)) xs l).1 ++ [b], (seqS (fun f l => (f.1 ++ (sh st l f.2 l).1, (sh st l f.2 l).2)) xs l).2) := by
  simp only [rd]
  rw [rd_app, rd_lp0]
  simp [rd]
/-- one piece laid open -/
theorem rd_open (st : List Vl) (v : Vl) (l : Nat) : rd st (pcs st v) l = sh st (l + 1) v (l + 1) := by
  have arg : ∀ name arg, rd st (argP name arg) l = named (sh st l) name arg l := fun name arg => by
    cases arg with
    | none => simp [argP, rd, named]
    | some v =>
      simp only [argP, rd, named]
      split
      · simp
      · split <;> simp
  cases v with
  | int i => simp [pcs, rd, sh]
  | con p a name a2 => exact arg name a2
  | ref j => exact arg [114, 101, 102] (some (st.getD j .fn))
  | fn => rfl
  | exn => rfl
  | tup vs =>
    show rd st (.s [40] :: (lpP false (vs.map fun v => (([] : Tx), v)) ++ [.s [41]])) l = ([40] ++ TL.joinL Comma (seqS (sh st l) vs l).1 ++ [41], (seqS (sh st l) vs l).2)
    rw [rd_brk, seqS_map]
    have e : seqS (fun (x : Vl) k => (([] : Tx) ++ (sh st k x k).1, (sh st k x k).2)) vs l = seqS (sh st l) vs l := seqS_congr (b := l) (fun v k hk => sh_fuel st k l v k (Nat.le_refl _) hk) (fun v k => sh_le st k v k) vs l (Nat.le_refl _)
    rw [e]
  | rcd fs =>
    show rd st (.s [123] :: (lpP false (fs.map fun f => (f.1 ++ [32, 61, 32], f.2)) ++ [.s [125]])) l = ([123] ++ TL.joinL Comma (seqS (fun f l' => (f.1 ++ [32, 61, 32] ++ (sh st l f.2 l').1, (sh st l f.2 l').2)) fs l).1 ++ [125], (seqS (fun f l' => (f.1 ++ [32, 61, 32] ++ (sh st l f.2 l').1, (sh st l f.2 l').2)) fs l).2)
    rw [rd_brk, seqS_map]
    have e : seqS (fun (x : Tx × Vl) k => ((x.1 ++ [32, 61, 32]) ++ (sh st k x.2 k).1, (sh st k x.2 k).2)) fs l = seqS (fun (f : Tx × Vl) l' => (f.1 ++ [32, 61, 32] ++ (sh st l f.2 l').1, (sh st l f.2 l').2)) fs l := seqS_congr (f := fun (x : Tx × Vl) k => ((x.1 ++ [32, 61, 32]) ++ (sh st k x.2 k).1, (sh st k x.2 k).2)) (g := fun (f : Tx × Vl) l' => (f.1 ++ [32, 61, 32] ++ (sh st l f.2 l').1, (sh st l f.2 l').2)) (b := l) (fun v k hk => by
      show (_, _) = (_, _)
      rw [sh_fuel st k l v.2 k (Nat.le_refl _) hk]) (fun v k => sh_le st k v.2 k) fs l (Nat.le_refl _)
    rw [e]
/-- the step of the stack: a value with room is laid open -/
theorem rd_step (st : List Vl) (x : Vl) (b : Bool) (ps : List Pc) (l : Nat) : rd st (.v x b :: ps) (l + 1) = rd st ((if b then [.s [40]] ++ pcs st x ++ [.s [41]] else pcs st x) ++ ps) l := by
  have e : rd st (.v x b :: ps) (l + 1) = ((if b then [40] ++ (sh st (l + 1) x (l + 1)).1 ++ [41] else (sh st (l + 1) x (l + 1)).1) ++ (rd st ps (sh st (l + 1) x (l + 1)).2).1, (rd st ps (sh st (l + 1) x (l + 1)).2).2) := if_neg (Nat.succ_ne_zero l)
  rw [e, rd_app]
  cases b with
  | false =>
    simp only [Bool.false_eq_true, if_false]
    rw [rd_open]
  | true =>
    have e2 : rd st ([.s [40]] ++ pcs st x ++ [.s [41]]) l = ([40] ++ (sh st (l + 1) x (l + 1)).1 ++ [41], (sh st (l + 1) x (l + 1)).2) := by
      rw [List.append_assoc]
      show ([40] ++ (rd st (pcs st x ++ [.s [41]]) l).1, (rd st (pcs st x ++ [.s [41]]) l).2) = _
      rw [rd_app, rd_open]
      simp [rd]
    simp only [if_true]
    rw [e2]
end K56

/-! k56: the canonical text, how long it is. -/
namespace K56
open PySem Mp SX
def sw (st : List Vl) (v : Vl) (l : Nat) : Tx × Nat := sh st l v l
def swF (st : List Vl) (f : Tx × Vl) (l : Nat) : Tx × Nat := (f.1 ++ [32, 61, 32] ++ (sw st f.2 l).1, (sw st f.2 l).2)
section
variable (st : List Vl)
theorem sw_le (v : Vl) (l : Nat) : (sw st v l).2 ≤ l := sh_le st l v l
theorem sw_zero (v : Vl) : sw st v 0 = (TwoDots, 0) := rfl
theorem sw_int (i : Int) (l : Nat) : sw st (.int i) (l + 1) = (itx i, l) := rfl
theorem sw_fn (l : Nat) : sw st .fn (l + 1) = ([102, 110], l) := rfl
theorem sw_exn (l : Nat) : sw st .exn (l + 1) = ([69], l) := rfl
theorem named_sw (name : Tx) (arg : Option Vl) (l : Nat) : named (sh st l) name arg l = named (sw st) name arg l :=
  named_congr (b := l) (fun v k hk => sh_fuel st l k v k hk (Nat.le_refl _)) name arg l (Nat.le_refl _)
theorem sw_con (pk : Bool) (a : Int) (name : Tx) (arg : Option Vl) (l : Nat) : sw st (.con pk a name arg) (l + 1) = named (sw st) name arg l := named_sw st name arg l
theorem sw_ref (j : Nat) (l : Nat) : sw st (.ref j) (l + 1) = named (sw st) [114, 101, 102] (some (st.getD j .fn)) l := named_sw st [114, 101, 102] (some (st.getD j .fn)) l
theorem sw_tup (vs : List Vl) (l : Nat) : sw st (.tup vs) (l + 1) = ([40] ++ TL.joinL Comma (seqS (sw st) vs l).1 ++ [41], (seqS (sw st) vs l).2) := by
  show ([40] ++ TL.joinL Comma (seqS (sh st l) vs l).1 ++ [41], (seqS (sh st l) vs l).2) = _
  rw [seqS_congr (g := sw st) (b := l) (fun v k hk => sh_fuel st l k v k hk (Nat.le_refl _)) (sh_le st l) vs l (Nat.le_refl _)]
theorem sw_rcd (fs : List (Tx × Vl)) (l : Nat) : sw st (.rcd fs) (l + 1) = ([123] ++ TL.joinL Comma (seqS (swF st) fs l).1 ++ [125], (seqS (swF st) fs l).2) := by
  show ([123] ++ TL.joinL Comma (seqS (fun f l' => (f.1 ++ [32, 61, 32] ++ (sh st l f.2 l').1, (sh st l f.2 l').2)) fs l).1 ++ [125], (seqS (fun f l' => (f.1 ++ [32, 61, 32] ++ (sh st l f.2 l').1, (sh st l f.2 l').2)) fs l).2) = _
  rw [seqS_congr (f := fun (f : Tx × Vl) l' => (f.1 ++ [32, 61, 32] ++ (sh st l f.2 l').1, (sh st l f.2 l').2)) (g := swF st) (b := l) (fun v k hk => by
    show (_, _) = (_, _)
    unfold sw
    rw [sh_fuel st l k v.2 k hk (Nat.le_refl _)]) (fun v k => sh_le st l v.2 k) fs l (Nat.le_refl _)]
theorem swF_le (f : Tx × Vl) (l : Nat) : (swF st f l).2 ≤ l := sw_le st f.2 l
end
/-! ### well made -/
mutual
def wf (ns : Nat) : Vl → Bool
  | .int i => decide (-10 < i) && decide (i < 10)
  | .con _ _ name arg => decide (name.length ≤ 8) && wfO ns arg
  | .ref j => decide (j < ns)
  | .tup vs => decide (vs.length ≤ 6) && wfL ns vs
  | .fn => true
  | .exn => true
  | .rcd fs => decide (fs.length ≤ 6) && wfF ns fs
def wfO (ns : Nat) : Option Vl → Bool
  | none => true
  | some v => wf ns v
def wfL (ns : Nat) : List Vl → Bool
  | [] => true
  | v :: vs => wf ns v && wfL ns vs
def wfF (ns : Nat) : List (Tx × Vl) → Bool
  | [] => true
  | (x, v) :: fs => decide (x.length ≤ 8) && wf ns v && wfF ns fs
end
theorem wfL_mem {ns : Nat} : ∀ {vs : List Vl}, wfL ns vs = true → ∀ v ∈ vs, wf ns v = true
  | [], _, v, hv => by cases hv
  | x :: xs, h, v, hv => by
    unfold wfL at h
    rw [Bool.and_eq_true] at h
    rcases List.mem_cons.mp hv with rfl | hv
    · exact h.1
    · exact wfL_mem h.2 v hv
theorem wfF_mem {ns : Nat} : ∀ {fs : List (Tx × Vl)}, wfF ns fs = true → ∀ f ∈ fs, f.1.length ≤ 8 ∧ wf ns f.2 = true
  | [], _, v, hv => by cases hv
  | (x, w) :: xs, h, v, hv => by
    unfold wfF at h
    rw [Bool.and_eq_true, Bool.and_eq_true] at h
    rcases List.mem_cons.mp hv with rfl | hv
    · exact ⟨of_decide_eq_true h.1.1, h.1.2⟩
    · exact wfF_mem h.2 v hv
theorem itx_len {i : Int} (h1 : -10 < i) (h2 : i < 10) : (itx i).length ≤ 2 := by
  unfold itx
  split
  · rw [TL.numL_lt (by omega)]
    simp
  · rw [TL.numL_lt (by omega)]
    simp
theorem join_len {α : Type} {f : α → Nat → Tx × Nat} {c : Nat} : ∀ (vs : List α) (l : Nat), (∀ v ∈ vs, ∀ k, k ≤ l → (f v k).2 ≤ k ∧ (f v k).1.length ≤ 100 * (k - (f v k).2) + c) → (TL.joinL Comma (seqS f vs l).1).length ≤ 100 * (l - (seqS f vs l).2) + vs.length * (c + 2)
  | [], l, _ => by simp [seqS, TL.joinL]
  | [v], l, h => by
    have := h v List.mem_cons_self l (Nat.le_refl _)
    simp [seqS, TL.joinL]
    omega
  | v :: w :: vs, l, h => by
    have h1 := h v List.mem_cons_self l (Nat.le_refl _)
    have ih := join_len (w :: vs) (f v l).2 fun u hu k hk => h u (List.mem_cons_of_mem _ hu) k (by omega)
    have hle : (seqS f (w :: vs) (f v l).2).2 ≤ (f v l).2 := by
      have : ∀ (us : List α) (k : Nat), k ≤ l → (∀ u ∈ us, ∀ k, k ≤ l → (f u k).2 ≤ k) → (seqS f us k).2 ≤ k := fun us => by
        induction us with
        | nil => intro k _ _; exact Nat.le_refl _
        | cons u us ih =>
          intro k hk hu
          have q := hu u List.mem_cons_self k hk
          exact Nat.le_trans (ih (f u k).2 (by omega) fun u' m => hu u' (List.mem_cons_of_mem _ m)) q
      exact this _ _ h1.1 fun u hu k hk => (h u (List.mem_cons_of_mem _ hu) k hk).1
    have e : (TL.joinL Comma (seqS f (v :: w :: vs) l).1) = (f v l).1 ++ (Comma ++ TL.joinL Comma (seqS f (w :: vs) (f v l).2).1) := rfl
    have e2 : (seqS f (v :: w :: vs) l).2 = (seqS f (w :: vs) (f v l).2).2 := rfl
    rw [e, e2, List.length_append, List.length_append]
    have : Comma.length = 2 := rfl
    have m : (v :: w :: vs).length * (c + 2) = (w :: vs).length * (c + 2) + (c + 2) := by
      rw [List.length_cons, Nat.add_mul, Nat.one_mul]
    omega
theorem named_len {st : List Vl} {name : Tx} {arg : Option Vl} {l : Nat} (hn : name.length ≤ 8) (h : ∀ v, arg = some v → (sw st v l).1.length ≤ 100 * (l - (sw st v l).2) + 2) : (named (sw st) name arg l).1.length ≤ 100 * (l + 1 - (named (sw st) name arg l).2) + 2 := by
  unfold named
  split
  · show name.length ≤ _
    omega
  · rename_i v
    have q := h v rfl
    have q2 := sw_le st v l
    split
    · simp
      omega
    · split
      · simp
        omega
      · simp
        omega
theorem sw_len (st : List Vl) (hst : ∀ v ∈ st, wf st.length v = true) : ∀ (l : Nat) (v : Vl), wf st.length v = true → (sw st v l).1.length ≤ 100 * (l - (sw st v l).2) + 2 := fun l => by
  induction l using Nat.strongRecOn with
  | ind l ih =>
    intro v hv
    cases l with
    | zero => exact Nat.le_refl _
    | succ l =>
      cases v with
      | int i =>
        unfold wf at hv
        rw [Bool.and_eq_true] at hv
        rw [sw_int]
        have := itx_len (of_decide_eq_true hv.1) (of_decide_eq_true hv.2)
        show (itx i).length ≤ 100 * (l + 1 - l) + 2
        omega
      | con pk a name arg =>
        unfold wf at hv
        rw [Bool.and_eq_true] at hv
        rw [sw_con]
        refine named_len (of_decide_eq_true hv.1) fun v e => ih l (Nat.lt_succ_self _) v ?_
        subst e
        exact hv.2
      | ref j =>
        unfold wf at hv
        rw [sw_ref]
        have hj : j < st.length := of_decide_eq_true hv
        refine named_len (by decide) fun v e => ih l (Nat.lt_succ_self _) v ?_
        cases e
        rw [List.getD_eq_getElem?_getD, List.getElem?_eq_getElem hj]
        exact hst _ (List.getElem_mem hj)
      | fn =>
        rw [sw_fn]
        show 2 ≤ 100 * (l + 1 - l) + 2
        omega
      | exn =>
        rw [sw_exn]
        show 1 ≤ 100 * (l + 1 - l) + 2
        omega
      | tup vs =>
        unfold wf at hv
        rw [Bool.and_eq_true] at hv
        rw [sw_tup]
        have j := join_len (f := sw st) (c := 2) vs l fun v hm k hk => ⟨sw_le st v k, ih k (by omega) v (wfL_mem hv.2 v hm)⟩
        have := of_decide_eq_true hv.1
        have q := seqS_le (sw_le st) vs l
        have m : vs.length * (2 + 2) ≤ 6 * 4 := Nat.mul_le_mul_right 4 this
        simp
        omega
      | rcd fs =>
        unfold wf at hv
        rw [Bool.and_eq_true] at hv
        rw [sw_rcd]
        have j := join_len (f := swF st) (c := 13) fs l fun v hm k hk => ⟨swF_le st v k, by
          have q := ih k (by omega) v.2 (wfF_mem hv.2 v hm).2
          have q2 := (wfF_mem hv.2 v hm).1
          simp [swF]
          omega⟩
        have := of_decide_eq_true hv.1
        have q := seqS_le (swF_le st) fs l
        have m : fs.length * (13 + 2) ≤ 6 * 15 := Nat.mul_le_mul_right 15 this
        simp
        omega
end K56

namespace K56
open PySem PySem.Spec L2 Mp SX
/-! k56: the program's defs over values. -/
theorem str_nat {n : Nat} (h : n < 1000) : bfD .str [.int (n : Int)] = some (.str (S (TL.numL n)), false) := by
  show (if _ then some (PyData.str (Str.ofString (toString (n : Int))), false) else none) = _
  rw [if_pos (by
    show (n : Int).natAbs.log2 < 1920
    rw [Int.natAbs_natCast]
    have : n.log2 ≤ n := Nat.log2_le_self n
    omega), SX.num_S]
theorem addS {x y : Str} {a b : Tx} (hx : x = S a) (hy : y = S b) (h : a.length + b.length ≤ 1000000) : binD .add (.str x) (.str y) = some (.str (S (a ++ b)), false) := by
  subst hx hy
  have e : (S a).length + (S b).length ≤ sizeLine := by
    rw [S_len, S_len]
    exact Nat.le_trans h (by decide)
  refine (if_pos e).trans ?_
  rw [S_cat]
theorem numL_len {n : Nat} (h : n < 1000) : (TL.numL n).length ≤ 3 := by
  have : ∀ n : Fin 1000, (TL.numL n.val).length ≤ 3 := by decide +kernel
  exact this ⟨n, h⟩
theorem c_itext (k : Nat) (i : Int) (h1 : -1000 < i) (h2 : i < 1000) {Q : R → List D → Prop} (q : Q (.dat (.str (S (itx i)))) []) : CL (callD TT (k+1)) f_integer_text [.shr (.int i)] Q := by
  refine cl_def (m := m_integer_text) (ρ := [some (.shr (.int i))]) rfl rfl rfl ?_
  walk_at "go"
  refine br_s (fun h => ?_) (fun h => ?_)
  · have h3 : i < 0 := of_decide_eq_true h
    walk_at "go"
    have e : -i = ((-i).toNat : Int) := by omega
    have l := numL_len (n := (-i).toNat) (by omega)
    refine ⟨_, _, rfl, by rw [e]; exact str_nat (by omega), ?_⟩
    walk_at "go"
    refine ⟨_, _, _, rfl, rfl, addS (a := [126]) (by kernel_rfl) rfl (by simp; omega), ?_⟩
    walk_at "go"
    unfold itx at q
    rw [if_pos h3] at q
    exact q
  · have h3 : ¬ i < 0 := of_decide_eq_false h
    have e : i = (i.toNat : Int) := by omega
    walk_at "go"
    refine ⟨_, _, rfl, by rw [e]; exact str_nat (by omega), ?_⟩
    walk_at "go"
    unfold itx at q
    rw [if_neg h3] at q
    exact q
theorem enc_some (v : Vl) : isNoneD (enc v) = false := by cases v <;> rfl
theorem c_parts (k : Nat) (v : Vl) {Q : R → List D → Prop} (q : Q (.dat (.bool (prt v))) []) : CL (callD TT (k+1)) f_has_parts [.shr (enc v)] Q := by
  refine cl_of (os := []) ?_ q
  cases v with
  | con pk a name arg =>
    cases arg with
    | none => cases pk <;> kernel_rfl
    | some v => cases v <;> cases pk <;> kernel_rfl
  | _ => kernel_rfl
theorem c_argP (k : Nat) (name : Tx) (hn : name.length ≤ 100) (arg : Option Vl) {x : Str} (hx : x = S name) {Q : R → List D → Prop} (q : Q (.frs (.list ((argP name arg).map encP))) []) : CL (callD TT (k+2)) f_argument_pieces [.shr (.str x), .shr (encO arg)] Q := by
  subst hx
  cases arg with
  | none => exact cl_of rfl q
  | some v =>
    refine cl_def (m := m_argument_pieces) (ρ := [some (.shr (.str (S name))), some (.shr (enc v))]) rfl rfl rfl ?_
    walk_at "go"
    refine br_f (enc_some v) ?_
    walk_at "go"
    refine ⟨_, _, _, rfl, rfl, addS (b := [32]) rfl (by kernel_rfl) (by simp; omega), ?_⟩
    walk_at "go"
    refine c_parts _ _ ?_
    walk_at "go"
    exact q
/-! list_pieces -/
def lpBody : List S := [
    .expr (.own .append 4 [.bin .add (.ite (.cmp .gt (.var 5) (.cst (.int 0))) (.cst (.str ", ")) (.cst (.str ""))) (.idx (.var 1) (.var 5))]),
    .expr (.own .append 4 [.tup [.var 6, .cst (.bool false)]])]
theorem app_ok {xs : List D} {y : D} (h : xs.length < 16777216) : ownMeth .append (.list xs) [y] = some (.none, .list (xs ++ [y])) := if_pos (by
  show xs.length < sizeLine
  exact h)
theorem lp_loop {T : Nat → Option (List Bool)} {F : Nat → List Mp.Arg → Option (R × List D)} {xs : List (Tx × Vl)} (hx : ∀ x ∈ xs, x.1.length ≤ 100) {a0 a2 a3 : D} {QS : Fl → Mp.Env → Prop} : ∀ (rest pre : List (Tx × Vl)) (acc : List D) (c5 c6 : Option Cell), xs = pre ++ rest → acc.length + 2 * rest.length ≤ 1000 → (c5 = none ∨ ∃ d, c5 = some (.shr d)) → (c6 = none ∨ ∃ d, c6 = some (.shr d)) →
    (∀ c5 c6, QS .nx [some (.shr a0), some (.shr (.list (xs.map fun x => .str (S x.1)))), some (.shr a2), some (.shr a3), some (.own false (.list (acc ++ (lpP (!pre.isEmpty) rest).map encP))), c5, c6]) →
    FR T F (.tup [.name 5, .name 6]) lpBody (enumFrom pre.length (rest.map fun x => enc x.2)) [some (.shr a0), some (.shr (.list (xs.map fun x => .str (S x.1)))), some (.shr a2), some (.shr a3), some (.own false (.list acc)), c5, c6] QS
  | [], pre, acc, c5, c6, e, hl, k5, k6, q => by
    refine fr_nil ?_
    have := q c5 c6
    rw [show (lpP (!pre.isEmpty) []).map encP = [] from rfl, List.append_nil] at this
    exact this
  | x :: rest, pre, acc, c5, c6, e, hl, k5, k6, q => by
    show FR T F _ _ (.tuple [.int (pre.length : Nat), enc x.2] :: enumFrom (pre.length + 1) (rest.map fun x => enc x.2)) _ _
    have hx1 : x.1.length ≤ 100 := hx x (by rw [e]; simp)
    have hi : idxD (.list (xs.map fun x => (.str (S x.1) : D))) (.int (pre.length : Nat)) = some (.str (S x.1)) := idx_nat (by
      rw [e]
      simp)
    have fin : ∀ (c : Tx) (d5 d6 : D), c = (if (!pre.isEmpty) = true then Comma else []) → FR T F (.tup [.name 5, .name 6]) lpBody (enumFrom (pre.length + 1) (rest.map fun x => enc x.2)) [some (.shr a0), some (.shr (.list (xs.map fun x => .str (S x.1)))), some (.shr a2), some (.shr a3), some (.own false (.list ((acc ++ [.str (S (c ++ x.1))]) ++ [.tuple [enc x.2, .bool false]]))), some (.shr d5), some (.shr d6)] QS := fun c d5 d6 hc => by
      have h := lp_loop (T := T) (F := F) hx (a0 := a0) (a2 := a2) (a3 := a3) (QS := QS) rest (pre ++ [x]) ((acc ++ [.str (S (c ++ x.1))]) ++ [.tuple [enc x.2, .bool false]]) (some (.shr d5)) (some (.shr d6)) (by rw [e]; simp) (by
        rw [List.length_append, List.length_append]
        rw [List.length_cons] at hl
        simp only [List.length_cons, List.length_nil]
        omega) (.inr ⟨_, rfl⟩) (.inr ⟨_, rfl⟩) (fun c5 c6 => by
        have := q c5 c6
        have e3 : (!(pre ++ [x]).isEmpty) = true := by simp
        rw [e3]
        have e4 : acc ++ (lpP (!pre.isEmpty) (x :: rest)).map encP = (acc ++ [.str (S (c ++ x.1))]) ++ [.tuple [enc x.2, .bool false]] ++ (lpP true rest).map encP := by
          rw [hc]
          obtain ⟨x1, x2⟩ := x
          simp [lpP, encP]
        rw [e4] at this
        exact this)
      have e5 : (pre ++ [x]).length = pre.length + 1 := by simp
      rw [e5] at h
      exact h
    rw [List.length_cons] at hl
    refine fr_cons ⟨[some (.shr a0), some (.shr (.list (xs.map fun x => .str (S x.1)))), some (.shr a2), some (.shr a3), some (.own false (.list acc)), some (.shr (.int (pre.length : Nat))), some (.shr (enc x.2))], ?_, ?_⟩
    · rcases k5 with rfl | ⟨d5, rfl⟩ <;> rcases k6 with rfl | ⟨d6, rfl⟩ <;> rfl
    · unfold lpBody
      cases hp : pre with
      | nil =>
        subst hp
        walk_at "go"
        refine ⟨_, _, _, rfl, rfl, hi, ?_⟩
        walk_at "go"
        refine ⟨_, _, _, rfl, rfl, addS (a := []) (by kernel_rfl) rfl (by simp; omega), ?_⟩
        walk_at "go"
        refine ⟨_, _, _, _, _, _, rfl, rfl, app_ok (by omega), ?_⟩
        walk_at "go"
        refine ⟨_, _, _, _, _, _, rfl, rfl, app_ok (by simp; omega), ?_⟩
        walk_at "go"
        exact fin [] _ _ rfl
      | cons y ys =>
        subst hp
        refine eb_cons ?_
        walk_at "go"
        refine br_t (decide_eq_true (by rw [List.length_cons]; omega)) ?_
        walk_at "go"
        refine ⟨_, _, _, rfl, rfl, hi, ?_⟩
        walk_at "go"
        refine ⟨_, _, _, rfl, rfl, addS (a := Comma) (by kernel_rfl) rfl (by simp; omega), ?_⟩
        walk_at "go"
        refine ⟨_, _, _, _, _, _, rfl, rfl, app_ok (by omega), ?_⟩
        walk_at "go"
        refine ⟨_, _, _, _, _, _, rfl, rfl, app_ok (by simp; omega), ?_⟩
        walk_at "go"
        exact fin Comma _ _ rfl
theorem c_lp (k : Nat) (xs : List (Tx × Vl)) (hx : ∀ x ∈ xs, x.1.length ≤ 100) (hl : xs.length ≤ 100) (o c : Tx) {x y : Str} (ho : x = S o) (hc : y = S c) {parts : D} (hp : itemsD parts = some (xs.map fun x => enc x.2)) {Q : R → List D → Prop} (q : Q (.frs (.list ((.s o :: (lpP false xs ++ [.s c])).map encP))) []) :
    CL (callD TT (k+1)) f_list_pieces [.shr (.str x), .shr (.list (xs.map fun x => .str (S x.1))), .shr parts, .shr (.str y)] Q := by
  subst ho hc
  refine cl_def (m := m_list_pieces) (ρ := [some (.shr (.str (S o))), some (.shr (.list (xs.map fun x => .str (S x.1)))), some (.shr parts), some (.shr (.str (S c))), none, none, none]) rfl rfl rfl ?_
  refine eb_cons ?_
  walk_at "go"
  refine ⟨_, _, _, rfl, hp, ?_⟩
  refine lp_loop (xs := xs) hx xs [] [.str (S o)] none none rfl (by simp; omega) (.inl rfl) (.inl rfl) (fun c5 c6 => ?_)
  walk_at "go"
  refine ⟨_, _, _, _, _, _, rfl, rfl, app_ok ?_, ?_⟩
  · have : ∀ (b : Bool) (zs : List (Tx × Vl)), (lpP b zs).length = 2 * zs.length := fun b zs => by
      induction zs generalizing b with
      | nil => rfl
      | cons z zs ih =>
        obtain ⟨z1, z2⟩ := z
        simp [lpP, ih]
        omega
    simp [this]
    omega
  walk_at "go"
  have e : [.str (S o)] ++ (lpP false xs).map encP ++ [.str (S c)] = (.s o :: (lpP false xs ++ [.s c])).map encP := by simp [encP]
  rw [← e] at q
  exact q
end K56

namespace K56
open PySem PySem.Spec L2 Mp SX
/-! k56: pieces_of, show. -/
section
variable {T : Nat → Option (List Bool)} {F : Nat → List Mp.Arg → Option (R × List D)} {a0 a1 a2 a3 a4 a5 : Option Cell}
theorem lr_const {d : D} : ∀ (ds : List D) (c5 : Option Cell) {Q : List D → Mp.Env → Prop}, (c5 = none ∨ ∃ d, c5 = some (.shr d)) → (∀ c5, Q (ds.map fun _ => d) [a0, a1, a2, a3, a4, c5]) → LR T F (.cst d) (.name 5) none [5] ds [a0, a1, a2, a3, a4, c5] Q
  | [], c5, Q, _, q => lr_nil (q c5)
  | x :: ds, c5, Q, h, q => lr_cons ⟨[a0, a1, a2, a3, a4, some (.shr x)], rfl, ec_none (br_t rfl (ev_cst ⟨_, _, rfl, lr_const ds _ (.inr ⟨_, rfl⟩) fun c5 => q c5⟩))⟩
theorem lr_snd : ∀ (fs : List (Tx × Vl)) (c4 : Option Cell) {Q : List D → Mp.Env → Prop}, (c4 = none ∨ ∃ d, c4 = some (.shr d)) → (∀ c4, Q (fs.map fun f => enc f.2) [a0, a1, a2, a3, c4, a5]) → LR T F (.idx (.var 4) (.cst (.int 1))) (.name 4) none [4] (encF fs) [a0, a1, a2, a3, c4, a5] Q
  | [], c4, Q, _, q => lr_nil (q c4)
  | (x, v) :: fs, c4, Q, h, q => lr_cons ⟨[a0, a1, a2, a3, some (.shr (.tuple [.str (S x), enc v])), a5], rfl, ec_none (br_t rfl (ev_idx (ev_shr rfl (ev_cst ⟨_, _, _, rfl, rfl, rfl, _, _, rfl, lr_snd fs _ (.inr ⟨_, rfl⟩) fun c4 => q c4⟩))))⟩
theorem lr_heads : ∀ (fs : List (Tx × Vl)) (c4 : Option Cell) {Q : List D → Mp.Env → Prop}, (∀ f ∈ fs, f.1.length ≤ 50) → (∀ c4, Q (fs.map fun f => .str (S (f.1 ++ [32, 61, 32]))) [a0, a1, a2, a3, c4, a5]) →
    LR T F (.bin .add (.idx (.var 4) (.cst (.int 0))) (.cst (.str " = "))) (.name 4) none [4] (encF fs) [a0, a1, a2, a3, c4, a5] Q
  | [], c4, Q, _, q => lr_nil (q c4)
  | (x, v) :: fs, c4, Q, h, q => by
    have hx : x.length ≤ 50 := h _ List.mem_cons_self
    refine lr_cons ⟨[a0, a1, a2, a3, some (.shr (.tuple [.str (S x), enc v])), a5], rfl, ec_none (br_t rfl ?_)⟩
    walk_at "go"
    refine ⟨_, _, _, rfl, rfl, addS (b := [32, 61, 32]) rfl (by kernel_rfl) (by simp; omega), ?_⟩
    exact ⟨_, _, rfl, lr_heads fs _ (fun f hf => h f (List.mem_cons_of_mem _ hf)) fun c4 => q c4⟩
end
theorem encL_idx {vs : List Vl} {j : Nat} (h : j < vs.length) : idxD (.tuple (encL vs)) (.int (j : Nat)) = some (enc (vs.getD j .fn)) := by
  show L2.atI (encL vs) (j : Nat) = _
  refine L2.atI_nat ?_
  rw [encL_map, List.getElem?_map, List.getElem?_eq_getElem h, List.getD_eq_getElem?_getD, List.getElem?_eq_getElem h]
  rfl
theorem c_pieces (k : Nat) (st : List Vl) (v : Vl) (hv : wf st.length v = true ∨ ∃ i, v = .int i ∧ -1000 < i ∧ i < 1000) {Q : R → List D → Prop} (q : Q (.frs (.list ((pcs st v).map encP))) []) : CL (callD TT (k+4)) f_pieces_of [.shr (enc v), .shr (.tuple (encL st))] Q := by
  refine cl_def (m := m_pieces_of) (ρ := [some (.shr (enc v)), some (.shr (.tuple (encL st))), none, none, none, none]) rfl rfl rfl ?_
  cases v with
  | int i =>
    have hi : -1000 < i ∧ i < 1000 := by
      rcases hv with h | ⟨j, e, h⟩
      · unfold wf at h
        rw [Bool.and_eq_true] at h
        have := of_decide_eq_true h.1
        have := of_decide_eq_true h.2
        omega
      · cases e
        exact h
    walk_at "go"
    refine c_itext _ i hi.1 hi.2 ?_
    walk_at "go"
    exact q
  | con pk a name arg =>
    have hv : name.length ≤ 8 := by
      rcases hv with h | ⟨j, e, h⟩
      · unfold wf at h
        rw [Bool.and_eq_true] at h
        exact of_decide_eq_true h.1
      · cases e
    cases pk
    · walk_at "go"
      refine c_argP _ name (by omega) arg rfl ?_
      walk_at "go"
      exact q
    · walk_at "go"
      refine c_argP _ name (by omega) arg rfl ?_
      walk_at "go"
      exact q
  | ref j =>
    have hj : j < st.length := by
      rcases hv with h | ⟨j, e, h⟩
      · unfold wf at h
        exact of_decide_eq_true h
      · cases e
    walk_at "go"
    refine ⟨_, _, _, rfl, rfl, encL_idx hj, ?_⟩
    walk_at "go"
    refine c_argP _ [114, 101, 102] (by decide) (some (st.getD j .fn)) (by kernel_rfl) ?_
    walk_at "go"
    exact q
  | tup vs =>
    have hl : vs.length ≤ 6 := by
      rcases hv with h | ⟨j, e, h⟩
      · unfold wf at h
        rw [Bool.and_eq_true] at h
        exact of_decide_eq_true h.1
      · cases e
    walk_at "go"
    refine ev_lc ?_
    walk_at "go"
    refine lr_const _ _ (.inl rfl) fun c5 => ⟨?_, ?_⟩
    · rw [List.length_map, encL_map, List.length_map]
      exact Nat.le_trans hl (by decide)
    walk_at "go"
    have e : (vs.map fun v => (([] : Tx), v)).map (fun x => (.str (S x.1) : D)) = (encL vs).map fun _ => .str (Str.ofString "") := by
      rw [encL_map, List.map_map, List.map_map]
      refine List.map_congr_left fun v _ => ?_
      show PyData.str (S []) = .str (Str.ofString "")
      rw [show Str.ofString "" = S [] by kernel_rfl]
    rw [← e]
    refine c_lp _ (vs.map fun v => (([] : Tx), v)) (by simp) (by simp; omega) [40] [41] (by kernel_rfl) (by kernel_rfl) ?_ ?_
    · show some (encL vs) = _
      rw [encL_map, List.map_map]
      rfl
    walk_at "go"
    exact q
  | fn =>
    walk_at "go"
    rw [show Str.ofString "fn" = S [102, 110] by kernel_rfl]
    exact q
  | exn =>
    walk_at "go"
    rw [show Str.ofString "E" = S [69] by kernel_rfl]
    exact q
  | rcd fs =>
    have hl : fs.length ≤ 6 ∧ ∀ f ∈ fs, f.1.length ≤ 8 := by
      rcases hv with h | ⟨j, e, h⟩
      · unfold wf at h
        rw [Bool.and_eq_true] at h
        exact ⟨of_decide_eq_true h.1, fun f hf => (wfF_mem h.2 f hf).1⟩
      · cases e
    walk_at "go"
    refine ev_lc ?_
    walk_at "go"
    refine lr_heads _ _ (fun f hf => by have := hl.2 f hf; omega) fun c4 => ⟨?_, ?_⟩
    · rw [List.length_map]
      exact Nat.le_trans hl.1 (by decide)
    walk_at "go"
    refine ev_lc ?_
    walk_at "go"
    refine lr_snd _ _ (.inl rfl) fun c4 => ⟨?_, ?_⟩
    · rw [List.length_map]
      exact Nat.le_trans hl.1 (by decide)
    walk_at "go"
    have e1 : fs.map (fun f => (.str (S (f.1 ++ [32, 61, 32])) : D)) = (fs.map fun f => (f.1 ++ [32, 61, 32], f.2)).map fun x => .str (S x.1) := by
      rw [List.map_map]
      rfl
    rw [e1]
    refine c_lp _ (fs.map fun f => (f.1 ++ [32, 61, 32], f.2)) (fun x hx => ?_) (by simp; omega) [123] [125] (by kernel_rfl) (by kernel_rfl) ?_ ?_
    · obtain ⟨f, hf, rfl⟩ := List.mem_map.mp hx
      have := hl.2 f hf
      simp
      omega
    · show some (fs.map fun f => enc f.2) = _
      rw [List.map_map]
      rfl
    walk_at "go"
    exact q
/-! show -/
theorem add_lst {xs ys : List D} (h : xs.length + ys.length ≤ 100000) : binD .add (.list xs) (.list ys) = some (.list (xs ++ ys), true) := if_pos (Nat.le_trans h (by decide))
theorem ext_ok {xs ys : List D} (h : xs.length + ys.length ≤ 100000) : ownMeth .extend (.list xs) [.list ys] = some (.none, .list (xs ++ ys)) := if_pos (Nat.le_trans h (by decide))
theorem pop_ok {xs : List D} {y : D} : ownMeth .pop (.list (xs ++ [y])) [] = some (y, .list xs) := by
  show ((xs ++ [y]).getLast?).map _ = _
  rw [List.getLast?_append]
  simp
def sD (x : Tx) : D := .str (S x)
theorem allStrs_S : ∀ out : List Tx, allStrs (out.map sD) = some (out.map S)
  | [] => rfl
  | x :: out => by
    show (allStrs (out.map sD)).map _ = _
    rw [allStrs_S out]
    rfl
theorem join_S (a : Tx) (xs : List Tx) : Txt.join (S a) (xs.map S) = S (TL.joinL a xs) := SX.join_S a xs
theorem join_ok {a : Tx} {x : Str} (hx : x = S a) {xs : List Tx} (h : (xs.map (·.length)).sum + xs.length * a.length ≤ 1000000) : datMeth .join (.str x) [.list (xs.map sD)] = some (.str (S (TL.joinL a xs)), false) := by
  subst hx
  show (allStrs (xs.map sD)).bind _ = _
  rw [allStrs_S]
  refine (if_pos ?_).trans ?_
  · rw [SX.lens, List.length_map, S_len]
    exact Nat.le_trans h (by decide)
  · rw [join_S]
theorem joinL_nil : ∀ xs : List Tx, TL.joinL [] xs = xs.flatten
  | [] => rfl
  | [x] => by simp [TL.joinL]
  | x :: y :: r => by
    show x ++ ([] ++ TL.joinL [] (y :: r)) = _
    rw [joinL_nil (y :: r)]
    simp
def pcOk (ns : Nat) : Pc → Prop
  | .s x => x.length ≤ 20
  | .v x _ => wf ns x = true ∨ ∃ i, x = .int i ∧ -1000 < i ∧ i < 1000
theorem pcs_ok {st : List Vl} (hst : ∀ v ∈ st, wf st.length v = true) {v : Vl} (hv : wf st.length v = true ∨ ∃ i, v = .int i ∧ -1000 < i ∧ i < 1000) : (∀ p ∈ pcs st v, pcOk st.length p) ∧ (pcs st v).length ≤ 14 := by
  have lp : ∀ (b : Bool) (xs : List (Tx × Vl)), (∀ x ∈ xs, x.1.length ≤ 12 ∧ wf st.length x.2 = true) → (∀ p ∈ lpP b xs, pcOk st.length p) ∧ (lpP b xs).length = 2 * xs.length := fun b xs => by
    induction xs generalizing b with
    | nil => intro _; exact ⟨fun p hp => (by cases hp), rfl⟩
    | cons x xs ih =>
      intro h
      obtain ⟨x1, x2⟩ := x
      obtain ⟨h1, h2⟩ := ih true fun y hy => h y (List.mem_cons_of_mem _ hy)
      obtain ⟨h3, h4⟩ := h _ List.mem_cons_self
      refine ⟨fun p hp => ?_, ?_⟩
      · simp only [lpP, List.mem_cons] at hp
        rcases hp with rfl | rfl | hp
        · show List.length _ ≤ 20
          rw [List.length_append]
          have : (if b = true then Comma else []).length ≤ 2 := by cases b <;> decide
          have h3 : x1.length ≤ 12 := h3
          omega
        · exact .inl h4
        · exact h1 p hp
      · simp [lpP, h2]
        omega
  have ar : ∀ (name : Tx) (arg : Option Vl), name.length ≤ 8 → (∀ v, arg = some v → wf st.length v = true) → (∀ p ∈ argP name arg, pcOk st.length p) ∧ (argP name arg).length ≤ 14 := fun name arg hn ha => by
    cases arg with
    | none =>
      refine ⟨fun p hp => ?_, by simp [argP]⟩
      simp only [argP, List.mem_cons, List.not_mem_nil, or_false] at hp
      subst hp
      show name.length ≤ 20
      omega
    | some v =>
      refine ⟨fun p hp => ?_, by simp [argP]⟩
      simp only [argP, List.mem_cons, List.not_mem_nil, or_false] at hp
      rcases hp with rfl | rfl
      · show List.length _ ≤ 20
        simp
        omega
      · exact .inl (ha v rfl)
  cases v with
  | int i =>
    refine ⟨fun p hp => ?_, by simp [pcs]⟩
    simp only [pcs, List.mem_cons, List.not_mem_nil, or_false] at hp
    subst hp
    show (itx i).length ≤ 20
    have hi : -1000 < i ∧ i < 1000 := by
      rcases hv with h | ⟨j, e, h⟩
      · unfold wf at h
        rw [Bool.and_eq_true] at h
        have := of_decide_eq_true h.1
        have := of_decide_eq_true h.2
        omega
      · cases e
        exact h
    unfold itx
    split
    · have := numL_len (n := (-i).toNat) (by omega)
      simp
      omega
    · have := numL_len (n := i.toNat) (by omega)
      omega
  | fn =>
    refine ⟨fun p hp => ?_, by simp [pcs]⟩
    simp only [pcs, List.mem_cons, List.not_mem_nil, or_false] at hp
    subst hp
    show 2 ≤ 20
    decide
  | exn =>
    refine ⟨fun p hp => ?_, by simp [pcs]⟩
    simp only [pcs, List.mem_cons, List.not_mem_nil, or_false] at hp
    subst hp
    show 1 ≤ 20
    decide
  | con pk a name arg =>
    rcases hv with h | ⟨j, e, h⟩
    · unfold wf at h
      rw [Bool.and_eq_true] at h
      exact ar name arg (of_decide_eq_true h.1) fun v e => by
        subst e
        exact h.2
    · cases e
  | ref j =>
    rcases hv with h | ⟨j, e, h⟩
    · unfold wf at h
      have hj : j < st.length := of_decide_eq_true h
      exact ar [114, 101, 102] (some (st.getD j .fn)) (by decide) fun v e => by
        cases e
        rw [List.getD_eq_getElem?_getD, List.getElem?_eq_getElem hj]
        exact hst _ (List.getElem_mem hj)
    · cases e
  | tup vs =>
    rcases hv with h | ⟨j, e, h⟩
    · unfold wf at h
      rw [Bool.and_eq_true] at h
      obtain ⟨h1, h2⟩ := lp false (vs.map fun v => (([] : Tx), v)) fun x hx => by
        obtain ⟨v, hv, rfl⟩ := List.mem_map.mp hx
        exact ⟨by simp, wfL_mem h.2 v hv⟩
      have := of_decide_eq_true h.1
      refine ⟨fun p hp => ?_, ?_⟩
      · simp only [pcs, List.mem_cons, List.mem_append, List.not_mem_nil, or_false] at hp
        rcases hp with rfl | hp | rfl
        · show 1 ≤ 20
          decide
        · exact h1 p hp
        · show 1 ≤ 20
          decide
      · simp [pcs, h2]
        omega
    · cases e
  | rcd fs =>
    rcases hv with h | ⟨j, e, h⟩
    · unfold wf at h
      rw [Bool.and_eq_true] at h
      obtain ⟨h1, h2⟩ := lp false (fs.map fun f => (f.1 ++ [32, 61, 32], f.2)) fun x hx => by
        obtain ⟨f, hf, rfl⟩ := List.mem_map.mp hx
        have := wfF_mem h.2 f hf
        exact ⟨by simp; omega, this.2⟩
      have := of_decide_eq_true h.1
      refine ⟨fun p hp => ?_, ?_⟩
      · simp only [pcs, List.mem_cons, List.mem_append, List.not_mem_nil, or_false] at hp
        rcases hp with rfl | hp | rfl
        · show 1 ≤ 20
          decide
        · exact h1 p hp
        · show 1 ≤ 20
          decide
      · simp [pcs, h2]
        omega
    · cases e
end K56

namespace K56
open PySem PySem.Spec L2 Mp SX
/-! k56: show. -/
def slotOk (c : Option Cell) : Prop := ∀ d, c ≠ some (.own true d)
theorem set_ok {ρ : Mp.Env} {i : Nat} {c : Option Cell} (h : Mp.Env.at ρ i = c) (hc : slotOk c) (hi : i < ρ.length) : okSlot ρ i = true := by
  unfold okSlot
  rw [h]
  split
  · exact absurd rfl (hc _)
  · exact decide_eq_true hi
theorem own_ok {d : D} : slotOk (some (.own false d)) := fun d h => nomatch h
theorem setN {ρ : Mp.Env} {i : Nat} {d : D} (h : okSlot ρ i = true) : setR (.name i) (.dat d) ρ = some (ρ.set i (some (.shr d))) := if_pos h
theorem setF {ρ : Mp.Env} {i : Nat} {d : D} (h : okSlot ρ i = true) : setR (.name i) (.frs d) ρ = some (ρ.set i (some (.own false d))) := if_pos h
/-- what stands at each turn -/
structure ShI (st : List Vl) (v0 : D) (L : Nat) (tgt : Tx) (m : Nat) (ρ : Mp.Env) : Prop where
  ex : ∃ (ps : List Pc) (out : List Tx) (c : Nat) (c6 c7 : Option Cell), slotOk c6 ∧ slotOk c7 ∧
    ρ = [some (.shr v0), some (.shr (.tuple (encL st))), some (.shr (.int (L : Nat))), some (.own false (.list (out.map sD))), some (.shr (.int (c : Nat))), some (.own false (.list (ps.map encP).reverse)), c6, c7] ∧
    out.flatten ++ (rd st ps (L - c)).1 = tgt ∧ (∀ p ∈ ps, pcOk st.length p) ∧ (∀ x ∈ out, x.length ≤ 20) ∧ m = 20 * (L - c) + ps.length ∧ out.length + m ≤ 10000
theorem sum_le {xs : List Tx} (h : ∀ x ∈ xs, x.length ≤ 20) : (xs.map (·.length)).sum ≤ 20 * xs.length := by
  induction xs with
  | nil => simp
  | cons x xs ih =>
    have h1 := h x List.mem_cons_self
    have h2 := ih fun y hy => h y (List.mem_cons_of_mem _ hy)
    simp only [List.map_cons, List.sum_cons, List.length_cons]
    omega
theorem c_show (k : Nat) (st : List Vl) (hst : ∀ v ∈ st, wf st.length v = true) (v : Vl) (hv : wf st.length v = true ∨ ∃ i, v = .int i ∧ -1000 < i ∧ i < 1000) (L : Nat) (hL : L ≤ 300) {Q : R → List D → Prop} (q : Q (.dat (.str (S (sw st v L).1))) []) :
    CL (callD TT (k+5)) f_show [.shr (enc v), .shr (.tuple (encL st)), .shr (.int (L : Nat))] Q := by
  refine cl_def (m := m_show) (ρ := [some (.shr (enc v)), some (.shr (.tuple (encL st))), some (.shr (.int (L : Nat))), none, none, none, none, none]) rfl rfl rfl ?_
  refine eb_cons ?_
  walk_at "st"
  walk_at "go"
  refine whl_inv (ShI st (enc v) L (sw st v L).1) (20 * L + 1) ⟨[.v v false], [], 0, none, none, (fun d h => nomatch h), (fun d h => nomatch h), rfl, ?_, ?_, ?_, rfl, by simp; omega⟩ ?_
  · have : rd st [.v v false] L = sw st v L := by
      simp only [rd]
      split
      · rename_i h
        subst h
        simp [sw_zero]
      · simp [sw]
    simp [this]
  · intro p hp
    rw [List.mem_singleton.mp hp]
    exact hv
  · intro x hx
    cases hx
  intro m ρ ⟨ps, out, c, c6, c7, k6, k7, e, ht, hp, ho, hm, hs⟩
  subst e
  walk_at "go"
  cases ps with
  | nil =>
    refine br_f rfl ?_
    walk_at "go"
    refine ⟨rfl, ?_⟩
    walk_at "go"
    refine ⟨_, _, _, rfl, rfl, join_ok (a := []) (by kernel_rfl) (by have := sum_le ho; simp at hs ⊢; omega), ?_⟩
    walk_at "go"
    have e : out.flatten = (sw st v L).1 := by simpa [rd] using ht
    rw [joinL_nil, e]
    exact q
  | cons p ps =>
    refine br_t (by simp [List.reverse_cons]) ?_
    rw [List.map_cons, List.reverse_cons]
    walk_at "st"
    walk_at "st"
    refine ev_ownm rfl (el_nil ⟨_, _, _, _, _, _, rfl, rfl, pop_ok, ?_⟩)
    dsimp only [List.set_cons_zero, List.set_cons_succ]
    refine ⟨_, setN (set_ok rfl k6 (by simp)), ?_⟩
    have sh1 : slotOk (some (.shr (encP p))) := fun d h => nomatch h
    cases p with
    | s x =>
      walk_at "go"
      refine ⟨_, _, _, _, _, _, rfl, rfl, app_ok (by simp at hm hs ⊢; omega), ?_⟩
      walk_at "go"
      have hx : x.length ≤ 20 := hp _ List.mem_cons_self
      refine ⟨20 * (L - c) + ps.length, by rw [hm, List.length_cons]; omega, ps, out ++ [x], c, _, c7, sh1, k7, ?_, ?_, fun p m => hp p (List.mem_cons_of_mem _ m), fun y hy => ?_, rfl, ?_⟩
      · rw [List.map_append]
        rfl
      · rw [← ht]
        simp [rd]
      · rcases List.mem_append.mp hy with hy | hy
        · exact ho y hy
        · rw [List.mem_singleton.mp hy]
          exact hx
      · rw [List.length_append]
        rw [List.length_cons] at hm
        simp
        omega
    | v x b =>
      have hx : wf st.length x = true ∨ ∃ i, x = .int i ∧ -1000 < i ∧ i < 1000 := hp _ List.mem_cons_self
      rw [List.length_cons] at hm
      walk_at "go"
      refine ⟨rfl, ?_⟩
      walk_at "go"
      by_cases hc : L ≤ c
      · refine br_t (decide_eq_true (by omega)) ?_
        walk_at "go"
        refine ⟨_, _, _, _, _, _, rfl, rfl, app_ok (by simp; omega), ?_⟩
        walk_at "go"
        have h0 : L - c = 0 := by omega
        have h1 : L - (c + 1) = 0 := by omega
        refine ⟨20 * (L - (c + 1)) + ps.length, by rw [hm]; omega, ps, out ++ [TwoDots], c + 1, _, c7, sh1, k7, ?_, ?_, fun p m => hp p (List.mem_cons_of_mem _ m), fun y hy => ?_, rfl, ?_⟩
        · rw [List.map_append, show Str.ofString ".." = S TwoDots by kernel_rfl]
          rfl
        · rw [← ht, h0, h1]
          simp [rd]
        · rcases List.mem_append.mp hy with hy | hy
          · exact ho y hy
          · rw [List.mem_singleton.mp hy]
            decide
        · rw [List.length_append]
          simp
          omega
      · refine br_f (decide_eq_false (by omega)) ?_
        walk_at "go"
        refine c_pieces _ st x hx ?_
        walk_at "st"
        refine ⟨_, setF (set_ok rfl k7 (by simp)), ?_⟩
        obtain ⟨pk, pl⟩ := pcs_ok hst hx
        have hLc : L - c = (L - (c + 1)) + 1 := by omega
        have step := rd_step st x b ps (L - (c + 1))
        rw [← hLc] at step
        rw [step] at ht
        have psl : ps.length ≤ 10000 := by omega
        have pml : ((pcs st x).map encP).length ≤ 14 := by rw [List.length_map]; exact pl
        cases b with
        | false =>
          walk_at "go"
          refine ⟨_, _, _, _, _, _, rfl, rfl, ext_ok (by simp; omega), ?_⟩
          walk_at "go"
          refine ⟨20 * (L - (c + 1)) + (pcs st x ++ ps).length, by rw [hm, List.length_append]; omega, pcs st x ++ ps, out, c + 1, _, some (.own false (.list ((pcs st x).map encP))), sh1, own_ok, ?_, ?_, fun p m => ?_, ho, rfl, ?_⟩
          · rw [List.map_append, List.reverse_append]
            rfl
          · exact ht
          · rcases List.mem_append.mp m with m | m
            · exact pk p m
            · exact hp p (List.mem_cons_of_mem _ m)
          · rw [List.length_append]
            omega
        | true =>
          walk_at "go"
          refine ⟨_, _, _, rfl, rfl, add_lst (by simp; omega), ?_⟩
          walk_at "go"
          refine ⟨_, _, _, rfl, rfl, add_lst (by simp; omega), ?_⟩
          walk_at "go"
          refine ⟨_, _, _, _, _, _, rfl, rfl, ext_ok (by simp; omega), ?_⟩
          walk_at "go"
          have e0 : ([.str (Str.ofString "(")] ++ (pcs st x).map encP ++ [.str (Str.ofString ")")] : List D) = (([.s [40]] ++ pcs st x ++ [.s [41]] : List Pc)).map encP := by
            rw [show Str.ofString "(" = S [40] by kernel_rfl, show Str.ofString ")" = S [41] by kernel_rfl]
            simp [encP]
          refine ⟨20 * (L - (c + 1)) + (([Pc.s [40]] ++ pcs st x ++ [Pc.s [41]]) ++ ps).length, by rw [hm, List.length_append]; simp; omega, ([Pc.s [40]] ++ pcs st x ++ [Pc.s [41]]) ++ ps, out, c + 1, _, some (.own false (.list ([.str (Str.ofString "(")] ++ (pcs st x).map encP ++ [.str (Str.ofString ")")]))), sh1, own_ok, ?_, ?_, fun p m => ?_, ho, rfl, ?_⟩
          · have e1 : ((([Pc.s [40]] ++ pcs st x ++ [Pc.s [41]]) ++ ps).map encP).reverse = (ps.map encP).reverse ++ ([PyData.str (Str.ofString "(")] ++ (pcs st x).map encP ++ [PyData.str (Str.ofString ")")]).reverse := by
              rw [e0, List.map_append, List.reverse_append]
            rw [e1]
            rfl
          · exact ht
          · rcases List.mem_append.mp m with m | m
            · rcases List.mem_append.mp m with m | m
              · rcases List.mem_append.mp m with m | m
                · rw [List.mem_singleton.mp m]
                  show 1 ≤ 20
                  decide
                · exact pk p m
              · rw [List.mem_singleton.mp m]
                show 1 ≤ 20
                decide
            · exact hp p (List.mem_cons_of_mem _ m)
          · rw [List.length_append]
            simp
            omega
end K56

namespace K56
open PySem PySem.Spec L2 Mp SX
/-! k56: the law's own form. -/
theorem eb_app {T : Nat → Option (List Bool)} {F : Nat → List Mp.Arg → Option (R × List D)} {xs ys : List S} {ρ ρ1 : Mp.Env} {Q : Fl → Mp.Env → Prop} (h : runs T F xs ρ = some (.nx, ρ1)) (q : EB T F ys ρ1 Q) : EB T F (xs ++ ys) ρ Q := by
  induction xs generalizing ρ with
  | nil =>
    cases h
    exact q
  | cons s ss ih =>
    obtain ⟨⟨fl, ρ2⟩, e1, e2⟩ := bi (show (Mp.run T F s ρ >>= _) = _ from h)
    refine eb_cons ⟨fl, ρ2, e1, ⟨?_⟩⟩
    cases fl with
    | nx => exact ih e2
    | bk => cases e2
    | ct => cases e2
    | rt r => cases e2
def ht (st : List Vl) : Nat → Vl → Bool
  | 0, _ => false
  | n + 1, v => match v with
    | .con _ _ _ arg => match arg with
      | none => true
      | some v => ht st n v
    | .ref j => ht st n (st.getD j .fn)
    | .tup vs => vs.all (ht st n)
    | .rcd fs => fs.all fun f => ht st n f.2
    | _ => true
abbrev lD (l : Nat) : D := .list [.int (l : Nat)]
/-- what _law_show does at v with l left, at fuel k -/
def Shw (st : List Vl) (k : Nat) (v : Vl) (l : Nat) : Prop := ∀ {Q : R → List D → Prop}, Q (.dat (.str (S (sw st v l).1))) [lD (sw st v l).2] → CL (callD TT k) f__law_show [.shr (enc v), .shr (.tuple (encL st)), .own (lD l)] Q
theorem bigS {st : List Vl} (hst : ∀ v ∈ st, wf st.length v = true) {v : Vl} (hv : wf st.length v = true) {l : Nat} (hl : l ≤ 300) : (sw st v l).1.length ≤ 31000 := by
  have := sw_len st hst l v hv
  omega
theorem prt_inside (v : Vl) : prt v = (match v with | .con _ _ _ arg => arg.isSome | .ref _ => true | _ => false) := by cases v <;> rfl
theorem c_named (k : Nat) (st : List Vl) (hst : ∀ v ∈ st, wf st.length v = true) (name : Tx) (hn : name.length ≤ 8) {x : Str} (hx : x = S name) (arg : Option Vl) (ha : ∀ v, arg = some v → wf st.length v = true) (l : Nat) (hl : l ≤ 300) (ih : ∀ v, arg = some v → 0 < l → Shw st k v l) {Q : R → List D → Prop} (q : Q (.dat (.str (S (named (sw st) name arg l).1))) [lD (named (sw st) name arg l).2]) :
    CL (callD TT (k+1)) f__law_named [.shr (.str x), .shr (encO arg), .shr (.tuple (encL st)), .own (lD l)] Q := by
  subst hx
  refine cl_def (m := m__law_named) (ρ := [some (.shr (.str (S name))), some (.shr (encO arg)), some (.shr (.tuple (encL st))), some (.own true (lD l)), none, none]) rfl rfl rfl ?_
  cases arg with
  | none =>
    walk_at "go"
    exact q
  | some v =>
    have key : EB (lentOf TT) (callD TT k) [.ite (.cmp .le (.idx (.var 3) (.cst (.int 0))) (.cst (.int 0))) [
        .ret (.bin .add (.var 0) (.cst (.str " ..")))] [],
      .asg (.name 5) (.call f__law_show [.var 1, .var 2, .var 3]),
      .ret (.ite (.var 4) (.bin .add (.bin .add (.bin .add (.var 0) (.cst (.str " ("))) (.var 5)) (.cst (.str ")"))) (.bin .add (.bin .add (.var 0) (.cst (.str " "))) (.var 5)))]
      [some (.shr (.str (S name))), some (.shr (enc v)), some (.shr (.tuple (encL st))), some (.own true (lD l)), some (.shr (.bool (prt v))), none] (RK m__law_named.lent Q) := by
      cases l with
      | zero =>
        walk_at "go"
        refine ⟨_, _, _, rfl, rfl, addS (b := [32, 46, 46]) rfl (by kernel_rfl) (by simp; omega), ?_⟩
        walk_at "go"
        exact q
      | succ l =>
        walk_at "st"
        walk_at "go"
        refine ih v rfl (by omega) ?_
        walk_at "go"
        have hb := bigS hst (ha v rfl) hl
        have e : named (sw st) name (some v) (l + 1) = if prt v = true then (name ++ [32, 40] ++ (sw st v (l + 1)).1 ++ [41], (sw st v (l + 1)).2) else (name ++ [32] ++ (sw st v (l + 1)).1, (sw st v (l + 1)).2) := rfl
        rw [e] at q
        cases hp : prt v with
        | true =>
          rw [hp, if_pos rfl] at q
          refine br_t rfl ?_
          walk_at "go"
          refine ⟨_, _, _, rfl, rfl, addS (b := [32, 40]) rfl (by kernel_rfl) (by simp; omega), ?_⟩
          walk_at "go"
          refine ⟨_, _, _, rfl, rfl, addS rfl rfl (by simp; omega), ?_⟩
          walk_at "go"
          refine ⟨_, _, _, rfl, rfl, addS (b := [41]) rfl (by kernel_rfl) (by simp; omega), ?_⟩
          walk_at "go"
          exact q
        | false =>
          rw [hp, if_neg Bool.false_ne_true] at q
          refine br_f rfl ?_
          walk_at "go"
          refine ⟨_, _, _, rfl, rfl, addS (b := [32]) rfl (by kernel_rfl) (by simp; omega), ?_⟩
          walk_at "go"
          refine ⟨_, _, _, rfl, rfl, addS rfl rfl (by simp; omega), ?_⟩
          walk_at "go"
          exact q
    have s12 : runs (lentOf TT) (callD TT k) (m__law_named.body.take 2) [some (.shr (.str (S name))), some (.shr (enc v)), some (.shr (.tuple (encL st))), some (.own true (lD l)), none, none] =
        some (.nx, [some (.shr (.str (S name))), some (.shr (enc v)), some (.shr (.tuple (encL st))), some (.own true (lD l)), some (.shr (.bool (prt v))), none]) := by
      cases v with
      | con pk a nm ar =>
        cases ar with
        | none => cases pk <;> kernel_rfl
        | some w => cases w <;> cases pk <;> kernel_rfl
      | _ => kernel_rfl
    exact eb_app s12 key
section
variable {T : Nat → Option (List Bool)} {F : Nat → List Mp.Arg → Option (R × List D)} {a0 a1 c4 : Option Cell}
theorem lr_show {st : List Vl} {k : Nat} {a0 : Option Cell} : ∀ (vs : List Vl) (l : Nat) (c3 : Option Cell) {Q : List D → Mp.Env → Prop}, slotOk c3 → (∀ v ∈ vs, ∀ l', l' ≤ l → Shw st k v l') →
    (∀ c3, Q ((seqS (sw st) vs l).1.map sD) [a0, some (.shr (.tuple (encL st))), some (.own true (lD (seqS (sw st) vs l).2)), c3, c4]) →
    LR (lentOf TT) (callD TT k) (.call f__law_show [.var 3, .var 1, .var 2]) (.name 3) none [3] (encL vs) [a0, some (.shr (.tuple (encL st))), some (.own true (lD l)), c3, c4] Q
  | [], l, c3, Q, _, _, q => lr_nil (q c3)
  | v :: vs, l, c3, Q, h, ih, q => by
    refine lr_cons ⟨[a0, some (.shr (.tuple (encL st))), some (.own true (lD l)), some (.shr (enc v)), c4], rfl, ec_none (br_t rfl ?_)⟩
    walk_at "go"
    refine ih v List.mem_cons_self l (Nat.le_refl _) ?_
    walk_at "go"
    dsimp only [List.set_cons_zero, List.set_cons_succ]
    exact lr_show vs _ _ (fun d h => nomatch h) (fun w hw l' hl' => ih w (List.mem_cons_of_mem _ hw) l' (Nat.le_trans hl' (sw_le st v l))) fun c3 => q c3
theorem lr_flds {st : List Vl} {k : Nat} {a0 a3 : Option Cell} : ∀ (fs : List (Tx × Vl)) (l : Nat) (c4 : Option Cell) {Q : List D → Mp.Env → Prop}, slotOk c4 → (∀ f ∈ fs, f.1.length ≤ 8 ∧ ∀ l', l' ≤ l → Shw st k f.2 l' ∧ (sw st f.2 l').1.length ≤ 31000) →
    (∀ c4, Q ((seqS (swF st) fs l).1.map sD) [a0, some (.shr (.tuple (encL st))), some (.own true (lD (seqS (swF st) fs l).2)), a3, c4]) →
    LR (lentOf TT) (callD TT k) (.bin .add (.bin .add (.idx (.var 4) (.cst (.int 0))) (.cst (.str " = "))) (.call f__law_show [.idx (.var 4) (.cst (.int 1)), .var 1, .var 2])) (.name 4) none [4] (encF fs) [a0, some (.shr (.tuple (encL st))), some (.own true (lD l)), a3, c4] Q
  | [], l, c4, Q, _, _, q => lr_nil (q c4)
  | (x, v) :: fs, l, c4, Q, h, ih, q => by
    obtain ⟨hx, ih1⟩ := ih _ List.mem_cons_self
    obtain ⟨ih2, ih3⟩ := ih1 l (Nat.le_refl _)
    have hx : x.length ≤ 8 := hx
    refine lr_cons ⟨[a0, some (.shr (.tuple (encL st))), some (.own true (lD l)), a3, some (.shr (.tuple [.str (S x), enc v]))], rfl, ec_none (br_t rfl ?_)⟩
    walk_at "go"
    refine ⟨_, _, _, rfl, rfl, addS (b := [32, 61, 32]) rfl (by kernel_rfl) (by simp; omega), ?_⟩
    walk_at "go"
    refine ih2 ?_
    walk_at "go"
    refine ⟨_, _, _, rfl, rfl, addS rfl rfl (by simp; have := ih3; simp at this; omega), ?_⟩
    refine ⟨_, _, rfl, ?_⟩
    dsimp only [List.set_cons_zero, List.set_cons_succ]
    exact lr_flds fs _ _ (fun d h => nomatch h) (fun f hf => ⟨(ih f (List.mem_cons_of_mem _ hf)).1, fun l' hl' => (ih f (List.mem_cons_of_mem _ hf)).2 l' (Nat.le_trans hl' (sw_le st v l))⟩) fun c4 => q c4
end
theorem join_ok2 {a : Tx} {x : Str} (hx : x = S a) {xs : List Tx} (ha : a.length ≤ 10) (h : (TL.joinL a xs).length ≤ 100000) (h2 : xs.length ≤ 6) : datMeth .join (.str x) [.list (xs.map sD)] = some (.str (S (TL.joinL a xs)), false) := by
  have : ∀ ys : List Tx, (ys.map (·.length)).sum ≤ (TL.joinL a ys).length := fun ys => by
    induction ys with
    | nil => simp
    | cons y ys ih =>
      cases ys with
      | nil => simp [TL.joinL]
      | cons z zs =>
        show _ ≤ (y ++ (a ++ TL.joinL a (z :: zs))).length
        rw [List.map_cons, List.sum_cons, List.length_append, List.length_append]
        omega
  have h3 := this xs
  refine join_ok hx ?_
  have : xs.length * a.length ≤ 6 * 10 := Nat.mul_le_mul h2 ha
  omega
theorem seqS_len {α : Type} (f : α → Nat → Tx × Nat) : ∀ (vs : List α) (l : Nat), (seqS f vs l).1.length = vs.length
  | [], _ => rfl
  | v :: vs, l => by
    show ((f v l).1 :: (seqS f vs (f v l).2).1).length = _
    rw [List.length_cons, List.length_cons, seqS_len f vs]
theorem c_lshow (st : List Vl) (hst : ∀ v ∈ st, wf st.length v = true) : ∀ (n k : Nat) (v : Vl) (l : Nat), (l ≤ n ∨ ht st n v = true) → wf st.length v = true → l ≤ 300 → Shw st (k + 2 * n + 2) v l
  | n, k, v, 0, _, hv, hl, Q, q => by
    refine cl_def (k := k + 2 * n + 1) (m := m__law_show) (ρ := [some (.shr (enc v)), some (.shr (.tuple (encL st))), some (.own true (lD 0)), none, none]) rfl rfl rfl ?_
    walk_at "go"
    exact q
  | 0, k, v, l + 1, h, hv, hl, Q, q => by
    rcases h with h | h
    · omega
    · cases h
  | n + 1, k, v, l + 1, h, hv, hl, Q, q => by
    have ih : ∀ w l', l' ≤ l → (l' ≤ n ∨ ht st n w = true) → wf st.length w = true → ∀ j, Shw st (k + j + 2 * n + 2) w l' := fun w l' hl' hh hw j => c_lshow st hst n (k + j) w l' hh hw (by omega)
    refine cl_def (k := k + 2 * (n + 1) + 1) (m := m__law_show) (ρ := [some (.shr (enc v)), some (.shr (.tuple (encL st))), some (.own true (lD (l + 1))), none, none]) rfl rfl rfl ?_
    have e1 : ((l + 1 : Nat) : Int) - 1 = (l : Nat) := by omega
    refine eb_cons ?_
    walk_at "st"
    walk_at "go"
    have e2 : (PyData.list ([PyData.int ((l + 1 : Nat) : Int)].set (Int.toNat 0) (PyData.int (((l + 1 : Nat) : Int) - 1)))) = lD l := by
      rw [e1]
      rfl
    rw [e2]
    have hb := bigS hst hv hl
    cases v with
    | int i =>
      unfold wf at hv
      rw [Bool.and_eq_true] at hv
      have h1 := of_decide_eq_true hv.1
      have h2 := of_decide_eq_true hv.2
      rw [sw_int] at q
      unfold itx at q
      walk_at "go"
      by_cases h3 : i < 0
      · rw [if_pos h3] at q
        refine br_f (decide_eq_false (by omega)) ?_
        walk_at "go"
        have e : 0 - i = ((-i).toNat : Int) := by omega
        have l := numL_len (n := (-i).toNat) (by omega)
        refine ⟨_, _, rfl, by rw [e]; exact str_nat (by omega), ?_⟩
        walk_at "go"
        refine ⟨_, _, _, rfl, rfl, addS (a := [126]) (by kernel_rfl) rfl (by simp; omega), ?_⟩
        walk_at "go"
        exact q
      · rw [if_neg h3] at q
        refine br_t (decide_eq_true (by omega)) ?_
        have e : i = (i.toNat : Int) := by omega
        walk_at "go"
        refine ⟨_, _, rfl, by rw [e]; exact str_nat (by omega), ?_⟩
        walk_at "go"
        exact q
    | fn =>
      walk_at "go"
      rw [sw_fn] at q
      rw [show Str.ofString "fn" = S [102, 110] by kernel_rfl]
      exact q
    | exn =>
      walk_at "go"
      rw [sw_exn] at q
      rw [show Str.ofString "E" = S [69] by kernel_rfl]
      exact q
    | con pk a name arg =>
      unfold wf at hv
      rw [Bool.and_eq_true] at hv
      rw [sw_con] at q
      have nm := fun (x : Str) (hx : x = S name) Q q => c_named (k + 2 * (n + 1)) st hst name (of_decide_eq_true hv.1) hx arg (fun v e => by subst e; exact hv.2) l (by omega) (fun v e _ => ih v l (Nat.le_refl _) (by
        rcases h with h | h
        · exact .inl (by omega)
        · subst e
          exact .inr h) (by subst e; exact hv.2) 0) (Q := Q) q
      cases pk
      · walk_at "go"
        refine nm _ rfl _ ?_
        walk_at "go"
        exact q
      · walk_at "go"
        refine nm _ rfl _ ?_
        walk_at "go"
        exact q
    | ref j =>
      unfold wf at hv
      have hj : j < st.length := of_decide_eq_true hv
      rw [sw_ref] at q
      have hw : wf st.length (st.getD j .fn) = true := by
        rw [List.getD_eq_getElem?_getD, List.getElem?_eq_getElem hj]
        exact hst _ (List.getElem_mem hj)
      walk_at "go"
      refine ⟨_, _, _, rfl, rfl, encL_idx hj, ?_⟩
      walk_at "go"
      refine c_named (k + 2 * (n + 1)) st hst [114, 101, 102] (by decide) (by kernel_rfl) (some (st.getD j .fn)) (fun v e => by cases e; exact hw) l (by omega) (fun v e _ => ih v l (Nat.le_refl _) (by
        rcases h with h | h
        · exact .inl (by omega)
        · cases e
          exact .inr h) (by cases e; exact hw) 0) ?_
      walk_at "go"
      exact q
    | tup vs =>
      unfold wf at hv
      rw [Bool.and_eq_true] at hv
      have hvl := of_decide_eq_true hv.1
      rw [sw_tup] at q hb
      have ih1 : ∀ v ∈ vs, ∀ l', l' ≤ l → Shw st (k + 2 * (n + 1) + 1) v l' := fun v hm l' hl' => by
        have this : Shw st (k + 1 + 2 * n + 2) v l' := ih v l' hl' (by
          rcases h with h | h
          · exact .inl (by omega)
          · exact .inr (List.all_eq_true.mp (show vs.all (ht st n) = true from h) v hm)) (wfL_mem hv.2 v hm) 1
        have e : k + 1 + 2 * n + 2 = k + 2 * (n + 1) + 1 := by omega
        rwa [e] at this
      walk_at "go"
      refine ⟨rfl, ?_⟩
      walk_at "go"
      refine ev_lc ?_
      walk_at "go"
      refine lr_show vs l none (fun d h => nomatch h) ih1 fun c3 => ⟨?_, ?_⟩
      · rw [List.length_map, seqS_len]
        exact Nat.le_trans hvl (by decide)
      walk_at "go"
      simp only [List.length_append, List.length_cons, List.length_nil] at hb
      refine ⟨_, _, _, rfl, rfl, join_ok2 (a := Comma) (by kernel_rfl) (by decide) (by omega) (by rw [seqS_len]; exact hvl), ?_⟩
      walk_at "go"
      refine ⟨_, _, _, rfl, rfl, addS (a := [40]) (by kernel_rfl) rfl (by simp; omega), ?_⟩
      walk_at "go"
      refine ⟨_, _, _, rfl, rfl, addS (b := [41]) rfl (by kernel_rfl) (by simp; omega), ?_⟩
      walk_at "go"
      exact q
    | rcd fs =>
      unfold wf at hv
      rw [Bool.and_eq_true] at hv
      have hvl := of_decide_eq_true hv.1
      rw [sw_rcd] at q hb
      have ih1 : ∀ f ∈ fs, f.1.length ≤ 8 ∧ ∀ l', l' ≤ l → Shw st (k + 2 * (n + 1) + 1) f.2 l' ∧ (sw st f.2 l').1.length ≤ 31000 := fun f hm => ⟨(wfF_mem hv.2 f hm).1, fun l' hl' => by
        have this : Shw st (k + 1 + 2 * n + 2) f.2 l' := ih f.2 l' hl' (by
          rcases h with h | h
          · exact .inl (by omega)
          · exact .inr (List.all_eq_true.mp (show (fs.all fun f => ht st n f.2) = true from h) f hm)) (wfF_mem hv.2 f hm).2 1
        have e : k + 1 + 2 * n + 2 = k + 2 * (n + 1) + 1 := by omega
        rw [e] at this
        exact ⟨this, bigS hst (wfF_mem hv.2 f hm).2 (by omega)⟩⟩
      walk_at "go"
      refine ⟨rfl, ?_⟩
      walk_at "go"
      refine ev_lc ?_
      walk_at "go"
      refine lr_flds fs l none (fun d h => nomatch h) ih1 fun c4 => ⟨?_, ?_⟩
      · rw [List.length_map, seqS_len]
        exact Nat.le_trans hvl (by decide)
      walk_at "go"
      simp only [List.length_append, List.length_cons, List.length_nil] at hb
      refine ⟨_, _, _, rfl, rfl, join_ok2 (a := Comma) (by kernel_rfl) (by decide) (by omega) (by rw [seqS_len]; exact hvl), ?_⟩
      walk_at "go"
      refine ⟨_, _, _, rfl, rfl, addS (a := [123]) (by kernel_rfl) rfl (by simp; omega), ?_⟩
      walk_at "go"
      refine ⟨_, _, _, rfl, rfl, addS (b := [125]) rfl (by kernel_rfl) (by simp; omega), ?_⟩
      walk_at "go"
      exact q
end K56

namespace K56
open PySem PySem.Spec L2 Mp SX
/-! k56: drawn values. -/
/-- a drawn value: well made, and not high over a store of numbers -/
structure Gd (d : Nat) (v : Vl) : Prop where
  wf : wf 3 v = true
  ht : ∀ st : List Vl, st.length = 3 → (∀ w ∈ st, ∃ i, w = .int i) → ht st (2 * d + 3) v = true
theorem ht_mono {st : List Vl} : ∀ {n m : Nat} {v : Vl}, n ≤ m → ht st n v = true → ht st m v = true
  | 0, _, _, _, h => by cases h
  | n + 1, 0, v, hm, _ => by omega
  | n + 1, m + 1, v, hm, h => by
    have ih : ∀ w, ht st n w = true → ht st m w = true := fun w => ht_mono (by omega)
    cases v with
    | con pk a name arg =>
      cases arg with
      | none => rfl
      | some w => exact ih w h
    | ref j => exact ih _ h
    | tup vs => exact List.all_eq_true.mpr fun w hw => ih w (List.all_eq_true.mp (show vs.all (ht st n) = true from h) w hw)
    | rcd fs => exact List.all_eq_true.mpr fun w hw => ih w.2 (List.all_eq_true.mp (show (fs.all fun f => ht st n f.2) = true from h) w hw)
    | _ => rfl
theorem Gd.mono {d e : Nat} {v : Vl} (h : Gd d v) (k : d ≤ e) : Gd e v := ⟨h.wf, fun st h1 h2 => ht_mono (by omega) (h.ht st h1 h2)⟩
theorem gd_int {d : Nat} {i : Int} (h1 : -10 < i) (h2 : i < 10) : Gd d (.int i) := ⟨by simp [K56.wf, h1, h2], fun _ _ _ => rfl⟩
theorem gd_con {d : Nat} {pk : Bool} {a : Int} {name : Tx} (hn : name.length ≤ 8) : Gd d (.con pk a name none) := ⟨by simp [K56.wf, wfO, hn], fun _ _ _ => rfl⟩
theorem gd_con1 {d : Nat} {pk : Bool} {a : Int} {name : Tx} {v : Vl} (hn : name.length ≤ 8) (h : Gd d v) : Gd (d + 1) (.con pk a name (some v)) := ⟨by simp [K56.wf, wfO, hn, h.wf], fun st h1 h2 => ht_mono (n := 2 * d + 3) (m := 2 * d + 4) (by omega) (h.ht st h1 h2)⟩
theorem gd_ref {d j : Nat} (h : j < 3) : Gd d (.ref j) := ⟨by simp [K56.wf, h], fun st h1 h2 => by
  have hj : j < st.length := by omega
  obtain ⟨i, e⟩ := h2 _ (List.getElem_mem hj)
  show ht st (2 * d + 2) (st.getD j .fn) = true
  rw [List.getD_eq_getElem?_getD, List.getElem?_eq_getElem hj]
  show ht st (2 * d + 2) st[j] = true
  rw [e]
  rfl⟩
theorem wfL_of {ns : Nat} : ∀ {vs : List Vl}, (∀ v ∈ vs, wf ns v = true) → wfL ns vs = true
  | [], _ => rfl
  | v :: vs, h => by
    unfold wfL
    rw [h v List.mem_cons_self, wfL_of fun w hw => h w (List.mem_cons_of_mem _ hw)]
    rfl
theorem wfF_of {ns : Nat} : ∀ {fs : List (Tx × Vl)}, (∀ f ∈ fs, f.1.length ≤ 8 ∧ wf ns f.2 = true) → wfF ns fs = true
  | [], _ => rfl
  | (x, v) :: fs, h => by
    unfold wfF
    obtain ⟨h1, h2⟩ := h _ List.mem_cons_self
    rw [show decide (x.length ≤ 8) = true from decide_eq_true h1, show wf ns v = true from h2, wfF_of fun w hw => h w (List.mem_cons_of_mem _ hw)]
    rfl
theorem gd_tup {d : Nat} {vs : List Vl} (hl : vs.length ≤ 6) (h : ∀ v ∈ vs, Gd d v) : Gd (d + 1) (.tup vs) := ⟨by
  unfold K56.wf
  rw [decide_eq_true hl, wfL_of fun v hv => (h v hv).wf]
  rfl, fun st h1 h2 => List.all_eq_true.mpr fun v hv => ht_mono (n := 2 * d + 3) (m := 2 * d + 4) (by omega) ((h v hv).ht st h1 h2)⟩
theorem gd_rcd {d : Nat} {fs : List (Tx × Vl)} (hl : fs.length ≤ 6) (h : ∀ f ∈ fs, f.1.length ≤ 8 ∧ Gd d f.2) : Gd (d + 1) (.rcd fs) := ⟨by
  unfold K56.wf
  rw [decide_eq_true hl, wfF_of fun f hf => ⟨(h f hf).1, (h f hf).2.wf⟩]
  rfl, fun st h1 h2 => List.all_eq_true.mpr fun f hf => ht_mono (n := 2 * d + 3) (m := 2 * d + 4) (by omega) ((h f hf).2.ht st h1 h2)⟩
/-- what _law_value does -/
def Val (k d : Nat) : Prop := ∀ (s : List Int) (p : Nat) (a b c : Int) {Q : R → List D → Prop}, (∀ p' a' b' v, Gd d v → Q (.dat (enc v)) [tapeD s p' a' b' c]) → CL (callD TT k) f__law_value [.own (tapeD s p a b c), .shr (.int (d : Nat))] Q
theorem lr_vals {k d : Nat} (ih : Val k d) {s : List Int} {c : Int} {a1 a2 a3 a4 a5 : Option Cell} (h1 : a1 = some (.shr (.int ((d + 1 : Nat) : Int)))) : ∀ (m : Nat) (lo : Int) (p : Nat) (a b : Int) (c6 : Option Cell) {Q : List D → Mp.Env → Prop}, slotOk c6 →
    (∀ (vs : List Vl) p' a' b' c6, vs.length = m → (∀ v ∈ vs, Gd d v) → Q (vs.map enc) [some (.own true (tapeD s p' a' b' c)), a1, a2, a3, a4, a5, c6]) →
    LR (lentOf TT) (callD TT k) (.call f__law_value [.var 0, .bin .sub (.var 1) (.cst (.int 1))]) (.name 6) none [6] (rangeD lo m) [some (.own true (tapeD s p a b c)), a1, a2, a3, a4, a5, c6] Q
  | 0, lo, p, a, b, c6, Q, _, q => lr_nil (q [] p a b c6 rfl (by simp))
  | m + 1, lo, p, a, b, c6, Q, hc, q => by
    subst h1
    have e1 : ((d + 1 : Nat) : Int) - 1 = (d : Nat) := by omega
    refine lr_cons ⟨[some (.own true (tapeD s p a b c)), some (.shr (.int ((d + 1 : Nat) : Int))), a2, a3, a4, a5, some (.shr (.int lo))], rfl, ec_none (br_t rfl ?_)⟩
    walk_at "go"
    rw [e1]
    refine ih s p a b c fun p1 a1 b1 v hv => ?_
    walk_at "go"
    dsimp only [List.set_cons_zero, List.set_cons_succ]
    exact lr_vals ih rfl m _ _ _ _ _ (fun d h => nomatch h) fun vs p' a' b' c6 hl hg => q (v :: vs) p' a' b' c6 (by rw [List.length_cons, hl]) fun w hw => by
      rcases List.mem_cons.mp hw with rfl | hw
      · exact hv
      · exact hg w hw
theorem okInt_of {i : Int} (h1 : 0 ≤ i) (h2 : i ≤ 1000) : okInt i = true := decide_eq_true ⟨by omega, by omega⟩
theorem c_bool (k : Nat) (t : Nat) (ht : t < 2) {Q : R → List D → Prop} (q : Q (.dat (enc (.con false t (if t = 0 then [70, 97, 108, 115, 101] else [84, 114, 117, 101]) none))) []) : CL (callD TT (k+1)) f__law_boolean [.shr (.int (t : Nat))] Q := by
  refine cl_of (os := []) ?_ q
  obtain rfl | rfl : t = 0 ∨ t = 1 := by omega
  · kernel_rfl
  · kernel_rfl
theorem c_value : ∀ (d k : Nat), Val (k + d + 3) d := fun d => by
  induction d with
  | zero =>
    intro k s p a b c Q q
    refine cl_def (k := k + 2) (m := m__law_value) (ρ := [some (.own true (tapeD s p a b c)), some (.shr (.int ((0 : Nat) : Int))), none, none, none, none, none]) rfl rfl rfl ?_
    walk_at "go"
    refine c_take k _ _ _ _ _ _ (by omega) (by omega) (fun p1 a1 b1 n h1 h2 => ?_)
    walk_at "go"
    obtain rfl | rfl | rfl | rfl : n = 0 ∨ n = 1 ∨ n = 2 ∨ n = 3 := by omega
    · walk_at "go"
      refine c_take k _ _ _ _ _ _ (by omega) (by omega) (fun p2 a2 b2 n2 h3 h4 => ?_)
      walk_at "go"
      exact q _ _ _ (.int (n2 - 1)) (gd_int (by omega) (by omega))
    · walk_at "go"
      refine c_take k _ _ _ _ _ _ (by omega) (by omega) (fun p2 a2 b2 n2 h3 h4 => ?_)
      obtain ⟨t, rfl⟩ := Int.eq_ofNat_of_zero_le h3
      walk_at "go"
      refine c_bool _ t (by omega) ?_
      walk_at "go"
      exact q _ _ _ _ (gd_con (by split <;> decide))
    · walk_at "go"
      refine c_take k _ _ _ _ _ _ (by omega) (by omega) (fun p2 a2 b2 n2 h3 h4 => ?_)
      obtain ⟨t, rfl⟩ := Int.eq_ofNat_of_zero_le h3
      walk_at "go"
      exact q _ _ _ (.ref t) (gd_ref (by omega))
    · walk_at "go"
      refine c_take k _ _ _ _ _ _ (by omega) (by omega) (fun p2 a2 b2 n2 h3 h4 => ?_)
      obtain rfl | rfl | rfl | rfl : n2 = 0 ∨ n2 = 1 ∨ n2 = 2 ∨ n2 = 3 := by omega
      · walk_at "go"
        exact q _ _ _ (.tup []) ⟨rfl, fun _ _ _ => rfl⟩
      · walk_at "go"
        exact q _ _ _ .fn ⟨rfl, fun _ _ _ => rfl⟩
      · walk_at "go"
        exact q _ _ _ .exn ⟨rfl, fun _ _ _ => rfl⟩
      · walk_at "go"
        exact q _ _ _ (.con false 0 [78, 105, 108] none) (gd_con (by simp))
  | succ d ih =>
    intro k s p a b c Q q
    have e1 : ((d + 1 : Nat) : Int) - 1 = (d : Nat) := by omega
    have ih : Val (k + (d + 1) + 2) d := ih k
    have q' : ∀ p' a' b' v, Gd d v → Q (.dat (enc v)) [tapeD s p' a' b' c] := fun p' a' b' v h => q p' a' b' v (h.mono (by omega))
    refine cl_def (k := k + (d + 1) + 2) (m := m__law_value) (ρ := [some (.own true (tapeD s p a b c)), some (.shr (.int ((d + 1 : Nat) : Int))), none, none, none, none, none]) rfl rfl rfl ?_
    walk_at "go"
    refine c_take (k + (d + 1)) _ _ _ _ _ _ (by omega) (by omega) (fun p1 a1 b1 n h1 h2 => ?_)
    walk_at "go"
    obtain rfl | rfl | rfl | rfl | rfl | rfl | rfl | rfl | rfl : n = 0 ∨ n = 1 ∨ n = 2 ∨ n = 3 ∨ n = 4 ∨ n = 5 ∨ n = 6 ∨ n = 7 ∨ n = 8 := by omega
    · walk_at "go"
      refine c_take (k + (d + 1)) _ _ _ _ _ _ (by omega) (by omega) (fun p2 a2 b2 n2 h3 h4 => ?_)
      walk_at "go"
      exact q _ _ _ (.int (n2 - 1)) (gd_int (by omega) (by omega))
    · walk_at "go"
      refine c_take (k + (d + 1)) _ _ _ _ _ _ (by omega) (by omega) (fun p2 a2 b2 n2 h3 h4 => ?_)
      obtain ⟨t, rfl⟩ := Int.eq_ofNat_of_zero_le h3
      walk_at "go"
      refine c_bool _ t (by omega) ?_
      walk_at "go"
      exact q _ _ _ _ (gd_con (by split <;> decide))
    · walk_at "go"
      refine c_take (k + (d + 1)) _ _ _ _ _ _ (by omega) (by omega) (fun p2 a2 b2 n2 h3 h4 => ?_)
      obtain ⟨t, rfl⟩ := Int.eq_ofNat_of_zero_le h3
      walk_at "go"
      exact q _ _ _ (.ref t) (gd_ref (by omega))
    · walk_at "go"
      refine c_take (k + (d + 1)) _ _ _ _ _ _ (by omega) (by omega) (fun p2 a2 b2 n2 h3 h4 => ?_)
      obtain rfl | rfl | rfl | rfl : n2 = 0 ∨ n2 = 1 ∨ n2 = 2 ∨ n2 = 3 := by omega
      · walk_at "go"
        exact q _ _ _ (.tup []) ⟨rfl, fun _ _ _ => rfl⟩
      · walk_at "go"
        exact q _ _ _ .fn ⟨rfl, fun _ _ _ => rfl⟩
      · walk_at "go"
        exact q _ _ _ .exn ⟨rfl, fun _ _ _ => rfl⟩
      · walk_at "go"
        exact q _ _ _ (.con false 0 [78, 105, 108] none) (gd_con (by simp))
    · walk_at "go"
      rw [e1]
      refine ih _ _ _ _ _ fun p2 a2 b2 v1 g1 => ?_
      walk_at "go"
      rw [e1]
      refine ih _ _ _ _ _ fun p3 a3 b3 v2 g2 => ?_
      walk_at "go"
      exact q _ _ _ (.con false 1 [67, 111, 110, 115] (some (.tup [v1, v2]))) ⟨by simp [K56.wf, wfO, wfL, g1.wf, g2.wf], fun st h1 h2 => by
        show ([v1, v2].all (ht st (2 * d + 3))) = true
        simp [g1.ht st h1 h2, g2.ht st h1 h2]⟩
    · walk_at "go"
      rw [e1]
      refine ih _ _ _ _ _ fun p2 a2 b2 v1 g1 => ?_
      walk_at "go"
      exact q _ _ _ (.con false 2 [83, 111, 109, 101] (some v1)) (gd_con1 (by simp) g1)
    · walk_at "go"
      refine c_take (k + (d + 1)) _ _ _ _ _ _ (by omega) (by omega) (fun p2 a2 b2 n2 h3 h4 => ?_)
      obtain rfl | rfl : n2 = 0 ∨ n2 = 1 := by omega
      · walk_at "go"
        refine c_take (k + (d + 1)) _ _ _ _ _ _ (by omega) (by omega) (fun p3 a3 b3 n3 h5 h6 => ?_)
        walk_at "go"
        exact q _ _ _ (.con true (4 + n3) [69] none) (gd_con (by simp))
      · walk_at "go"
        rw [e1]
        refine ih _ _ _ _ _ fun p2 a2 b2 v1 g1 => ?_
        walk_at "go"
        refine c_take (k + (d + 1)) _ _ _ _ _ _ (by omega) (by omega) (fun p3 a3 b3 n3 h5 h6 => ?_)
        walk_at "go"
        exact q _ _ _ (.con true (4 + n3) [69] (some v1)) (gd_con1 (by simp) g1)
    · walk_at "go"
      rw [e1]
      refine ih _ _ _ _ _ fun p2 a2 b2 v1 g1 => ?_
      walk_at "go"
      rw [e1]
      refine ih _ _ _ _ _ fun p3 a3 b3 v2 g2 => ?_
      walk_at "go"
      refine c_take (k + (d + 1)) _ _ _ _ _ _ (by omega) (by omega) (fun p4 a4 b4 n3 h5 h6 => ?_)
      obtain rfl | rfl | rfl : n3 = 0 ∨ n3 = 1 ∨ n3 = 2 := by omega
      · walk_at "go"
        exact q _ _ _ (.rcd []) ⟨rfl, fun _ _ _ => rfl⟩
      · walk_at "go"
        exact q _ _ _ (.rcd [([109], v1)]) (gd_rcd (by simp) (by simp; exact g1))
      · walk_at "go"
        exact q _ _ _ (.rcd [([109], v1), ([110], v2)]) (gd_rcd (by simp) (by simp; exact ⟨g1, g2⟩))
    · walk_at "go"
      refine c_take (k + (d + 1)) _ _ _ _ _ _ (by omega) (by omega) (fun p2 a2 b2 n2 h3 h4 => ?_)
      have fin : ∀ (m : Nat), m ≤ 6 → EB (lentOf TT) (callD TT (k + (d + 1) + 2)) [.ret (.tup [.cst (.str "tuple"), .bf .tuple [.lc (.call f__law_value [.var 0, .bin .sub (.var 1) (.cst (.int 1))]) (.name 6) (.range1 (.var 3)) none [6]]])]
          [some (.own true (tapeD s p2 a2 b2 c)), some (.shr (.int ((d + 1 : Nat) : Int))), some (.shr (.int 8)), some (.shr (.int (m : Nat))), none, none, none] (RK m__law_value.lent Q) := fun m hm => by
        walk_at "go"
        refine ev_lc (ei_rng1 (ev_shr rfl ⟨_, rfl, okInt_of (by omega) (by omega), rfl, ?_⟩))
        refine lr_vals ih rfl m 0 _ _ _ none (fun d h => nomatch h) fun vs p3 a3 b3 c6 hl hg => ⟨?_, ?_⟩
        · rw [List.length_map, hl]
          exact Nat.le_trans hm (by decide)
        walk_at "go"
        rw [← encL_map]
        exact q _ _ _ (.tup vs) (gd_tup (by omega) hg)
      obtain rfl | rfl | rfl | rfl : n2 = 0 ∨ n2 = 1 ∨ n2 = 2 ∨ n2 = 3 := by omega
      · refine ⟨_, rfl, _, _, _, rfl, rfl, rfl, ?_⟩
        refine ⟨_, rfl, sq_nx ?_⟩
        exact fin 2 (by omega)
      · refine ⟨_, rfl, _, _, _, rfl, rfl, rfl, ?_⟩
        refine ⟨_, rfl, sq_nx ?_⟩
        exact fin 2 (by omega)
      · refine ⟨_, rfl, _, _, _, rfl, rfl, rfl, ?_⟩
        refine ⟨_, rfl, sq_nx ?_⟩
        exact fin 3 (by omega)
      · refine ⟨_, rfl, _, _, _, rfl, rfl, rfl, ?_⟩
        refine ⟨_, rfl, sq_nx ?_⟩
        exact fin 6 (by omega)
end K56

namespace K56
open PySem PySem.Spec L2 Mp SX
/-! k56: the law. -/
theorem lr_w {k : Nat} {s : List Int} {c : Int} {a1 a2 : Option Cell} : ∀ (m : Nat) (lo : Int) (p : Nat) (a b : Int) (c3 : Option Cell) {Q : List D → Mp.Env → Prop}, slotOk c3 →
    (∀ (vs : List Vl) p' a' b' c3, vs.length = m → (∀ v ∈ vs, Gd 1 v) → slotOk c3 → Q (vs.map enc) [some (.own true (tapeD s p' a' b' c)), a1, a2, c3]) →
    LR (lentOf TT) (callD TT (k + 1 + 3)) (.call f__law_value [.var 0, .cst (.int 1)]) (.name 3) none [3] (rangeD lo m) [some (.own true (tapeD s p a b c)), a1, a2, c3] Q
  | 0, lo, p, a, b, c3, Q, h, q => lr_nil (q [] p a b c3 rfl (by simp) h)
  | m + 1, lo, p, a, b, c3, Q, hc, q => by
    refine lr_cons ⟨[some (.own true (tapeD s p a b c)), a1, a2, some (.shr (.int lo))], rfl, ec_none (br_t rfl ?_)⟩
    walk_at "go"
    refine c_value 1 k s p a b c fun p1 a1 b1 v hv => ?_
    walk_at "go"
    dsimp only [List.set_cons_zero, List.set_cons_succ]
    exact lr_w m _ _ _ _ _ (fun d h => nomatch h) fun vs p' a' b' c6 hl hg hs => q (v :: vs) p' a' b' c6 (by rw [List.length_cons, hl]) (fun w hw => by
      rcases List.mem_cons.mp hw with rfl | hw
      · exact hv
      · exact hg w hw) hs
theorem lr_w2 {k : Nat} {s : List Int} {c : Int} {a1 a3 : Option Cell} : ∀ (m : Nat) (lo : Int) (p : Nat) (a b : Int) (c2 : Option Cell) {Q : List D → Mp.Env → Prop}, slotOk c2 → slotOk a3 → a3 = none →
    (∀ (vs : List Vl) p' a' b' c2, vs.length = m → (∀ v ∈ vs, Gd 2 v) → Q (vs.map enc) [some (.own true (tapeD s p' a' b' c)), a1, c2, a3]) →
    LR (lentOf TT) (callD TT (k + 1 + 3)) (.tup [.cst (.str "tuple"), .bf .tuple [.lc (.call f__law_value [.var 0, .cst (.int 1)]) (.name 3) (.range1 (.cst (.int 6))) none [3]]]) (.name 2) none [2] (rangeD lo m) [some (.own true (tapeD s p a b c)), a1, c2, a3] Q
  | 0, lo, p, a, b, c2, Q, _, _, _, q => lr_nil (q [] p a b c2 rfl (by simp))
  | m + 1, lo, p, a, b, c2, Q, hc, h3, e3, q => by
    subst e3
    refine lr_cons ⟨[some (.own true (tapeD s p a b c)), a1, some (.shr (.int lo)), none], rfl, ec_none (br_t rfl ?_)⟩
    walk_at "go"
    refine ev_lc (ei_rng1 (ev_cst ⟨_, rfl, okInt_of (by decide) (by decide), rfl, ?_⟩))
    refine lr_w 6 0 _ _ _ none (fun d h => nomatch h) fun vs p1 a1 b1 c3 hl hg hs => ⟨?_, ?_⟩
    · rw [List.length_map, hl]
      decide
    walk_at "go"
    dsimp only [backE, List.set_cons_zero, List.set_cons_succ]
    rw [← encL_map]
    exact lr_w2 m _ _ _ _ _ (fun d h => nomatch h) (fun d h => nomatch h) rfl fun us p' a' b' c6 hl2 hg2 => q (.tup vs :: us) p' a' b' c6 (by rw [List.length_cons, hl2]) fun w hw => by
      rcases List.mem_cons.mp hw with rfl | hw
      · exact gd_tup (by omega) hg
      · exact hg2 w hw
theorem c_wide (k : Nat) (s : List Int) (p : Nat) (a b c : Int) {Q : R → List D → Prop} (q : ∀ p' a' b' v, Gd 4 v → Q (.dat (enc v)) [tapeD s p' a' b' c]) : CL (callD TT (k + 5)) f__law_wide [.own (tapeD s p a b c)] Q := by
  refine cl_def (k := k + 4) (m := m__law_wide) (ρ := [some (.own true (tapeD s p a b c)), none, none, none]) rfl rfl rfl ?_
  refine eb_cons (es_asg (ev_lc (ei_rng1 ?_)))
  walk_at "go"
  refine c_take _ _ _ _ _ _ _ (by omega) (by omega) (fun p1 a1 b1 n h1 h2 => ?_)
  walk_at "st"
  walk_at "st"
  obtain ⟨m, rfl⟩ := Int.eq_ofNat_of_zero_le h1
  have e1 : (2 + (m : Int)).toNat = m + 2 := by omega
  refine ⟨_, rfl, okInt_of (by omega) (by omega), rfl, ?_⟩
  rw [e1]
  dsimp only [List.set_cons_zero, List.set_cons_succ]
  refine lr_w2 (m + 2) 0 _ _ _ none (fun d h => nomatch h) (fun d h => nomatch h) rfl fun vs p2 a2 b2 c2 hl hg => ⟨?_, ?_⟩
  · rw [List.length_map, hl]
    exact Nat.le_trans (by omega : m + 2 ≤ 6) (by decide)
  refine ⟨_, rfl, sq_nx ?_⟩
  dsimp only [backE, List.set_cons_zero, List.set_cons_succ]
  walk_at "go"
  rw [← encL_map]
  refine q _ _ _ (.con false 2 [83, 111, 109, 101] (some (.tup vs))) (gd_con1 (d := 3) (by simp) (gd_tup (d := 2) (by omega) hg))
/-! the law's own lists -/
section
variable {k : Nat} {s : List Int} {c : Int} {a0 a2 a3 a4 a5 : Option Cell}
theorem lr_st {kk : Nat} : ∀ (m : Nat) (lo : Int) (p : Nat) (a b : Int) (c6 : Option Cell) {Q : List D → Mp.Env → Prop}, slotOk c6 →
    (∀ (vs : List Vl) p' a' b' c6, vs.length = m → (∀ v ∈ vs, Gd 2 v) → Q (vs.map enc) [a0, some (.own false (tapeD s p' a' b' c)), a2, a3, a4, a5, c6]) →
    LR (lentOf TT) (callD TT (k + 2 + 3)) (.call f__law_value [.var 1, .cst (.int 2)]) (.name 6) none [6] (rangeD lo m) [a0, some (.own false (tapeD s p a b c)), a2, a3, a4, a5, c6] Q
  | 0, lo, p, a, b, c6, Q, h, q => lr_nil (q [] p a b c6 rfl (by simp))
  | m + 1, lo, p, a, b, c6, Q, hc, q => by
    refine lr_cons ⟨[a0, some (.own false (tapeD s p a b c)), a2, a3, a4, a5, some (.shr (.int lo))], rfl, ec_none (br_t rfl ?_)⟩
    walk_at "go"
    refine c_value 2 k s p a b c fun p1 a1 b1 v hv => ?_
    walk_at "go"
    dsimp only [List.set_cons_zero, List.set_cons_succ]
    exact lr_st (kk := kk) m _ _ _ _ _ (fun d h => nomatch h) fun vs p' a' b' c6 hl hg => q (v :: vs) p' a' b' c6 (by rw [List.length_cons, hl]) fun w hw => by
      rcases List.mem_cons.mp hw with rfl | hw
      · exact hv
      · exact hg w hw
theorem lr_wide : ∀ (m : Nat) (lo : Int) (p : Nat) (a b : Int) (c6 : Option Cell) {Q : List D → Mp.Env → Prop}, slotOk c6 →
    (∀ (vs : List Vl) p' a' b' c6, vs.length = m → (∀ v ∈ vs, Gd 4 v) → Q (vs.map enc) [a0, some (.own false (tapeD s p' a' b' c)), a2, a3, a4, a5, c6]) →
    LR (lentOf TT) (callD TT (k + 5)) (.call f__law_wide [.var 1]) (.name 6) none [6] (rangeD lo m) [a0, some (.own false (tapeD s p a b c)), a2, a3, a4, a5, c6] Q
  | 0, lo, p, a, b, c6, Q, h, q => lr_nil (q [] p a b c6 rfl (by simp))
  | m + 1, lo, p, a, b, c6, Q, hc, q => by
    refine lr_cons ⟨[a0, some (.own false (tapeD s p a b c)), a2, a3, a4, a5, some (.shr (.int lo))], rfl, ec_none (br_t rfl ?_)⟩
    walk_at "go"
    refine c_wide k s p a b c fun p1 a1 b1 v hv => ?_
    walk_at "go"
    dsimp only [List.set_cons_zero, List.set_cons_succ]
    exact lr_wide m _ _ _ _ _ (fun d h => nomatch h) fun vs p' a' b' c6 hl hg => q (v :: vs) p' a' b' c6 (by rw [List.length_cons, hl]) fun w hw => by
      rcases List.mem_cons.mp hw with rfl | hw
      · exact hv
      · exact hg w hw
end
theorem c_tape (k : Nat) (ns : List Int) {Q : R → List D → Prop} (q : Q (.frs (tapeD ns 0 0 1 0)) []) : CL (callD TT (k+1)) f__law_tape [.shr (.list (ns.map .int)), .shr (.int 0)] Q := cl_of rfl q
theorem cl_eq {F : Nat → List Mp.Arg → Option (R × List D)} {f : Nat} {as : List Mp.Arg} {r : R} {os : List D} (h : CL F f as fun r' os' => r' = r ∧ os' = os) : F f as = some (r, os) := by
  obtain ⟨r', os', e, rfl, rfl⟩ := h
  exact e
/-- from the told text on -/
def endB : List S := m_law.body.drop 6
theorem c_end (st : List Vl) (h3 : st.length = 3) (hst : ∀ v ∈ st, wf 3 v = true) (v : Vl) (hv : wf 3 v = true) (L : Nat) (hL : L ≤ 300) (hL0 : 1 ≤ L) (hh : L ≤ 98 ∨ ht st 98 v = true) (a0 a1 a6 : Option Cell) {Q : R → List D → Prop} (q : Q (.dat (.bool true)) []) :
    EB (lentOf TT) (callD TT 200) endB [a0, a1, some (.shr (.tuple (encL st))), some (.shr (enc v)), some (.shr (.int (L : Nat))), none, a6] (RK [false] Q) := by
  have hst' : ∀ v ∈ st, wf st.length v = true := by rw [h3]; exact hst
  have hv' : wf st.length v = true := by rw [h3]; exact hv
  unfold endB
  show EB _ _ [_, _, _] _ _
  walk_at "go"
  refine c_show 195 st hst' v (.inl hv') L hL ?_
  walk_at "go"
  refine c_lshow st hst' 98 2 v L hh hv' hL ?_
  walk_at "go"
  refine br_f (by simp) ?_
  walk_at "go"
  refine c_show 195 [] (by simp) (.int (-(L : Int))) (.inr ⟨_, rfl, by omega, by omega⟩) 1 (by omega) ?_
  walk_at "go"
  have nl := numL_len (n := L) (by omega)
  refine ⟨_, _, rfl, str_nat (by omega), ?_⟩
  walk_at "go"
  refine ⟨_, _, _, rfl, rfl, addS (a := [126]) (by kernel_rfl) rfl (by simp; omega), ?_⟩
  walk_at "go"
  have e : (sw [] (.int (-(L : Int))) 1).1 = [126] ++ TL.numL L := by
    show itx (-(L : Int)) = _
    unfold itx
    rw [if_pos (by omega)]
    have : (-(-(L : Int))).toNat = L := by omega
    rw [this]
    rfl
  rw [e]
  have e2 : (S ([126] ++ TL.numL L) == S ([126] ++ TL.numL L)) = true := beq_self_eq_true _
  rw [e2]
  exact q
theorem eb_then {T : Nat → Option (List Bool)} {F : Nat → List Mp.Arg → Option (R × List D)} {xs ys : List S} {ρ : Mp.Env} {Q : Fl → Mp.Env → Prop} (h : EB T F xs ρ (SQ T F ys Q)) : EB T F (xs ++ ys) ρ Q := by
  induction xs generalizing ρ with
  | nil =>
    obtain ⟨fl, ρ1, e, q⟩ := h
    cases e
    exact q.ex
  | cons s ss ih =>
    obtain ⟨fl, ρ1, e, q⟩ := h
    obtain ⟨⟨fl2, ρ2⟩, e1, e2⟩ := bi (show (Mp.run T F s ρ >>= _) = _ from e)
    refine eb_cons ⟨fl2, ρ2, e1, ⟨?_⟩⟩
    cases fl2 with
    | nx => exact ih ⟨fl, ρ1, e2, q⟩
    | bk => cases e2; exact q.ex
    | ct => cases e2; exact q.ex
    | rt r => cases e2; exact q.ex
def st3 : List Vl := [.int 0, .int 1, .int 2]
theorem c_tail (ns : List Int) (p : Nat) (a b : Int) (sts : List Vl) (hsl : sts.length = 3) (hsg : ∀ w ∈ sts, Gd 2 w) (v : Vl) (hv : Gd 4 v) (L : Nat) (hL : L ≤ 98) (hL0 : 1 ≤ L) (a0 : Option Cell) {Q : R → List D → Prop} (q : Q (.dat (.bool true)) []) :
    EB (lentOf TT) (callD TT 200) (m_law.body.drop 5) [a0, some (.own false (tapeD ns p a b 0)), some (.shr (.tuple (encL sts))), some (.shr (enc v)), some (.shr (.int (L : Nat))), none, none] (RK [false] Q) := by
  refine eb_cons ?_
  walk_at "go"
  refine c_take 198 _ _ _ _ _ _ (by omega) (by omega) (fun p1 a1 b1 n h1 h2 => ?_)
  walk_at "go"
  by_cases hn : n = 0
  · subst hn
    walk_at "go"
    refine c_take 198 _ _ _ _ _ _ (by omega) (by omega) (fun p2 a2 b2 n2 h3 h4 => ?_)
    refine ⟨_, rfl, _, _, _, rfl, rfl, rfl, ?_⟩
    refine ⟨_, rfl, sq_nx ?_⟩
    dsimp only [List.set_cons_zero, List.set_cons_succ]
    obtain ⟨m, rfl⟩ := Int.eq_ofNat_of_zero_le h3
    have e1 : (91 + (m : Int)) = ((91 + m : Nat) : Int) := by omega
    refine eb_app (xs := [.asg (.name 2) (.bf .tuple [.lc (.tup [.cst (.str "int"), .var 6]) (.name 6) (.range1 (.cst (.int 3))) none [6]])])
      (ρ1 := [a0, some (.own false (tapeD ns p2 a2 b2 0)), some (.shr (.tuple (encL st3))), some (.shr (enc v)), some (.shr (.int (91 + (m : Int)))), none, none]) (by kernel_rfl) ?_
    have main : ∀ K : Fl → Mp.Env → Prop, (∀ p3 a3 b3 vs, Gd 5 (.tup vs) → K .nx [a0, some (.own false (tapeD ns p3 a3 b3 0)), some (.shr (.tuple (encL st3))), some (.shr (enc (.tup vs))), some (.shr (.int (91 + (m : Int)))), none, none]) →
        EB (lentOf TT) (callD TT 200) [.asg (.name 3) (.tup [.cst (.str "tuple"), .bf .tuple [.lc (.call f__law_wide [.var 1]) (.name 6) (.range1 (.cst (.int 6))) none [6]]])] [a0, some (.own false (tapeD ns p2 a2 b2 0)), some (.shr (.tuple (encL st3))), some (.shr (enc v)), some (.shr (.int (91 + (m : Int)))), none, none] K := fun K hK => by
      refine eb_cons (es_asg (ev_tup (el_cons (ev_cst (el_cons (ev_bf (el_cons (ev_lc (ei_rng1 (ev_cst ⟨_, rfl, okInt_of (by decide) (by decide), rfl, ?_⟩))))))))))
      refine lr_wide (k := 195) 6 0 _ _ _ none (fun d h => nomatch h) fun vs p3 a3 b3 c6 hl hg => ⟨?_, ?_⟩
      · rw [List.length_map, hl]
        decide
      walk_at "go"
      dsimp only [backE, List.set_cons_zero, List.set_cons_succ]
      rw [← encL_map]
      exact hK p3 a3 b3 vs (gd_tup (by omega) hg)
    refine main _ fun p3 a3 b3 vs hw => sq_nx ?_
    rw [e1]
    exact c_end st3 rfl (by simp [st3, K56.wf]) (.tup vs) hw.wf (91 + m) (by omega) (by omega) (.inr (ht_mono (n := 13) (by omega) (hw.ht st3 rfl (by simp [st3])))) _ _ _ q
  · refine br_f (by simpa using hn) ?_
    refine eb_nil (sq_nx ?_)
    exact c_end sts hsl (fun w hw => (hsg w hw).wf) v hv.wf L (by omega) hL0 (.inl hL) _ _ _ q
theorem law_ok (ns : List Int) (hn : ns.length ≤ 63) : callD (tp.ds.map (·.m)) 201 f_law [.shr (.list (ns.map fun i => (.int i : D)))] = some (.dat (.bool true), []) := by
  refine cl_eq ?_
  refine cl_def (k := 200) (m := m_law) (ρ := [some (.shr (.list (ns.map .int))), none, none, none, none, none, none]) rfl rfl rfl ?_
  walk_at "go"
  refine c_tape _ _ ?_
  refine ⟨_, rfl, ?_⟩
  refine ⟨_, rfl, sq_nx ?_⟩
  dsimp only [List.set_cons_zero, List.set_cons_succ]
  refine eb_cons (es_asg (ev_bf (el_cons (ev_lc (ei_rng1 (ev_cst ⟨_, rfl, okInt_of (by decide) (by decide), rfl, ?_⟩))))))
  refine lr_st (k := 195) (kk := 0) 3 0 _ _ _ none (fun d h => nomatch h) fun sts p1 a1 b1 c6 hsl hsg => ⟨?_, ?_⟩
  · rw [List.length_map, hsl]
    decide
  walk_at "go"
  dsimp only [backE, List.set_cons_zero, List.set_cons_succ]
  refine c_value 4 193 _ _ _ _ _ fun p2 a2 b2 v hv => ?_
  walk_at "go"
  refine c_take 198 _ _ _ _ _ _ (by omega) (by omega) (fun p3 a3 b3 n h1 h2 => ?_)
  walk_at "go"
  refine c_take 198 _ _ _ _ _ _ (by omega) (by omega) (fun p4 a4 b4 n2 h3 h4 => ?_)
  walk_at "go"
  have e0 : ∀ x : Option Cell, Env.at [some (.shr (.list (ns.map PyData.int))), some (.own false (tapeD ns 0 0 1 0)), none, none, none, none, none] 6 = none := fun _ => rfl
  have e1 : (1 + n) = ((1 + n.toNat : Nat) : Int) := by omega
  by_cases hn2 : n2 = 0
  · subst hn2
    walk_at "go"
    refine c_take 198 _ _ _ _ _ _ (by omega) (by omega) (fun p5 a5 b5 n3 h5 h6 => ?_)
    have e2 : (1 + n3) = ((1 + n3.toNat : Nat) : Int) := by omega
    refine ⟨_, rfl, _, _, _, rfl, rfl, rfl, ?_⟩
    refine ⟨_, rfl, sq_nx (eb_nil (sq_nx ?_))⟩
    dsimp only [List.set_cons_zero, List.set_cons_succ]
    rw [← encL_map]
    show EB _ _ (m_law.body.drop 5) [_, _, _, _, some (.shr (.int (1 + n3))), none, none] _
    rw [e2]
    exact c_tail ns p5 a5 b5 sts hsl hsg v hv _ (by omega) (by omega) _ ⟨rfl, rfl⟩
  · refine br_f (by simpa using hn2) ?_
    refine eb_nil (sq_nx ?_)
    dsimp only [List.set_cons_zero, List.set_cons_succ]
    rw [← encL_map]
    show EB _ _ (m_law.body.drop 5) [_, _, _, _, some (.shr (.int (1 + n))), none, none] _
    rw [e1]
    exact c_tail ns p4 a4 b4 sts hsl hsg v hv _ (by omega) (by omega) _ ⟨rfl, rfl⟩
end K56

end

namespace K56
open PySem PySem.Spec L2 Mp

end K56
open PySem PySem.W PySem.Calls PyProof.Rows
theorem PySem.Challenge.cw_shapewright_k56_written_form_of_values_holds : PySem.Challenge.rw_shapewright_k56_written_form_of_values.Holds := by
  w_on; o_law
  refine HandSHeadRun.head_any (r := K56.Rw) (q := view K56.Rw.prog [16]) (H := K56.hk) (ob := K56.ob) (M := 4000) (loose := K56.loose) (d := HandSHeadRun.topDef K56.Rw.prog 16) (kwd := []) K56.ob_eq
    (by kernel_rfl) (fun s => by kernel_rfl) K56.run (by kernel_rfl) (by kernel_rfl) (by kernel_rfl) (by rfl) (by first | assumption | decide +kernel) (by decide +kernel) ⟨rfl, rfl, rfl, rfl, rfl, by decide +kernel⟩ ?hw ?hc
  case hw => w_witness2
  case hc =>
    exact Mp.walk_ofM (l := PySem.Challenge.rw_shapewright_k56_written_form_of_values) (k := 201) (i := K56.f_law) (x := "script") (ds := K56.tp.ds) (cs := K56.tp.cs) (fdef := K56.d_law) rfl (by kernel_rfl) ⟨rfl, by decide, by decide⟩ rfl (by kernel_rfl) rfl K56.binds K56.chk rfl
      (fun w h mg Y G => by
        obtain ⟨K, KX, c⟩ := Y
        exact ⟨K, KX, Mp.top_of KX G c⟩) K56.law_ok

