import PyProof.Rows.All
import Wide.All
import OpenK.AllK
import Wide.FinOn
import HandS.ForMost
import HandS.Exc
import HandS.Wide
import HandS.TupAny
import HandS.TupMul
import HandS.TupLe
import HandS.Zip
import HandS.Walk
import HandS.IsInst
import HandS.Star
import HandS.Flow
import HandS.NoneIn
import HandS.Style
import HandS.SortRule
import HandS.SortInts
import HandS.Strs
import HandS.SetFor
import HandS.Conv
import HandS.ExcInit
import HandS.WordsExc
import KE.KExcSuper
import KE.KSuper
import HandS.ExcField
import HandS.ExcIs
import KE.GoesMore
import HandS.ExcCtx
import HandS.Defaults
import HandS.HeadHook2
import HandS.Head2
import HandS.HeadEnd
import PySem.Challenge.RW_growback_k71_cells_that_stay
set_option Elab.async false
set_option maxHeartbeats 0
set_option linter.all false
set_option maxRecDepth 100000
/-! The core language: pure data, expressions, statements, and their evaluator. -/
namespace Gb
open PySem

/-- data. mls: a list that a local name holds and changes; fls: a new list that nobody else has; box: a place of the store; scr: the script -/
inductive D where
  | non | bl (b : Bool) | int (i : Int) | str (s : Str)
  | tup (xs : List D) | lst (xs : List D)
  | scr (ns : List Int) | mls (xs : List D) | fls (xs : List D) | box (n : Nat)
  deriving Inhabited

abbrev Store := List (List D)
abbrev Env := List (Option D)

/-- an own error: its class, its one field -/
structure Ex where
  cls : Nat
  val : D

inductive Out (α : Type) where
  | ok (a : α) (st : Store) | ex (x : Ex) (st : Store) | bad

def Out.bind {α β : Type} : Out α → (α → Store → Out β) → Out β
  | .ok a st, f => f a st
  | .ex x st, _ => .ex x st
  | .bad, _ => .bad
/-- a value without effect -/
def lift {α : Type} (o : Option α) (st : Store) : Out α :=
  match o with
  | some a => .ok a st
  | none => .bad

inductive BOp where
  | add | sub | mul | fdiv | mod | pow
  deriving DecidableEq
inductive COp where
  | eq | ne | lt | le | gt | ge | isN | notN | mem | nmem
  deriving DecidableEq
inductive Ty where
  | int | bool | str | list | tuple | dict
  deriving DecidableEq
inductive Bi where
  | len | int | abs | max2 | min2 | max | sum | all | sorted | tuple | list | setI | setT
  deriving DecidableEq

/-- a target: names with a mark whether the def changes the list that it holds -/
inductive T where
  | nm (i : Nat) (m : Bool)
  | tp (is : List (Nat × Bool))

inductive E where
  | var (i : Nat)
  | con (d : D)
  | glob (x : Str) (d : D)
  | bin (op : BOp) (a b : E)
  | neg (a : E)
  | not (a : E)
  | and (a b : E)
  | or (a b : E)
  | cmp (op : COp) (a b : E)
  | chain (op op' : COp) (a b c : E)
  | ite (c a b : E)
  | call (f : Nat) (es : E)
  | callK (f : Nat) (perm : List Nat) (es : E)
  | bi (b : Bi) (es : E)
  | isi (a : E) (ts : List Ty)
  | tup (es : E)
  | lst (es : E)
  | nil
  | cons (e es : E)
  | star (e es : E)
  | idx (a i : E)
  | slc (a lo hi : E)
  | comp (own : List Nat) (t : T) (it c e : E)
  | comp2 (own : List Nat) (t : T) (it c : E) (t2 : T) (it2 c2 e : E)
  | rng1 (a : E)
  | rng2 (a b : E)
  | enm (a : E)
  | zip (a b : E)
  | seq (a : E)
  | lrng1 (a : E)
  | lrng2 (a b : E)
  | rev (a : E)
  | callL (fs : List Nat) (i es : E)

inductive S where
  | pass
  | seq (a b : S)
  | asg (t : T) (e : E)
  | par (ts : List (Nat × Bool)) (es : E)
  | sub (i : Nat) (ix e : E)
  | app (i : Nat) (e : E)
  | ext (i : Nat) (e : E)
  | expr (e : E)
  | ite (c : E) (a b : S)
  | for (t : T) (it : E) (b : S)
  | whl (c : E) (b : S)
  | ret (e : E)
  | brk
  | never
  | rais (c : Nat) (e : E)
  | tryR (t : Option Nat) (ci ei : Nat) (e : E) (c : Nat) (pre : List Str)
  | frz (i : Nat)

/-! ### values -/
def asL : D → Option (List D)
  | .lst xs => some xs
  | .mls xs => some xs
  | .fls xs => some xs
  | _ => none
/-- what may stand within other data, or go to another def -/
def frzD : D → Option D
  | .fls xs => some (.lst xs)
  | .mls _ => none
  | d => some d
/-- what may stand within other data -/
def purD : D → Option D
  | .fls xs => some (.lst xs)
  | .mls _ => none
  | .box _ => none
  | d => some d
def intsD : List D → Option (List Int)
  | [] => some []
  | .int i :: r => (intsD r).map (i :: ·)
  | _ => none
def boolsD : List D → Option (List Bool)
  | [] => some []
  | .bl i :: r => (boolsD r).map (i :: ·)
  | _ => none
mutual
def toP : D → Option PyData
  | .non => some .none
  | .bl b => some (.bool b)
  | .int i => some (.int i)
  | .str s => some (.str s)
  | .tup xs => (toPs xs).map .tuple
  | .lst xs => (toPs xs).map .list
  | .mls xs => (toPs xs).map .list
  | .fls xs => (toPs xs).map .list
  | _ => none
def toPs : List D → Option (List PyData)
  | [] => some []
  | x :: xs => match toP x, toPs xs with
    | some a, some b => some (a :: b)
    | _, _ => none
end
def mulOk (i j : Int) : Bool := decide (i.natAbs < 2 ^ 64) || decide (j.natAbs < 2 ^ 64) || decide (i.natAbs.log2 + j.natAbs.log2 < 1000000)
def catD (x y : D) : Option D :=
  match x, y with
  | .int i, .int j => some (.int (i + j))
  | .str a, .str b => if a.length + b.length ≤ sizeLine then some (.str (a ++ b)) else none
  | .tup xs, .tup ys => if xs.length + ys.length ≤ sizeLine then some (.tup (xs ++ ys)) else none
  | x, y => match asL x, asL y with
    | some xs, some ys => if xs.length + ys.length ≤ sizeLine then some (.fls (xs ++ ys)) else none
    | _, _ => none
def mulD (x y : D) : Option D :=
  match x, y with
  | .int i, .int j => if mulOk i j then some (.int (i * j)) else none
  | .tup xs, .int k => if !xs.isEmpty && decide (2 ≤ k) && decide (k.natAbs ≤ 1000) && decide (xs.length ≤ 1000) then some (.tup (List.replicate k.toNat xs).flatten) else none
  | x, .int k => match asL x with
    | some xs => if decide (k.natAbs < 2 ^ 63) && decide (xs.length * k.toNat ≤ sizeLine) then some (.fls (List.replicate k.toNat xs).flatten) else none
    | none => none
  | _, _ => none
def binD (op : BOp) (x y : D) : Option D :=
  match op with
  | .add => catD x y
  | .mul => mulD x y
  | .sub => match x, y with
    | .int i, .int j => some (.int (i - j))
    | _, _ => none
  | .fdiv => match x, y with
    | .int i, .int j => if decide (0 < j) && decide (j.natAbs.log2 < 9000) then some (.int (i / j)) else none
    | _, _ => none
  | .mod => match x, y with
    | .int i, .int j => if decide (0 < j) then some (.int (i % j)) else none
    | _, _ => none
  | .pow => match x, y with
    | .int i, .int j => if decide (0 ≤ j) && decide (j.natAbs ≤ 1000000) && decide (i.natAbs < 2 ^ 64) then some (.int (i ^ j.toNat)) else none
    | _, _ => none
def eqP (x y : D) : Option Bool :=
  match toP x, toP y with
  | some d, some e => if SeqAt.shaped d && SeqAt.shaped e then some (PyData.eqv d e) else none
  | _, _ => none
def flatD : D → Bool
  | .non => true
  | .bl _ => true
  | .int _ => true
  | .str _ => true
  | _ => false
def eqF : D → D → Bool
  | .non, .non => true
  | .bl a, .bl b => a == b
  | .bl a, .int b => (if a then 1 else 0) == b
  | .int a, .bl b => a == (if b then 1 else 0)
  | .int a, .int b => a == b
  | .str a, .str b => a == b
  | _, _ => false
def memD (x y : D) : Option Bool :=
  match y with
  | .tup ys => if flatD x && ys.all flatD then some (ys.any fun y => eqF y x) else none
  | y => match asL y with
    | some ys => if flatD x && ys.all flatD then some (ys.any fun y => eqF y x) else none
    | none => none
def ordI (p : Int → Int → Bool) (x y : D) : Option Bool :=
  match x, y with
  | .int i, .int j => some (p i j)
  | _, _ => none
def isNon : D → Bool
  | .non => true
  | _ => false
def cmpD (op : COp) (x y : D) : Option Bool :=
  match op with
  | .eq => eqP x y
  | .ne => (eqP x y).map (!·)
  | .lt => ordI (fun i j => decide (i < j)) x y
  | .le => ordI (fun i j => decide (i ≤ j)) x y
  | .gt => ordI (fun i j => decide (j < i)) x y
  | .ge => ordI (fun i j => decide (j ≤ i)) x y
  | .isN => if isNon y then some (isNon x) else none
  | .notN => if isNon y then some (!isNon x) else none
  | .mem => memD x y
  | .nmem => (memD x y).map (!·)
/-- truth -/
def truD : D → Option Bool
  | .non => some false
  | .bl b => some b
  | .int i => some (i != 0)
  | .str s => if s.length ≤ sizeLine then some ((s.length : Int) != 0) else none
  | .tup xs => some (!xs.isEmpty)
  | .lst xs => some (!xs.isEmpty)
  | .mls xs => some (!xs.isEmpty)
  | .fls xs => some (!xs.isEmpty)
  | _ => none
def tyOf : D → Option Ty
  | .non => none
  | .bl _ => some .bool
  | .int _ => some .int
  | .str _ => some .str
  | .tup _ => some .tuple
  | .lst _ => some .list
  | .mls _ => some .list
  | .fls _ => some .list
  | .scr _ => none
  | .box _ => none
def isi1 (d : D) (t : Ty) : Bool :=
  match tyOf d with
  | some u => u == t || (u == .bool && t == .int)
  | none => false
def isiD (d : D) (ts : List Ty) : Option Bool :=
  match d with
  | .scr _ => none
  | .box _ => none
  | d => some (ts.any (isi1 d))
def idxD (x i : D) (st : Store) : Option D :=
  match i with
  | .int i => match x with
    | .tup xs => L2.atI xs i
    | .box n => (st[n]?).bind fun xs => L2.atI xs i
    | x => (asL x).bind fun xs => L2.atI xs i
  | _ => none
def bound : D → Option (Option Int)
  | .int i => some (some i)
  | _ => none
def isNil : E → Bool
  | .nil => true
  | _ => false
def cutL {α : Type} (xs : List α) (lo hi : Option Int) : List α := (xs.drop (HT.sIx xs.length 0 lo)).take (HT.sIx xs.length xs.length hi - HT.sIx xs.length 0 lo)
def slcD (x : D) (lo hi : Option Int) : Option D :=
  match x with
  | .tup xs => some (.tup (cutL xs lo hi))
  | .scr ns => some (.fls ((cutL ns lo hi).map .int))
  | x => (asL x).map fun xs => .fls (cutL xs lo hi)
/-- insertion by an order -/
def insB {α : Type} (le : α → α → Bool) (x : α) : List α → List α
  | [] => [x]
  | y :: r => if le x y then x :: y :: r else y :: insB le x r
def sortB {α : Type} (le : α → α → Bool) : List α → List α
  | [] => []
  | x :: r => insB le x (sortB le r)
/-- the ints, each once, in order -/
def insU (x : Int) : List Int → List Int
  | [] => [x]
  | y :: r => if x < y then x :: y :: r else if x = y then y :: r else y :: insU x r
def sortU (ns : List Int) : List Int := ns.foldr insU []
def pairs : List D → Option (List (Int × Int))
  | [] => some []
  | .tup [.int i, .int j] :: r => (pairs r).map ((i, j) :: ·)
  | _ => none
def leP (a b : Int × Int) : Bool := decide (a.1 < b.1) || (decide (a.1 = b.1) && decide (a.2 ≤ b.2))
def sortD (x : D) : Option D :=
  match asL x with
  | some xs => match intsD xs with
    | some ns => some (.fls ((sortB (fun a b => decide (a ≤ b)) ns).map .int))
    | none => match pairs xs with
      | some ps => some (.fls ((sortB leP ps).map fun p => .tup [.int p.1, .int p.2]))
      | none => none
  | none => none
def maxI : List Int → Option Int
  | [] => none
  | x :: r => some (r.foldl (fun m y => if y > m then y else m) x)
def seqOf : D → Option (List D)
  | .tup xs => some xs
  | x => asL x
def biD (b : Bi) (ds : List D) : Option D :=
  match b, ds with
  | .len, [.str s] => if s.length ≤ sizeLine then some (.int s.length) else none
  | .len, [.scr ns] => some (.int ns.length)
  | .len, [x] => (seqOf x).map fun xs => .int xs.length
  | .int, [.int i] => some (.int i)
  | .int, [.bl b] => some (.int (if b then 1 else 0))
  | .abs, [.int i] => some (.int (if i < 0 then -i else i))
  | .max2, [.int i, .int j] => some (.int (if j > i then j else i))
  | .min2, [.int i, .int j] => some (.int (if j < i then j else i))
  | .max, [x] => (asL x).bind fun xs => (intsD xs).bind fun ns => (maxI ns).map .int
  | .sum, [x] => (seqOf x).bind fun xs => (intsD xs).map fun ns => .int ns.sum
  | .all, [x] => (asL x).bind fun xs => (boolsD xs).map fun bs => .bl (bs.all id)
  | .sorted, [x] => sortD x
  | .setI, [x] => (asL x).bind fun xs => (intsD xs).bind fun ns => if ns.length < 4000 then some (.fls ((sortU ns).map .int)) else none
  | .tuple, [.tup xs] => some (.tup xs)
  | .tuple, [x] => (asL x).map .tup
  | .list, [x] => (seqOf x).map .fls
  | _, _ => none
/-- at least lo, below hi -/
def rng (lo hi : Int) : List D := (List.range (hi - lo).toNat).map fun i => .int (lo + (i : Nat))
def rngOk (i : Int) : Bool := decide (i.natAbs < 2 ^ 62)
def enumL (xs : List D) : List D := xs.mapIdx fun i x => .tup [.int (i : Nat), x]
def zipL (xs ys : List D) : List D := List.zipWith (fun x y => .tup [x, y]) xs ys

/-! ### names -/
def wipeE (ρ : Env) : List Nat → Env
  | [] => ρ
  | v :: vs => (wipeE ρ vs).set v none
def put1 (i : Nat) (m : Bool) (d : D) (ρ : Env) : Option Env :=
  if m then match d with
    | .fls xs => some (ρ.set i (some (.mls xs)))
    | .mls _ => none
    | d => some (ρ.set i (some d))
  else (frzD d).map fun d => ρ.set i (some d)
def putN : List (Nat × Bool) → List D → Env → Option Env
  | [], [], ρ => some ρ
  | (i, m) :: is, d :: ds, ρ => (put1 i m d ρ).bind (putN is ds)
  | _, _, _ => none
def putT (t : T) (d : D) (ρ : Env) : Option Env :=
  match t with
  | .nm i m => put1 i m d ρ
  | .tp is => match d with
    | .tup ds => putN is ds ρ
    | .lst ds => putN is ds ρ
    | _ => none

/-! ### evaluation -/
abbrev CallF := Nat → List D → Store → Out D
def permL (ds : List D) : List Nat → Option (List D)
  | [] => some []
  | i :: r => match ds[i]?, permL ds r with
    | some d, some ds' => some (d :: ds')
    | _, _ => none
/-- the items one by one: f gives the new item, or none if it is left out -/
def noEx {α : Type} : Out α → Out α
  | .ok a st => .ok a st
  | _ => .bad
def compL (f : D → Store → Out (Option D)) : List D → List D → Store → Out (List D)
  | [], acc, st => .ok acc st
  | d :: r, acc, st => (noEx (f d st)).bind fun o st => match o with
    | some x => if acc.length < sizeLine then compL f r (acc ++ [x]) st else .bad
    | none => compL f r acc st

section
variable (call : CallF)
mutual
/-- a value -/
def evE : E → Env → Store → Out D
  | .var i, ρ, st => lift ((ρ[i]?).bind id) st
  | .con d, _, st => .ok d st
  | .glob _ d, _, st => .ok d st
  | .bin op a b, ρ, st => (evE a ρ st).bind fun x st => (evE b ρ st).bind fun y st => lift (binD op x y) st
  | .neg a, ρ, st => (evE a ρ st).bind fun x st => match x with
    | .int i => .ok (.int (-i)) st
    | _ => .bad
  | .not a, ρ, st => (evE a ρ st).bind fun x st => lift ((truD x).map fun b => .bl (!b)) st
  | .and a b, ρ, st => (evE a ρ st).bind fun x st => match truD x with
    | some true => evE b ρ st
    | some false => .ok x st
    | none => .bad
  | .or a b, ρ, st => (evE a ρ st).bind fun x st => match truD x with
    | some true => .ok x st
    | some false => evE b ρ st
    | none => .bad
  | .cmp op a b, ρ, st => (evE a ρ st).bind fun x st => (evE b ρ st).bind fun y st => lift ((cmpD op x y).map .bl) st
  | .chain op op' a b c, ρ, st => (evE a ρ st).bind fun x st => (evE b ρ st).bind fun y st => match cmpD op x y with
    | some true => (evE c ρ st).bind fun z st => lift ((cmpD op' y z).map .bl) st
    | some false => .ok (.bl false) st
    | none => .bad
  | .ite c a b, ρ, st => (evE c ρ st).bind fun x st => match truD x with
    | some true => evE a ρ st
    | some false => evE b ρ st
    | none => .bad
  | .call f es, ρ, st => (evA es ρ st).bind fun ds st => call f ds st
  | .callK f perm es, ρ, st => (evA es ρ st).bind fun ds st => match permL ds perm with
    | some ds => call f ds st
    | none => .bad
  | .bi b es, ρ, st => (evs' es ρ st).bind fun ds st => lift (biD b ds) st
  | .isi a ts, ρ, st => (evE a ρ st).bind fun x st => lift ((isiD x ts).map .bl) st
  | .tup es, ρ, st => (evs es ρ st).bind fun ds st => if ds.length ≤ sizeLine then .ok (.tup ds) st else .bad
  | .lst es, ρ, st => (evs es ρ st).bind fun ds st => if ds.length ≤ sizeLine then .ok (.fls ds) st else .bad
  | .idx a i, ρ, st => (evE a ρ st).bind fun x st => (evE i ρ st).bind fun y st => lift (idxD x y st) st
  | .slc a lo hi, ρ, st => (evE a ρ st).bind fun x st => (if isNil lo then .ok none st else (evE lo ρ st).bind fun l st => lift (bound l) st).bind fun l st =>
    (if isNil hi then .ok none st else (evE hi ρ st).bind fun h st => lift (bound h) st).bind fun h st => lift (slcD x l h) st
  | .comp own t it c e, ρ, st => (evI it ρ st).bind fun ds st => (compL (fun d st => match putT t d (wipeE ρ own) with
      | some ρ' => (evE c ρ' st).bind fun b st => match truD b with
        | some true => (evE e ρ' st).bind fun x st => lift ((purD x).map some) st
        | some false => .ok none st
        | none => .bad
      | none => .bad) ds [] st).bind fun xs st => .ok (.fls xs) st
  | .comp2 .., _, _ => .bad
  | .lrng1 a, ρ, st => (evE a ρ st).bind fun x st => match x with
    | .int i => if rngOk i && decide (i.toNat ≤ sizeLine) then .ok (.fls (rng 0 i)) st else .bad
    | _ => .bad
  | .lrng2 a b, ρ, st => (evE a ρ st).bind fun x st => (evE b ρ st).bind fun y st => match x, y with
    | .int i, .int j => if rngOk i && rngOk j && decide ((j - i).toNat ≤ sizeLine) then .ok (.fls (rng i j)) st else .bad
    | _, _ => .bad
  | .rev a, ρ, st => (evE a ρ st).bind fun x st => match x with
    | .tup xs => .ok (.tup xs.reverse) st
    | _ => .bad
  | .callL fs i es, ρ, st => (evE i ρ st).bind fun x st => match x with
    | .int j => match L2.atI fs j with
      | some f => (evA es ρ st).bind fun ds st => call f ds st
      | none => .bad
    | _ => .bad
  | .nil, _, _ => .bad
  | .cons .., _, _ => .bad
  | .star .., _, _ => .bad
  | .rng1 _, _, _ => .bad
  | .rng2 .., _, _ => .bad
  | .enm _, _, _ => .bad
  | .zip .., _, _ => .bad
  | .seq _, _, _ => .bad
/-- arguments of a def -/
def evA : E → Env → Store → Out (List D)
  | .nil, _, st => .ok [] st
  | .cons e es, ρ, st => (evE e ρ st).bind fun x st => match frzD x with
    | some d => (evA es ρ st).bind fun ds st => .ok (d :: ds) st
    | none => .bad
  | _, _, _ => .bad
/-- items that go into something -/
def evs : E → Env → Store → Out (List D)
  | .nil, _, st => .ok [] st
  | .cons e es, ρ, st => (evE e ρ st).bind fun x st => match purD x with
    | some d => (evs es ρ st).bind fun ds st => .ok (d :: ds) st
    | none => .bad
  | .star e es, ρ, st => (evE e ρ st).bind fun x st => match seqOf x with
    | some xs => (evs es ρ st).bind fun ds st => .ok (xs ++ ds) st
    | none => .bad
  | _, _, _ => .bad
/-- arguments of a built-in -/
def evs' : E → Env → Store → Out (List D)
  | .nil, _, st => .ok [] st
  | .cons e es, ρ, st => (evE e ρ st).bind fun x st => (evs' es ρ st).bind fun ds st => .ok (x :: ds) st
  | _, _, _ => .bad
/-- what is walked -/
def evI : E → Env → Store → Out (List D)
  | .rng1 a, ρ, st => (evE a ρ st).bind fun x st => match x with
    | .int i => if rngOk i then .ok (rng 0 i) st else .bad
    | _ => .bad
  | .rng2 a b, ρ, st => (evE a ρ st).bind fun x st => (evE b ρ st).bind fun y st => match x, y with
    | .int i, .int j => if rngOk i && rngOk j then .ok (rng i j) st else .bad
    | _, _ => .bad
  | .enm a, ρ, st => (evE a ρ st).bind fun x st => match frzD x with
    | some (.lst xs) => .ok (enumL xs) st
    | some (.tup xs) => .ok (enumL xs) st
    | _ => .bad
  | .zip a b, ρ, st => (evE a ρ st).bind fun x st => match frzD x with
    | some x => (evE b ρ st).bind fun y st => match frzD y with
      | some y => match x, y with
        | .tup xs, .tup ys => .ok (zipL xs ys) st
        | .lst xs, .lst ys => .ok (zipL xs ys) st
        | _, _ => .bad
      | none => .bad
    | none => .bad
  | .seq a, ρ, st => (evE a ρ st).bind fun x st => match frzD x with
    | some (.lst xs) => .ok xs st
    | some (.tup xs) => .ok xs st
    | _ => .bad
  | _, _, _ => .bad
end
end

/-! ### statements -/
inductive SO where
  | nx (ρ : Env) (st : Store) | rt (d : D) (st : Store) | bk (ρ : Env) (st : Store) | ex (x : Ex) (st : Store) | bad
def Out.so {α : Type} : Out α → (α → Store → SO) → SO
  | .ok a st, f => f a st
  | .ex x st, _ => .ex x st
  | .bad, _ => .bad
def SO.then : SO → (Env → Store → SO) → SO
  | .nx ρ st, f => f ρ st
  | r, _ => r
def soE (o : Option Env) (st : Store) : SO :=
  match o with
  | some ρ => .nx ρ st
  | none => .bad
/-- a for over items -/
def forL (f : D → Env → Store → SO) : List D → Env → Store → SO
  | [], ρ, st => .nx ρ st
  | d :: r, ρ, st => match f d ρ st with
    | .nx ρ st => forL f r ρ st
    | .bk ρ st => .nx ρ st
    | x => x
/-- a while, at most so many turns -/
def whlL (c : Env → Store → Out Bool) (b : Env → Store → SO) : Nat → Env → Store → SO
  | 0, _, _ => .bad
  | n + 1, ρ, st => (c ρ st).so fun t st => if t = true then match b ρ st with
      | .nx ρ st => whlL c b n ρ st
      | .bk ρ st => .nx ρ st
      | x => x
    else .nx ρ st
/-- the local name's list -/
def getM (ρ : Env) (i : Nat) : Option (List D) :=
  match ρ[i]? with
  | some (some (.mls xs)) => some xs
  | _ => none
def idxOf (n : Nat) : D → Option Nat
  | .int i => L2.ixN n i
  | _ => none
/-- x[ix] = d, x the i-th name: a local list, or a box -/
def subM (ρ : Env) (st : Store) (i : Nat) (ix d : D) : SO :=
  match ρ[i]? with
  | some (some (.mls xs)) => match idxOf xs.length ix with
    | some j => .nx (ρ.set i (some (.mls (xs.set j d)))) st
    | none => .bad
  | some (some (.box n)) => match st[n]? with
    | some xs => match idxOf xs.length ix with
      | some j => .nx ρ (st.set n (xs.set j d))
      | none => .bad
    | none => .bad
  | _ => .bad
def isS (ρ : Env) (i : Nat) : Bool :=
  match ρ[i]? with
  | some (some (.mls _)) => true
  | some (some (.box _)) => true
  | _ => false
def frzM (ρ : Env) (st : Store) (i : Nat) : SO :=
  match getM ρ i with
  | some xs => .nx (ρ.set i (some (.lst xs))) st
  | none => .nx ρ st

/-- what a try stores, what it gives back -/
def tryN (t : Option Nat) (d : D) (ρ : Env) (st : Store) : SO := match t with
  | some t => soE (putT (.nm t false) d ρ) st
  | none => .nx ρ st
def rvE (t : Option Nat) : E := match t with
  | some t => .var t
  | none => .con .non

section
variable (call : CallF) (W : Nat)
/-- the values of a written tuple that is taken apart at once -/
def evsP : E → Env → Store → Out (List D)
  | .nil, _, st => .ok [] st
  | .cons e es, ρ, st => (evE call e ρ st).bind fun x st => match x with
    | .mls _ => .bad
    | x => (evsP es ρ st).bind fun ds st => .ok (x :: ds) st
  | _, _, _ => .bad
def exS : S → Env → Store → SO
  | .pass, ρ, st => .nx ρ st
  | .seq a b, ρ, st => (exS a ρ st).then fun ρ st => exS b ρ st
  | .asg t e, ρ, st => (evE call e ρ st).so fun d st => soE (putT t d ρ) st
  | .par ts es, ρ, st => (evsP call es ρ st).so fun ds st => soE (putN ts ds ρ) st
  | .sub i ix e, ρ, st => (evE call e ρ st).so fun d st => match purD d with
    | some d => if isS ρ i then (evE call ix ρ st).so fun k st => subM ρ st i k d else .bad
    | none => .bad
  | .app i e, ρ, st => match getM ρ i with
    | some xs => (evE call e ρ st).so fun d st => match purD d with
      | some d => if xs.length < sizeLine then .nx (ρ.set i (some (.mls (xs ++ [d])))) st else .bad
      | none => .bad
    | none => .bad
  | .ext i e, ρ, st => match getM ρ i with
    | some xs => (evE call e ρ st).so fun d st => match frzD d with
      | some (.lst ds) => if xs.length + ds.length ≤ sizeLine then .nx (ρ.set i (some (.mls (xs ++ ds)))) st else .bad
      | _ => .bad
    | none => .bad
  | .expr e, ρ, st => (evE call e ρ st).so fun _ st => .nx ρ st
  | .ite c a b, ρ, st => (evE call c ρ st).so fun d st => match truD d with
    | some true => exS a ρ st
    | some false => exS b ρ st
    | none => .bad
  | .for t it b, ρ, st => (evI call it ρ st).so fun ds st => forL (fun d ρ st => (soE (putT t d ρ) st).then fun ρ st => exS b ρ st) ds ρ st
  | .whl c b, ρ, st => whlL (fun ρ st => (evE call c ρ st).bind fun d st => lift (truD d) st) (fun ρ st => exS b ρ st) W ρ st
  | .ret e, ρ, st => (evE call e ρ st).so fun d st => match d with
    | .mls _ => .bad
    | d => .rt d st
  | .brk, ρ, st => .bk ρ st
  | .never, _, _ => .bad
  | .rais c e, ρ, st => (evE call e ρ st).so fun d st => match purD d with
    | some d => .ex ⟨c, d⟩ st
    | none => .bad
  | .frz i, ρ, st => frzM ρ st i
  | .tryR t ci _ e c pre, ρ, st => match evE call e ρ st with
    | .ex y st => if y.cls = c then .rt (.fls (pre.map .str ++ [y.val, .bl true])) st else .bad
    | .ok d st => (tryN t d ρ st).then fun ρ st => match evE call (.cmp .isN (.var ci) (.con .non)) ρ st with
      | .ok (.bl true) st => (evE call (rvE t) ρ st).so fun d st => match d with
        | .mls _ => .bad
        | d => .rt d st
      | _ => .bad
    | .bad => .bad
end

/-! ### defs -/
structure Fn where
  np : Nat
  nn : Nat
  body : S
  boxer : Bool := false
def start (n : Nat) (ds : List D) : Env := ds.map some ++ List.replicate (n - ds.length) none
def backD (boxer : Bool) (d : D) (st : Store) : Out D :=
  match d with
  | .fls xs => if boxer then .ok (.box st.length) (st ++ [xs]) else .ok (.lst xs) st
  | .mls _ => .bad
  | d => .ok d st
def SO.back (boxer : Bool) : SO → Out D
  | .rt d st => backD boxer d st
  | .nx _ st => .ok .non st
  | .ex x st => .ex x st
  | _ => .bad
/-- the def f at most k deep, every while at most W turns -/
def callN (FT : Nat → Option Fn) (W : Nat) : Nat → CallF
  | 0, _, _, _ => .bad
  | k + 1, f, ds, st => match FT f with
    | some fn => if ds.length = fn.np then (exS (callN FT W k) W fn.body (start fn.nn ds) st).back fn.boxer else .bad
    | none => .bad
def okT : Out D → Bool
  | .ok (.bl true) _ => true
  | _ => false
end Gb

/-! How data lies in the abstract heap; the steps that evaluation takes. -/
namespace Gb
open PySem PySem.Spec PyProof.Rows L2

mutual
inductive Rep (K : PySem.W.Frag) (F : Hp) : D → V → Prop
  | non : Rep K F .non .non
  | bl (b : Bool) : Rep K F (.bl b) (.bl b)
  | int (i : Int) : Rep K F (.int i) (.int i)
  | str (s : Str) : Rep K F (.str s) (.str s)
  | tup {a : Addr} {vs : List V} {xs : List D} : F a = some (.tup vs) → Reps K F xs vs → Rep K F (.tup xs) (.ref a)
  | lst {a : Addr} {vs : List V} {xs : List D} : F a = some (.lst vs) → Reps K F xs vs → Rep K F (.lst xs) (.ref a)
  | scr {a : Addr} {ns : List Int} : SqL K F a (ns.map V.int) → Rep K F (.scr ns) (.ref a)
inductive Reps (K : PySem.W.Frag) (F : Hp) : List D → List V → Prop
  | nil : Reps K F [] []
  | cons {d : D} {ds : List D} {v : V} {vs : List V} : Rep K F d v → Reps K F ds vs → Reps K F (d :: ds) (v :: vs)
end

section
variable {K : PySem.W.Frag} {F F' : Hp}
theorem SqL.mono {H H' : Hp} {a : Addr} {xs : List V} (h : ∀ a o, H a = some o → H' a = some o) (s : SqL K H a xs) : SqL K H' a xs := by
  rcases s with (s | ⟨o, s⟩) | s
  · exact .inl (.inl (h _ _ s))
  · exact .inl (.inr ⟨o, h _ _ s⟩)
  · exact .inr s
mutual
theorem Rep.mono (h : ∀ a o, F a = some o → F' a = some o) : ∀ {d : D} {v : V}, Rep K F d v → Rep K F' d v
  | _, _, .non => .non
  | _, _, .bl b => .bl b
  | _, _, .int i => .int i
  | _, _, .str s => .str s
  | _, _, .tup e r => .tup (h _ _ e) (Reps.mono h r)
  | _, _, .lst e r => .lst (h _ _ e) (Reps.mono h r)
  | _, _, .scr s => .scr (SqL.mono h s)
theorem Reps.mono (h : ∀ a o, F a = some o → F' a = some o) : ∀ {ds : List D} {vs : List V}, Reps K F ds vs → Reps K F' ds vs
  | _, _, .nil => .nil
  | _, _, .cons a b => .cons (Rep.mono h a) (Reps.mono h b)
end
theorem Reps.length : ∀ {ds : List D} {vs : List V}, Reps K F ds vs → ds.length = vs.length
  | _, _, .nil => rfl
  | _, _, .cons _ b => congrArg (· + 1) b.length
theorem Reps.append : ∀ {ds es : List D} {vs us : List V}, Reps K F ds vs → Reps K F es us → Reps K F (ds ++ es) (vs ++ us)
  | _, _, _, _, .nil, s => s
  | _, _, _, _, .cons a b, s => .cons a (b.append s)
theorem Reps.get : ∀ {ds : List D} {vs : List V} {i : Nat} {d : D}, Reps K F ds vs → ds[i]? = some d → ∃ v, vs[i]? = some v ∧ Rep K F d v
  | _, _, i, _, .nil, e => by simp at e
  | _, _, 0, _, .cons a _, e => by simp at e; subst e; exact ⟨_, rfl, a⟩
  | _, _, i + 1, _, .cons _ b, e => by
    obtain ⟨v, h, r⟩ := Reps.get (i := i) b (by simpa using e)
    exact ⟨v, by simpa using h, r⟩
theorem Reps.get' : ∀ {ds : List D} {vs : List V} {i : Nat} {v : V}, Reps K F ds vs → vs[i]? = some v → ∃ d, ds[i]? = some d ∧ Rep K F d v
  | _, _, i, _, .nil, e => by simp at e
  | _, _, 0, _, .cons a _, e => by simp at e; subst e; exact ⟨_, rfl, a⟩
  | _, _, i + 1, _, .cons _ b, e => by
    obtain ⟨v, h, r⟩ := Reps.get' (i := i) b (by simpa using e)
    exact ⟨v, by simpa using h, r⟩
theorem Reps.take : ∀ {ds : List D} {vs : List V} (n : Nat), Reps K F ds vs → Reps K F (ds.take n) (vs.take n)
  | _, _, 0, _ => .nil
  | _, _, _ + 1, .nil => .nil
  | _, _, n + 1, .cons a b => .cons a (b.take n)
theorem Reps.drop : ∀ {ds : List D} {vs : List V} (n : Nat), Reps K F ds vs → Reps K F (ds.drop n) (vs.drop n)
  | _, _, 0, r => r
  | _, _, _ + 1, .nil => .nil
  | _, _, n + 1, .cons _ b => b.drop n
theorem Reps.set {d : D} {v : V} (r : Rep K F d v) : ∀ {ds : List D} {vs : List V} (i : Nat), Reps K F ds vs → Reps K F (ds.set i d) (vs.set i v)
  | _, _, _, .nil => .nil
  | _, _, 0, .cons _ b => .cons r b
  | _, _, i + 1, .cons a b => .cons a (b.set r i)
theorem Reps.flatten {ds : List D} {vs : List V} (r : Reps K F ds vs) : ∀ n : Nat, Reps K F (List.replicate n ds).flatten (List.replicate n vs).flatten
  | 0 => .nil
  | n + 1 => by rw [List.replicate_succ, List.replicate_succ, List.flatten_cons, List.flatten_cons]; exact r.append (r.flatten n)
theorem Reps.intsV : ∀ ns : List Int, Reps K F (ns.map .int) (ns.map V.int)
  | [] => .nil
  | n :: ns => .cons (.int n) (Reps.intsV ns)
theorem Reps.ints : ∀ {ds : List D} {vs : List V} {ns : List Int}, Reps K F ds vs → intsD ds = some ns → vs = ns.map V.int
  | _, _, _, .nil, e => by cases e; rfl
  | _, _, _, .cons a b, e => by
    cases a with
    | int i =>
      unfold intsD at e
      obtain ⟨ms, e1, rfl⟩ := Option.map_eq_some_iff.mp e
      rw [b.ints e1]; rfl
    | _ => cases e
theorem Reps.bools : ∀ {ds : List D} {vs : List V} {ns : List Bool}, Reps K F ds vs → boolsD ds = some ns → vs = ns.map V.bl
  | _, _, _, .nil, e => by cases e; rfl
  | _, _, _, .cons a b, e => by
    cases a with
    | bl i =>
      unfold boolsD at e
      obtain ⟨ms, e1, rfl⟩ := Option.map_eq_some_iff.mp e
      rw [b.bools e1]; rfl
    | _ => cases e
theorem Reps.isEmpty {ds : List D} {vs : List V} (r : Reps K F ds vs) : ds.isEmpty = vs.isEmpty := by cases r <;> rfl
end

/-- a value in flight, or held by a name -/
def RepX (K : PySem.W.Frag) (F : Hp) (φ : List Addr) (H : Hp) (d : D) (v : V) : Prop :=
  match d with
  | .mls xs => ∃ a vs, v = .ref a ∧ H a = some (.lst vs) ∧ Reps K F xs vs ∧ F a = none ∧ a ∉ φ
  | .fls xs => ∃ a vs, v = .ref a ∧ H a = some (.lst vs) ∧ Reps K F xs vs ∧ F a = none ∧ a ∉ φ
  | .box n => ∃ a, v = .ref a ∧ φ[n]? = some a
  | d => Rep K F d v
/-- a new list is new -/
def Fresh (H : Hp) (d : D) (v : V) : Prop :=
  match d with
  | .fls _ => ∀ a, v = .ref a → H a = none
  | _ => True

structure Base (K : PySem.W.Frag) (F : Hp) (φ : List Addr) (st : Store) (H : Hp) : Prop where
  sub : ∀ a o, F a = some o → H a = some o
  len : φ.length = st.length
  nd : φ.Nodup
  box : ∀ (n : Nat) (a : Addr) (xs : List D), φ[n]? = some a → st[n]? = some xs → ∃ vs, H a = some (.lst vs) ∧ Reps K F xs vs ∧ F a = none

structure Step (F : Hp) (φ : List Addr) (H F' : Hp) (φ' : List Addr) (H' : Hp) : Prop where
  keep : ∀ a o, H a = some o → a ∉ φ → H' a = some o
  dom : ∀ a, H a ≠ none → H' a ≠ none
  ff : ∀ a o, F a = some o → F' a = some o
  new : ∀ a, H a ≠ none → F a = none → F' a = none
  box : ∃ ψ, φ' = φ ++ ψ ∧ ∀ a ∈ ψ, H a = none

structure EnvOk (K : PySem.W.Frag) (F : Hp) (φ : List Addr) (ρ : Env) (σ : L2.St) (H : Hp) : Prop where
  len : ρ.length = σ.length
  at_ : ∀ (i : Nat) (d : D), ρ[i]? = some (some d) → (∀ xs, d ≠ .fls xs) ∧ ∃ v, σ[i]? = some (some v) ∧ RepX K F φ H d v
  ne : ∀ (i j : Nat) (xs ys : List D) (a : Addr), i ≠ j → ρ[i]? = some (some (.mls xs)) → ρ[j]? = some (some (.mls ys)) → σ[i]? = some (some (.ref a)) → σ[j]? ≠ some (some (.ref a))

section
variable {K : PySem.W.Frag} {F F1 F' : Hp} {φ φ1 φ' : List Addr} {H H1 H' : Hp} {st st' : Store} {ρ : Env} {σ : L2.St} {d : D} {v : V}
theorem Base.dom (B : Base K F φ st H) {a : Addr} (h : a ∈ φ) : ∃ vs, H a = some (.lst vs) := by
  obtain ⟨n, hn⟩ := List.getElem?_of_mem h
  have hl : n < st.length := by rw [← B.len]; exact (List.getElem?_eq_some_iff.mp hn).1
  obtain ⟨vs, e, _⟩ := B.box n a st[n] hn (List.getElem?_eq_getElem hl)
  exact ⟨vs, e⟩
theorem Base.fr (B : Base K F φ st H) {a : Addr} (h : a ∈ φ) : F a = none := by
  obtain ⟨n, hn⟩ := List.getElem?_of_mem h
  have hl : n < st.length := by rw [← B.len]; exact (List.getElem?_eq_some_iff.mp hn).1
  obtain ⟨vs, _, _, e⟩ := B.box n a st[n] hn (List.getElem?_eq_getElem hl)
  exact e
theorem Base.fnone (B : Base K F φ st H) {a : Addr} (h : H a = none) : F a = none := by
  cases e : F a with
  | none => rfl
  | some o => rw [B.sub a o e] at h; cases h
theorem Base.nin (B : Base K F φ st H) {a : Addr} (h : H a = none) : a ∉ φ := fun z => by
  obtain ⟨vs, e⟩ := B.dom z
  rw [h] at e; cases e
theorem Step.refl : Step F φ H F φ H := ⟨fun _ _ e _ => e, fun _ h => h, fun _ _ e => e, fun _ _ e => e, [], by simp, by simp⟩
theorem Step.trans (a : Step F φ H F1 φ1 H1) (b : Step F1 φ1 H1 F' φ' H') : Step F φ H F' φ' H' := by
  obtain ⟨ψ, rfl, hψ⟩ := a.box
  obtain ⟨χ, rfl, hχ⟩ := b.box
  refine ⟨fun x o e n => b.keep x o (a.keep x o e n) fun z => ?_, fun x h => b.dom x (a.dom x h), fun x o e => b.ff x o (a.ff x o e), fun x h e => b.new x (a.dom x h) (a.new x h e), ψ ++ χ, by simp, fun x hx => ?_⟩
  · rcases List.mem_append.mp z with z | z
    · exact n z
    · rw [hψ x z] at e; cases e
  · rcases List.mem_append.mp hx with z | z
    · exact hψ x z
    · cases q : H x with
      | none => rfl
      | some o => exact absurd (hχ x z) (a.dom x (by rw [q]; simp))
theorem Step.nin (s : Step F φ H F' φ' H') {a : Addr} (h : H a ≠ none) (n : a ∉ φ) : a ∉ φ' := by
  obtain ⟨ψ, rfl, hψ⟩ := s.box
  intro z
  rcases List.mem_append.mp z with z | z
  · exact n z
  · exact h (hψ a z)
theorem Step.unmade (s : Step F φ H F' φ' H') {a : Addr} (h : H' a = none) : H a = none := by
  cases e : H a with
  | none => rfl
  | some o => exact absurd h (s.dom a (by rw [e]; simp))
theorem RepX.step (r : RepX K F φ H d v) (s : Step F φ H F' φ' H') : RepX K F' φ' H' d v := by
  have hm : ∀ xs : List D, (∃ a vs, v = .ref a ∧ H a = some (.lst vs) ∧ Reps K F xs vs ∧ F a = none ∧ a ∉ φ) → ∃ a vs, v = .ref a ∧ H' a = some (.lst vs) ∧ Reps K F' xs vs ∧ F' a = none ∧ a ∉ φ' := fun xs ⟨a, vs, e1, e2, e3, e4, e5⟩ =>
    have q : H a ≠ none := by rw [e2]; simp
    ⟨a, vs, e1, s.keep a _ e2 e5, e3.mono s.ff, s.new a q e4, s.nin q e5⟩
  cases d with
  | mls xs => exact hm xs r
  | fls xs => exact hm xs r
  | box n =>
    obtain ⟨a, e1, e2⟩ := r
    obtain ⟨ψ, rfl, _⟩ := s.box
    exact ⟨a, e1, by rw [List.getElem?_append_left (List.getElem?_eq_some_iff.mp e2).1]; exact e2⟩
  | _ => exact Rep.mono s.ff r
theorem Fresh.step (s : Step F φ H F' φ' H') (f : Fresh H' d v) : Fresh H d v := by
  cases d with
  | fls xs => exact fun a e => s.unmade (f a e)
  | _ => trivial
theorem EnvOk.step (e : EnvOk K F φ ρ σ H) (s : Step F φ H F' φ' H') : EnvOk K F' φ' ρ σ H' :=
  ⟨e.len, fun i d h => let ⟨n, v, h1, h2⟩ := e.at_ i d h; ⟨n, v, h1, h2.step s⟩, e.ne⟩
/-- a new object that may be changed; one that stays -/
theorem Step.laid {p : Addr} {o : HO} (hp : H p = none) : Step F φ H F φ (upd H p o) :=
  ⟨fun a u e _ => by rw [upd_ne (ne_of_none e hp)]; exact e, fun a h => by unfold upd; split <;> simp_all, fun _ _ e => e, fun _ _ e => e, [], by simp, by simp⟩
theorem Base.laid {p : Addr} {o : HO} (B : Base K F φ st H) (hp : H p = none) : Base K F φ st (upd H p o) :=
  ⟨fun a u e => by have e' := B.sub a u e; rw [upd_ne (ne_of_none e' hp)]; exact e', B.len, B.nd, fun n a xs h1 h2 => by
    obtain ⟨vs, e, r⟩ := B.box n a xs h1 h2
    exact ⟨vs, by rw [upd_ne (ne_of_none e hp)]; exact e, r⟩⟩
theorem Step.laidF {p : Addr} {o : HO} (B : Base K F φ st H) (hp : H p = none) : Step F φ H (upd F p o) φ (upd H p o) :=
  ⟨fun a u e _ => by rw [upd_ne (ne_of_none e hp)]; exact e, fun a h => by unfold upd; split <;> simp_all, fun a u e => by
      rw [upd_ne (ne_of_none (B.sub a u e) hp)]; exact e,
    fun a h e => by rw [upd_ne (show a ≠ p by rintro rfl; exact h hp)]; exact e, [], by simp, by simp⟩
theorem sub_updF {p : Addr} {o : HO} (h : F p = none) : ∀ a u, F a = some u → upd F p o a = some u := fun a u e => by
  rw [upd_ne (ne_of_none e h)]; exact e
theorem Base.laidF {p : Addr} {o : HO} (B : Base K F φ st H) (hp : H p = none) : Base K (upd F p o) φ st (upd H p o) :=
  ⟨fun a u e => by
      by_cases h : a = p
      · subst h; rw [upd_same] at e ⊢; exact e
      · rw [upd_ne h] at e ⊢; exact B.sub a u e, B.len, B.nd, fun n a xs h1 h2 => by
    obtain ⟨vs, e, r, f⟩ := B.box n a xs h1 h2
    have na := ne_of_none e hp
    exact ⟨vs, by rw [upd_ne na]; exact e, r.mono (sub_updF (B.fnone hp)), by rw [upd_ne na]; exact f⟩⟩
/-- a new list is never changed from now on -/
theorem Step.frz {a : Addr} {o : HO} (s : Step F φ H F1 φ1 H1) (hf : F1 a = none) (hn : H a = none) : Step F φ H (upd F1 a o) φ1 H1 :=
  ⟨s.keep, s.dom, fun x u e => sub_updF hf x u (s.ff x u e), fun x h e => by rw [upd_ne (show x ≠ a by rintro rfl; exact h hn)]; exact s.new x h e, s.box⟩
theorem Base.frz {a : Addr} {vs : List V} (B : Base K F φ st H) (hf : F a = none) (hh : H a = some (.lst vs)) (hn : a ∉ φ) : Base K (upd F a (.lst vs)) φ st H :=
  ⟨fun x u e => by
      by_cases h : x = a
      · subst h; rw [upd_same] at e; rw [← e]; exact hh
      · rw [upd_ne h] at e; exact B.sub x u e, B.len, B.nd, fun n x xs h1 h2 => by
    obtain ⟨us, e, r, f⟩ := B.box n x xs h1 h2
    have na : x ≠ a := by rintro rfl; exact hn (List.mem_of_getElem? h1)
    exact ⟨us, e, r.mono (sub_updF hf), by rw [upd_ne na]; exact f⟩⟩
end

/-! ### what is wanted behind an evaluation -/
/-- how an own error lies: Y tells the class's address and the field's name -/
abbrev ExT := Nat → Option (Addr × Option Str)
def RepEx (K : PySem.W.Frag) (Y : ExT) (F H : Hp) (x : Ex) (cls : Value) (d : Option Addr) : Prop :=
  ∃ C f, Y x.cls = some (C, f) ∧ cls = .ref C ∧ match f with
    | some f => ∃ a v, d = some a ∧ H a = some (.xd [(f, v)]) ∧ Rep K F x.val v
    | none => d = none
abbrev RT (α : Type) := α → Store → Hp → List Addr → Hp → Prop
def Post (K : PySem.W.Frag) (Y : ExT) (E : XK) (F : Hp) (φ : List Addr) (H : Hp) {α : Type} (o : Out α) (R : RT α) : Prop :=
  match o with
  | .ok a st' => ∀ F' φ' H', Step F φ H F' φ' H' → Base K F' φ' st' H' → R a st' F' φ' H'
  | .ex x st' => ∀ F' φ' H' cls d, Step F φ H F' φ' H' → Base K F' φ' st' H' → RepEx K Y F' H' x cls d → E cls d H'
  | .bad => False
def RQ (K : PySem.W.Frag) (H : Hp) (Q : VK) : RT D := fun d _ F' φ' H' => ∀ v, RepX K F' φ' H' d v → Fresh H d v → Q v H'

section
variable {K : PySem.W.Frag} {Y : ExT} {E : XK} {F F1 F' : Hp} {φ φ1 φ' : List Addr} {H H1 H' : Hp} {st st' : Store} {ρ : Env} {σ : L2.St} {d : D} {v : V} {α β : Type}
theorem Post.mono {o : Out α} {R R' : RT α} (p : Post K Y E F φ H o R) (h : ∀ a st' F' φ' H', Step F φ H F' φ' H' → Base K F' φ' st' H' → R a st' F' φ' H' → R' a st' F' φ' H') : Post K Y E F φ H o R' := by
  cases o with
  | ok a st => exact fun F' φ' H' s b => h _ _ _ _ _ s b (p F' φ' H' s b)
  | ex x st => exact p
  | bad => exact p
theorem Post.step {o : Out α} {R : RT α} (p : Post K Y E F φ H o R) (s : Step F φ H F1 φ1 H1) : Post K Y E F1 φ1 H1 o R := by
  cases o with
  | ok a st => exact fun F' φ' H' s' b => p F' φ' H' (s.trans s') b
  | ex x st => exact fun F' φ' H' cls d s' b => p F' φ' H' cls d (s.trans s') b
  | bad => exact p
theorem Post.bind {o : Out α} {f : α → Store → Out β} {R : RT β} (p : Post K Y E F φ H (o.bind f) R) :
    Post K Y E F φ H o (fun a st1 F1 φ1 H1 => Post K Y E F1 φ1 H1 (f a st1) R) := by
  cases o with
  | ok a st => exact fun F' φ' H' s b => Post.step p s
  | ex x st => exact p
  | bad => exact p
theorem Post.now {a : α} {R : RT α} (p : Post K Y E F φ H (.ok a st) R) (b : Base K F φ st H) : R a st F φ H := p _ _ _ .refl b
theorem RQ.step {Q : VK} (s : Step F φ H F1 φ1 H1) {d : D} (r : RQ K H Q d st F' φ' H') : RQ K H1 Q d st F' φ' H' := fun v rv fv => r v rv (fv.step s)
end
end Gb

/-! Operators by data: what the layer's rules by values give. -/
namespace Gb
open PySem PySem.Spec PyProof.Rows L2

theorem Post.of_lift {K : PySem.W.Frag} {Y : ExT} {E : XK} {F : Hp} {φ : List Addr} {H : Hp} {α : Type} {o : Option α} {st : Store} {R : RT α} (p : Post K Y E F φ H (lift o st) R) :
    ∃ a, o = some a ∧ Post K Y E F φ H (.ok a st) R := by
  cases o with
  | none => exact p.elim
  | some a => exact ⟨a, rfl, p⟩

section
variable {K : PySem.W.Frag} {Y : ExT} {E : XK} {F : Hp} {φ : List Addr} {H : Hp} {st : Store} {Q : VK} {d : D} {x v : V} {xs ys : List D}

theorem RepX.tup (r : RepX K F φ H (.tup xs) x) : ∃ a vs, x = .ref a ∧ F a = some (.tup vs) ∧ Reps K F xs vs := by
  cases (show Rep K F (.tup xs) x from r) with
  | tup e q => exact ⟨_, _, rfl, e, q⟩
theorem RepX.int {i : Int} (r : RepX K F φ H (.int i) x) : x = .int i := by cases (show Rep K F (.int i) x from r); rfl
theorem RepX.bl {i : Bool} (r : RepX K F φ H (.bl i) x) : x = .bl i := by cases (show Rep K F (.bl i) x from r); rfl
theorem RepX.str {i : Str} (r : RepX K F φ H (.str i) x) : x = .str i := by cases (show Rep K F (.str i) x from r); rfl
theorem RepX.non (r : RepX K F φ H .non x) : x = .non := by cases (show Rep K F .non x from r); rfl
theorem RepX.scr {ns : List Int} (r : RepX K F φ H (.scr ns) x) : ∃ a, x = .ref a ∧ SqL K F a (ns.map V.int) := by
  cases (show Rep K F (.scr ns) x from r) with
  | scr s => exact ⟨_, rfl, s⟩
theorem RepX.asL (r : RepX K F φ H d x) (B : Base K F φ st H) (e : asL d = some xs) : ∃ a vs, x = .ref a ∧ H a = some (.lst vs) ∧ Reps K F xs vs := by
  cases d with
  | lst ys =>
    cases e
    cases (show Rep K F (.lst xs) x from r) with
    | lst e q => exact ⟨_, _, rfl, B.sub _ _ e, q⟩
  | mls ys =>
    cases e
    obtain ⟨a, vs, e1, e2, e3, _⟩ := r
    exact ⟨a, vs, e1, e2, e3⟩
  | fls ys =>
    cases e
    obtain ⟨a, vs, e1, e2, e3, _⟩ := r
    exact ⟨a, vs, e1, e2, e3⟩
  | _ => cases e
theorem RepX.seqOf (r : RepX K F φ H d x) (B : Base K F φ st H) (e : seqOf d = some xs) : ∃ a vs, x = .ref a ∧ (H a = some (.lst vs) ∨ H a = some (.tup vs)) ∧ Reps K F xs vs := by
  cases d with
  | tup ys =>
    cases e
    obtain ⟨a, vs, e1, e2, e3⟩ := RepX.tup r
    exact ⟨a, vs, e1, .inr (B.sub _ _ e2), e3⟩
  | _ =>
    obtain ⟨a, vs, e1, e2, e3⟩ := RepX.asL r B e
    exact ⟨a, vs, e1, .inl e2, e3⟩

/-! ### ends: a value that is told; a new list; a new tuple -/
theorem end_rep {d : D} (p : Post K Y E F φ H (.ok d st) (RQ K H Q)) (B : Base K F φ st H) (r : RepX K F φ H d v) (f : ∀ ys, d ≠ .fls ys) : Q v H :=
  p.now B v r (by cases d with | fls ys => exact (f ys rfl).elim | _ => trivial)
theorem end_int {i : Int} (p : Post K Y E F φ H (.ok (.int i) st) (RQ K H Q)) (B : Base K F φ st H) : Q (.int i) H := end_rep p B (Rep.int i) (fun _ h => nomatch h)
theorem end_bl {i : Bool} (p : Post K Y E F φ H (.ok (.bl i) st) (RQ K H Q)) (B : Base K F φ st H) : Q (.bl i) H := end_rep p B (Rep.bl i) (fun _ h => nomatch h)
theorem end_str {i : Str} (p : Post K Y E F φ H (.ok (.str i) st) (RQ K H Q)) (B : Base K F φ st H) : Q (.str i) H := end_rep p B (Rep.str i) (fun _ h => nomatch h)
theorem end_fls {vs : List V} (p : Post K Y E F φ H (.ok (.fls xs) st) (RQ K H Q)) (B : Base K F φ st H) (r : Reps K F xs vs) : ∀ a, H a = none → Q (.ref a) (upd H a (.lst vs)) := fun a ha =>
  p F φ _ (.laid ha) (B.laid ha) _ ⟨a, vs, rfl, upd_same, r, B.fnone ha, B.nin ha⟩ fun b e => by cases e; exact ha
theorem end_tup {vs : List V} (p : Post K Y E F φ H (.ok (.tup xs) st) (RQ K H Q)) (B : Base K F φ st H) (r : Reps K F xs vs) : ∀ a, H a = none → Q (.ref a) (upd H a (.tup vs)) := fun a ha =>
  p (upd F a (.tup vs)) φ _ (.laidF B ha) (B.laidF ha) _ (Rep.tup upd_same (r.mono (sub_updF (B.fnone ha)))) trivial
end

/-- a two-place operation on data -/
def r2 (K : PySem.W.Frag) (Y : ExT) (E : XK) (f : D → D → Option D) : R2 := fun x y H Q =>
  ∃ F φ st dx dy, Base K F φ st H ∧ RepX K F φ H dx x ∧ RepX K F φ H dy y ∧ Post K Y E F φ H (lift (f dx dy) st) (RQ K H Q)
def r2b (K : PySem.W.Frag) (Y : ExT) (E : XK) (f : D → D → Option Bool) : R2 := r2 K Y E fun x y => (f x y).map .bl

section
variable {X : Cx} {Y : ExT} {E : XK}
theorem sq_of {K : PySem.W.Frag} {H : Hp} {a : Addr} {vs : List V} (h : H a = some (.lst vs)) : SqL K H a vs := .inl (.inl h)
theorem sqt_of {K : PySem.W.Frag} {H : Hp} {a : Addr} {vs : List V} (h : H a = some (.tup vs)) : SqT K H a vs := .inl (.inl h)

theorem g_add : OpR X (binaryOp .Add) (r2 X.K Y E catD) := by
  intro pins s σ H x y v u Q I rx ry h
  obtain ⟨F, φ, st, dx, dy, B, hx, hy, p⟩ := h
  obtain ⟨d, e, p⟩ := p.of_lift
  unfold catD at e
  split at e
  · cases e
    exact L2.op_add pins s σ H x y v u Q I rx ry ⟨_, _, hx.int, hy.int, end_int p B⟩
  · split at e
    · rename_i hz
      cases e
      exact L2.op_add_str pins s σ H x y v u Q I rx ry ⟨_, _, hx.str, hy.str, hz, end_str p B⟩
    · cases e
  · split at e
    · rename_i xs ys hz
      cases e
      obtain ⟨a, vs, rfl, ea, ra⟩ := hx.tup
      obtain ⟨b, ws, rfl, eb, rb⟩ := hy.tup
      have la := ra.length
      have lb := rb.length
      refine L2.op_catA pins s σ H _ _ v u Q I rx ry ⟨a, b, vs, ws, rfl, rfl, sqt_of (B.sub _ _ ea), sqt_of (B.sub _ _ eb), by omega, fun e => ?_, fun _ e => ?_, fun _ _ => end_tup p B (ra.append rb)⟩
      · subst e
        cases ra
        exact end_rep p B (Rep.tup eb rb) (fun _ h => nomatch h)
      · subst e
        cases rb
        rw [List.append_nil] at p
        exact end_rep p B (Rep.tup ea ra) (fun _ h => nomatch h)
    · cases e
  · split at e
    · rename_i xs ys e1 e2
      split at e
      · rename_i hz
        cases e
        obtain ⟨a, vs, rfl, ea, ra⟩ := hx.asL B e1
        obtain ⟨b, ws, rfl, eb, rb⟩ := hy.asL B e2
        have la := ra.length
        have lb := rb.length
        exact L2.op_cat pins s σ H _ _ v u Q I rx ry ⟨a, b, vs, ws, rfl, rfl, ea, eb, by omega, end_fls p B (ra.append rb)⟩
      · cases e
    · cases e

theorem mulOk_cases {i j : Int} (h : mulOk i j = true) : CMul i j ∨ CMulW i j := by
  unfold mulOk at h
  simp only [Bool.or_eq_true, decide_eq_true_eq] at h
  rcases h with (h | h) | h
  · exact .inl (.inl (by omega))
  · exact .inl (.inr (by omega))
  · exact .inr h

theorem g_mul : OpR X (binaryOp .Mult) (r2 X.K Y E mulD) := by
  intro pins s σ H x y v u Q I rx ry h
  obtain ⟨F, φ, st, dx, dy, B, hx, hy, p⟩ := h
  obtain ⟨d, e, p⟩ := p.of_lift
  unfold mulD at e
  split at e
  · split at e
    · rename_i hz
      cases e
      rcases mulOk_cases hz with c | c
      · exact L2.op_mul pins s σ H x y v u Q I rx ry ⟨_, _, hx.int, hy.int, c, end_int p B⟩
      · exact L2.op_mulW pins s σ H x y v u Q I rx ry ⟨_, _, hx.int, hy.int, c, end_int p B⟩
    · cases e
  · split at e
    · rename_i xs k hz
      cases e
      simp only [Bool.and_eq_true, decide_eq_true_eq] at hz
      obtain ⟨⟨⟨h1, h2⟩, h3⟩, h4⟩ := hz
      obtain ⟨a, vs, rfl, ea, ra⟩ := hx.tup
      have la := ra.length
      refine L2.op_repT pins s σ H _ _ v u Q I rx ry ⟨a, k, vs, rfl, hy.int, sqt_of (B.sub _ _ ea), ?_, h2, by omega, by omega, end_tup p B (ra.flatten _)⟩
      rintro rfl
      cases ra
      simp at h1
    · cases e
  · split at e
    · rename_i k _ _ _ xs e1
      split at e
      · rename_i hz
        cases e
        simp only [Bool.and_eq_true, decide_eq_true_eq] at hz
        obtain ⟨h1, h3⟩ := hz
        obtain ⟨a, vs, rfl, ea, ra⟩ := hx.asL B e1
        have la := ra.length
        exact L2.op_rep pins s σ H _ _ v u Q I rx ry ⟨a, k, vs, rfl, hy.int, ea, by omega, by omega, by rw [← la]; exact h3, end_fls p B (ra.flatten _)⟩
      · cases e
    · cases e
  · cases e

def opOf : BOp → Operator
  | .add => .Add | .sub => .Sub | .mul => .Mult | .fdiv => .FloorDiv | .mod => .Mod | .pow => .Pow

theorem g_bin (op : BOp) : OpR X (binaryOp (opOf op)) (r2 X.K Y E (binD op)) := by
  cases op with
  | add => exact g_add
  | mul => exact g_mul
  | sub =>
    intro pins s σ H x y v u Q I rx ry h
    obtain ⟨F, φ, st, dx, dy, B, hx, hy, p⟩ := h
    obtain ⟨d, e, p⟩ := p.of_lift
    simp only [binD] at e
    split at e
    · cases e
      exact L2.op_sub pins s σ H x y v u Q I rx ry ⟨_, _, hx.int, hy.int, end_int p B⟩
    · cases e
  | fdiv =>
    intro pins s σ H x y v u Q I rx ry h
    obtain ⟨F, φ, st, dx, dy, B, hx, hy, p⟩ := h
    obtain ⟨d, e, p⟩ := p.of_lift
    simp only [binD] at e
    split at e
    · split at e
      · rename_i hz
        cases e
        simp only [Bool.and_eq_true, decide_eq_true_eq] at hz
        exact L2.op_fdivW pins s σ H x y v u Q I rx ry ⟨_, _, hx.int, hy.int, hz, end_int p B⟩
      · cases e
    · cases e
  | mod =>
    intro pins s σ H x y v u Q I rx ry h
    obtain ⟨F, φ, st, dx, dy, B, hx, hy, p⟩ := h
    obtain ⟨d, e, p⟩ := p.of_lift
    simp only [binD] at e
    split at e
    · split at e
      · rename_i hz
        cases e
        simp only [decide_eq_true_eq] at hz
        exact L2.op_mod pins s σ H x y v u Q I rx ry ⟨_, _, hx.int, hy.int, hz, end_int p B⟩
      · cases e
    · cases e
  | pow =>
    intro pins s σ H x y v u Q I rx ry h
    obtain ⟨F, φ, st, dx, dy, B, hx, hy, p⟩ := h
    obtain ⟨d, e, p⟩ := p.of_lift
    simp only [binD] at e
    split at e
    · split at e
      · rename_i hz
        cases e
        simp only [Bool.and_eq_true, decide_eq_true_eq] at hz
        exact L2.op_pow pins s σ H x y v u Q I rx ry ⟨_, _, hx.int, hy.int, ⟨hz.1.1, by have := hz.1.2; omega, hz.2⟩, end_int p B⟩
      · cases e
    · cases e
end

/-! ### comparisons -/
section
variable {K : PySem.W.Frag} {F : Hp} {φ : List Addr} {H : Hp} {st : Store}
mutual
theorem dp_of (B : Base K F φ st H) : ∀ {d : D} {v : V} {p : PyData}, Rep K F d v → toP d = some p → Dp K H v p
  | _, _, _, .non, e => by cases e; exact .non
  | _, _, _, .bl b, e => by cases e; exact .bl b
  | _, _, _, .int i, e => by cases e; exact .int i
  | _, _, _, .str s, e => by cases e; exact .str s
  | _, _, _, .tup e r, h => by
    rw [toP] at h
    obtain ⟨ps, h1, rfl⟩ := Option.map_eq_some_iff.mp h
    exact .tup (sqt_of (B.sub _ _ e)) (dps_of B r h1)
  | _, _, _, .lst e r, h => by
    rw [toP] at h
    obtain ⟨ps, h1, rfl⟩ := Option.map_eq_some_iff.mp h
    exact .lst (sq_of (B.sub _ _ e)) (dps_of B r h1)
  | _, _, _, .scr s, h => by rw [toP] at h <;> first | cases h | (intros; contradiction)
theorem dps_of (B : Base K F φ st H) : ∀ {ds : List D} {vs : List V} {ps : List PyData}, Reps K F ds vs → toPs ds = some ps → DpAll K H vs ps
  | _, _, _, .nil, e => by cases e; exact .nil
  | _, _, _, .cons a b, e => by
    rw [toPs] at e
    split at e
    · rename_i p1 p2 h1 h2
      cases e
      exact .cons (dp_of B a h1) (dps_of B b h2)
    · cases e
end
theorem dpx_of (B : Base K F φ st H) {d : D} {v : V} {p : PyData} (r : RepX K F φ H d v) (e : toP d = some p) : Dp K H v p := by
  cases d with
  | mls xs =>
    rw [toP] at e
    obtain ⟨ps, h1, rfl⟩ := Option.map_eq_some_iff.mp e
    obtain ⟨a, vs, rfl, ea, ra⟩ := RepX.asL (xs := xs) r B rfl
    exact .lst (sq_of ea) (dps_of B ra h1)
  | fls xs =>
    rw [toP] at e
    obtain ⟨ps, h1, rfl⟩ := Option.map_eq_some_iff.mp e
    obtain ⟨a, vs, rfl, ea, ra⟩ := RepX.asL (xs := xs) r B rfl
    exact .lst (sq_of ea) (dps_of B ra h1)
  | box n => rw [toP] at e <;> first | cases e | (intros; contradiction)
  | _ => exact dp_of B r e
theorem flat_of {d : D} {v : V} (r : Rep K F d v) (f : flatD d = true) : flatV v = true := by
  cases r <;> first | rfl | cases f
theorem eqF_of {d e : D} {v w : V} (r : Rep K F d v) (q : Rep K F e w) (f : flatD d = true) (g : flatD e = true) : eqV v w = eqF d e := by
  cases r <;> first | (cases f; done) | (cases q <;> first | (cases g; done) | rfl)
theorem allF_of : ∀ {ds : List D} {vs : List V}, Reps K F ds vs → ds.all flatD = true → vs.all flatV = true
  | _, _, .nil, _ => rfl
  | _, _, .cons a b, f => by
    rw [List.all_cons, Bool.and_eq_true] at f ⊢
    exact ⟨flat_of a f.1, allF_of b f.2⟩
theorem anyF_of {d : D} {v : V} (r : Rep K F d v) (fd : flatD d = true) : ∀ {ds : List D} {vs : List V}, Reps K F ds vs → ds.all flatD = true → inV v vs = ds.any fun y => eqF y d
  | _, _, .nil, _ => rfl
  | _, _, .cons a b, f => by
    rw [List.all_cons, Bool.and_eq_true] at f
    have ih := anyF_of r fd b f.2
    unfold inV at ih ⊢
    rw [List.any_cons, List.any_cons, ih, eqF_of a r f.1 fd]
theorem rep_flat {d : D} {v : V} (r : RepX K F φ H d v) (f : flatD d = true) : Rep K F d v := by
  cases d <;> first | exact r | cases f
end

section
variable {X : Cx} {Y : ExT} {E : XK}
def copOf : COp → CmpOp
  | .eq => .Eq | .ne => .NotEq | .lt => .Lt | .le => .LtE | .gt => .Gt | .ge => .GtE | .isN => .Is | .notN => .IsNot | .mem => .In | .nmem => .NotIn
theorem ord_of {x y : D} {p : Int → Int → Bool} {b : Bool} (e : ordI p x y = some b) : ∃ i j, x = .int i ∧ y = .int j ∧ b = p i j := by
  unfold ordI at e
  split at e
  · cases e; exact ⟨_, _, rfl, rfl, rfl⟩
  · cases e
theorem isNon_of {K : PySem.W.Frag} {F : Hp} {φ : List Addr} {H : Hp} {d : D} {v : V} (r : RepX K F φ H d v) : decide (v = .non) = isNon d := by
  cases d with
  | non => rw [RepX.non r]; rfl
  | bl b => rw [RepX.bl r]; rfl
  | int b => rw [RepX.int r]; rfl
  | str b => rw [RepX.str r]; rfl
  | tup b => obtain ⟨a, vs, rfl, _⟩ := RepX.tup r; rfl
  | lst b => cases (show Rep K F (.lst b) v from r); rfl
  | scr b => obtain ⟨a, rfl, _⟩ := RepX.scr r; rfl
  | mls b => obtain ⟨a, vs, rfl, _⟩ := r; rfl
  | fls b => obtain ⟨a, vs, rfl, _⟩ := r; rfl
  | box b => obtain ⟨a, rfl, _⟩ := r; rfl
theorem g_mem {neg : Bool} {K : PySem.W.Frag} {x y : V} {H : Hp} {Q : VK} (h : r2b K Y E (fun a b => (memD a b).map fun k => if neg then !k else k) x y H Q) : rIn K neg x y H Q := by
  obtain ⟨F, φ, st, dx, dy, B, hx, hy, p⟩ := h
  obtain ⟨d, q1, p⟩ := p.of_lift
  obtain ⟨b, q2, rfl⟩ := Option.map_eq_some_iff.mp q1
  obtain ⟨k, e, rfl⟩ := Option.map_eq_some_iff.mp q2
  have go : ∀ (a : Addr) (vs : List V) (ys : List D), y = .ref a → (SqL K H a vs ∨ SqT K H a vs) → Reps K F ys vs → (if flatD dx && ys.all flatD then some (ys.any fun y => eqF y dx) else none) = some k → rIn K neg x y H Q := fun a vs ys e1 e2 e3 e4 => by
    split at e4
    · rename_i hz
      cases e4
      rw [Bool.and_eq_true] at hz
      have rx := rep_flat hx hz.1
      refine ⟨a, vs, e1, e2, flat_of rx hz.1, allF_of e3 hz.2, ?_⟩
      rw [anyF_of rx hz.1 e3 hz.2]
      exact end_bl p B
    · cases e4
  unfold memD at e
  split at e
  · obtain ⟨a, vs, e1, e2, e3⟩ := hy.tup
    exact go a vs _ e1 (.inr (sqt_of (B.sub _ _ e2))) e3 e
  · split at e
    · rename_i ys e5
      obtain ⟨a, vs, e1, e2, e3⟩ := hy.asL B e5
      exact go a vs _ e1 (.inl (sq_of e2)) e3 e
    · cases e
theorem g_cmp (op : COp) (hu : X.A.units + 64 < cLine) : OpR X (compareOp (copOf op)) (r2b X.K Y E (cmpD op)) := by
  intro pins s σ H x y v u Q I rx ry h
  have h0 := h
  obtain ⟨F, φ, st, dx, dy, B, hx, hy, p⟩ := h
  obtain ⟨d, q1, p2⟩ := p.of_lift
  clear p
  obtain ⟨b, e, rfl⟩ := Option.map_eq_some_iff.mp q1
  have ordc : ∀ {p' : Int → Int → Bool}, ordI p' dx dy = some b → ∃ i j, x = .int i ∧ y = .int j ∧ Q (.bl (p' i j)) H := fun {p'} e => by
    obtain ⟨i, j, rfl, rfl, rfl⟩ := ord_of e
    exact ⟨i, j, hx.int, hy.int, end_bl p2 B⟩
  have eqc : ∀ b', eqP dx dy = some b' → ∃ d e, Dp X.K H x d ∧ Dp X.K H y e ∧ SeqAt.shaped d = true ∧ SeqAt.shaped e = true ∧ PyData.eqv d e = b' := fun b' e => by
    unfold eqP at e
    split at e
    · rename_i d1 d2 e1 e2
      split at e
      · rename_i hz
        rw [Bool.and_eq_true] at hz
        cases e
        exact ⟨d1, d2, dpx_of B hx e1, dpx_of B hy e2, hz.1, hz.2, rfl⟩
      · cases e
    · cases e
  cases op with
  | eq =>
    obtain ⟨d, e', h1, h2, h3, h4, h5⟩ := eqc b e
    exact L2.op_eqD hu pins s σ H x y v u Q I rx ry ⟨d, e', h1, h2, h3, h4, by rw [h5]; exact end_bl p2 B⟩
  | ne =>
    obtain ⟨b', e0, rfl⟩ := Option.map_eq_some_iff.mp e
    obtain ⟨d, e', h1, h2, h3, h4, h5⟩ := eqc b' e0
    exact L2.op_neD hu pins s σ H x y v u Q I rx ry ⟨d, e', h1, h2, h3, h4, by rw [h5]; exact end_bl p2 B⟩
  | lt => exact L2.op_lt pins s σ H x y v u Q I rx ry (ordc e)
  | le => exact L2.op_le pins s σ H x y v u Q I rx ry (ordc e)
  | gt => exact L2.op_gt pins s σ H x y v u Q I rx ry (ordc e)
  | ge => exact L2.op_ge pins s σ H x y v u Q I rx ry (ordc e)
  | isN =>
    simp only [cmpD] at e
    split at e
    · rename_i hz
      cases e
      rw [← isNon_of hy, decide_eq_true_eq] at hz
      refine L2.op_isN pins s σ H x y v u Q I rx ry ⟨hz, ?_⟩
      rw [isNon_of hx]
      exact end_bl p2 B
    · cases e
  | notN =>
    simp only [cmpD] at e
    split at e
    · rename_i hz
      cases e
      rw [← isNon_of hy, decide_eq_true_eq] at hz
      refine L2.op_notN pins s σ H x y v u Q I rx ry ⟨hz, ?_⟩
      rw [isNon_of hx]
      exact end_bl p2 B
    · cases e
  | mem =>
    refine L2.op_in_seq pins s σ H x y v u Q I rx ry (g_mem (Y := Y) (E := E) (neg := false) ?_)
    obtain ⟨F, φ, st, dx, dy, B, hx, hy, p⟩ := h0
    refine ⟨F, φ, st, dx, dy, B, hx, hy, ?_⟩
    have e : ((fun x y => ((fun a b => (memD a b).map fun k => if false = true then !k else k) x y).map D.bl) dx dy) = ((fun x y => (cmpD .mem x y).map D.bl) dx dy) := by
      show ((memD dx dy).map fun k => if false = true then !k else k).map D.bl = (memD dx dy).map D.bl
      cases memD dx dy <;> rfl
    rw [e]
    exact p
  | nmem => exact L2.op_notIn_seq pins s σ H x y v u Q I rx ry (g_mem (Y := Y) (E := E) (neg := true) h0)
end

/-! ### truth -/
def rTru (K : PySem.W.Frag) (Y : ExT) (E : XK) : V → Hp → (Bool → Hp → Prop) → Prop := fun x H Q =>
  ∃ F φ st d, Base K F φ st H ∧ RepX K F φ H d x ∧ Post K Y E F φ H (lift (truD d) st) (fun b _ _ _ H' => Q b H')
theorem tru_of {K : PySem.W.Frag} {Y : ExT} {E : XK} {x : V} {H : Hp} {Q : Bool → Hp → Prop} (h : rTru K Y E x H Q) : ∃ k, TruV K x H k ∧ Q k H := by
  obtain ⟨F, φ, st, d, B, hx, p⟩ := h
  obtain ⟨b, e, p⟩ := p.of_lift
  refine ⟨b, ?_, p.now B⟩
  have lc : ∀ xs : List D, asL d = some xs → some (!xs.isEmpty) = some b → TruV K x H b := fun xs e1 e2 => by
    obtain ⟨a, vs, rfl, ea, ra⟩ := hx.asL B e1
    cases e2
    exact .inl ⟨vs, sq_of ea, by rw [ra.isEmpty]⟩
  cases d with
  | non => cases e; rw [hx.non]; rfl
  | bl b => cases e; rw [hx.bl]; rfl
  | int i => cases e; rw [hx.int]; rfl
  | str z =>
    rw [hx.str]
    rw [truD] at e
    split at e
    · rename_i hz; cases e; exact ⟨hz, rfl⟩
    · cases e
  | tup xs =>
    obtain ⟨a, vs, rfl, ea, ra⟩ := hx.tup
    cases e
    exact .inr (.inl ⟨vs, sqt_of (B.sub _ _ ea), by rw [ra.isEmpty]⟩)
  | lst xs => exact lc xs rfl e
  | mls xs => exact lc xs rfl e
  | fls xs => exact lc xs rfl e
  | scr xs => cases e
  | box n => cases e
end Gb

/-! The checker: a core text against the row's syntax. -/
namespace Gb
open PySem PySem.Spec PyProof.Rows L2

/-- what the text's names are: the defs by their number (name, parameters), the constants -/
structure Kx where
  kw : List (Nat × List Str × List Nat) := []
  cst : List (Str × Int) := []
  cstS : List (Str × Str) := []
  ers : List (Nat × Str × Str) := []
structure Glob where
  fn : Nat → Option (Str × List Str)
  x : Kx
abbrev Glob.kw (G : Glob) : List (Nat × List Str × List Nat) := G.x.kw

def visB (sc : Scope) (x : Str) : Bool := match sc.names.lookup x with
  | some .local => true
  | some .cell => true
  | some .free => true
  | _ => false
def locB (sc : Scope) (x : Str) : Bool := match sc.names.lookup x with
  | some .local => true
  | some .cell => true
  | _ => false
def lclB (sc : Scope) (x : Str) : Bool := match sc.names.lookup x with
  | some .local => true
  | _ => false
def celB (sc : Scope) (x : Str) : Bool := match sc.names.lookup x with
  | some .cell => true
  | _ => false
def glbB (sc : Scope) (x : Str) : Bool := match sc.names.lookup x with
  | some .globalImplicit => true
  | _ => false
def noDbg (x : Str) : Bool := !(x == ("__debug__" : Str)) && !(x == ("__classdict__" : Str))
/-- the slot of a name -/
def slotB (N : List Str) (i : Nat) (x : Str) : Bool := match N[i]? with
  | some y => y == x
  | none => false
/-- a name that may be stored -/
def stoB (sc raw : Scope) (N : List Str) (i : Nat) (x : Str) : Bool := slotB N i x && locB sc x && (lclB sc x || celB raw x)
def isStarE : Expr → Bool
  | .Starred .. => true
  | _ => false
def isSetE : Expr → Bool
  | .Set .. => true
  | _ => false
def isSliceE : Expr → Bool
  | .Slice .. => true
  | _ => false
def isCompE : Expr → Bool
  | .ListComp .. => true
  | .SetComp .. => true
  | .DictComp .. => true
  | _ => false

def conB : D → Expr → Bool
  | .non, .Constant .none _ _ => true
  | .bl b, .Constant (.bool c) _ _ => b == c
  | .int i, .Constant (.int j) _ _ => i == j
  | .str s, .Constant (.str t) _ _ => s == t
  | _, _ => false
def biNm : Bi → Str
  | .len => "len" | .int => "int" | .abs => "abs" | .max2 => "max" | .min2 => "min" | .max => "max" | .sum => "sum" | .all => "all"
  | .sorted => "sorted" | .tuple => "tuple" | .list => "list" | .setI => "sorted" | .setT => "sorted"
def tyNm : Ty → Str
  | .int => "int" | .bool => "bool" | .str => "str" | .list => "list" | .tuple => "tuple" | .dict => "dict"
/-- the built-ins' names -/
def builtins : List Str := ["len", "int", "abs", "max", "min", "sum", "all", "sorted", "tuple", "list", "set", "bool", "str", "dict", "isinstance", "range", "enumerate", "zip"]
def tysB (sc : Scope) : List Ty → List Expr → Bool
  | [], [] => true
  | t :: ts, .Name x _ :: es => x == tyNm t && glbB sc x && tysB sc ts es
  | _, _ => false

section
variable (G : Glob) (N : List Str)
def tgsB (sc raw : Scope) : List (Nat × Bool) → List Expr → Bool
  | [], [] => true
  | (i, _) :: is, .Name x _ :: es => stoB sc raw N i x && tgsB sc raw is es
  | _, _ => false
def tSlots : T → List Nat
  | .nm i _ => [i]
  | .tp is => is.map (·.1)
def chkT (sc raw : Scope) : T → Expr → Bool
  | .nm i _, .Name x _ => stoB sc raw N i x
  | .tp is, .Tuple es _ _ => tgsB N sc raw is es
  | _, _ => false
def isTupE : Expr → Bool
  | .Tuple .. => true
  | _ => false

/-- names of defs, one by one -/
def nmsB (G : Glob) (sc : Scope) : List Nat → List Expr → Bool
  | [], [] => true
  | f :: fs, .Name x _ :: es => (match G.fn f with
    | some (y, _) => y == x
    | none => false) && glbB sc x && noDbg x && nmsB G sc fs es
  | _, _ => false
mutual
def chkE (sc raw : Scope) : E → Expr → Bool
  | .var i, e => match e with
    | .Name x _ => slotB N i x && visB sc x && noDbg x
    | _ => false
  | .con d, e => conB d e
  | .glob x d, e => match d, e with
    | .int i, .Name y _ => x == y && glbB sc y && noDbg y && G.x.cst.contains (y, i)
    | .str i, .Name y _ => x == y && glbB sc y && noDbg y && G.x.cstS.contains (y, i)
    | _, _ => false
  | .bin op a b, e => match e with
    | .BinOp x o y _ => (o == opOf op) && chkE sc raw a x && chkE sc raw b y
    | _ => false
  | .neg a, e => match e with
    | .UnaryOp .USub x _ => chkE sc raw a x
    | _ => false
  | .not a, e => match e with
    | .UnaryOp .Not x _ => chkE sc raw a x
    | _ => false
  | .and a b, e => match e with
    | .BoolOp .And (x :: y :: rest) p => chkE sc raw a x && (match rest with
      | [] => chkE sc raw b y
      | _ => chkE sc raw b (.BoolOp .And (y :: rest) p))
    | _ => false
  | .or a b, e => match e with
    | .BoolOp .Or (x :: y :: rest) p => chkE sc raw a x && (match rest with
      | [] => chkE sc raw b y
      | _ => chkE sc raw b (.BoolOp .Or (y :: rest) p))
    | _ => false
  | .cmp op a b, e => match e with
    | .Compare x [o] [y] _ => (o == copOf op) && !isSetE y && chkE sc raw a x && chkE sc raw b y
    | _ => false
  | .chain op op' a b c, e => match e with
    | .Compare x [o, o'] [y, z] _ => (o == copOf op) && (o' == copOf op') && !isSetE z && chkE sc raw a x && chkE sc raw b y && chkE sc raw c z
    | _ => false
  | .ite c a b, e => match e with
    | .IfExp x y z _ => chkE sc raw c x && chkE sc raw a y && chkE sc raw b z
    | _ => false
  | .call f es, e => match e with
    | .Call (.Name x _) as [] _ => (match G.fn f with
      | some (y, _) => y == x
      | none => false) && glbB sc x && noDbg x && chkA sc raw es as
    | _ => false
  | .callK f perm es, e => match e with
    | .Call (.Name x _) [] ks _ => (match G.fn f with
      | some (y, _) => y == x
      | none => false) && glbB sc x && noDbg x && G.kw.contains (f, ks.filterMap (·.arg), perm) && chkK sc raw es ks
    | _ => false
  | .bi b es, e => match b, e with
    | .setI, .Call (.Name x _) [.Call (.Name y _) [z] [] _] [] _ => x == ("sorted" : Str) && y == ("set" : Str) && glbB sc x && glbB sc y && chkB sc raw es [z]
    | .setI, _ => false
    | .setT, _ => false
    | b, .Call (.Name x _) as [] _ => x == biNm b && glbB sc x && chkB sc raw es as && !as.isEmpty
    | _, _ => false
  | .isi a ts, e => decide (ts.length < 100) && match e with
    | .Call (.Name x _) [y, z] [] _ => x == ("isinstance" : Str) && glbB sc x && !isStarE y && chkE sc raw a y && (match z with
      | .Tuple zs _ _ => tysB sc ts zs
      | z => tysB sc ts [z])
    | _ => false
  | .tup es, e => match e with
    | .Tuple as _ _ => chkS sc raw es as
    | _ => false
  | .lst es, e => match e with
    | .List as _ => chkS sc raw es as
    | _ => false
  | .idx a i, e => match e with
    | .Subscript x y _ => !isSliceE y && chkE sc raw a x && chkE sc raw i y
    | _ => false
  | .slc a lo hi, e => match e with
    | .Subscript x (.Slice l h none _) _ => chkE sc raw a x && (match l with
      | none => isNil lo
      | some l => !isNil lo && chkE sc raw lo l) && (match h with
      | none => isNil hi
      | some h => !isNil hi && chkE sc raw hi h)
    | _ => false
  | .comp own t it c el, e => match e with
    | .ListComp elt [⟨tg, iter, ifs, a⟩] scope _ => (a == 0) && !isSetE iter && chkI sc raw it tg iter && blkC N sc scope (own.map fun i => (N.getD i "", i)) && chkT N (relS scope sc) scope t tg &&
      (match ifs with
      | [] => (match c with
        | .con (.bl true) => true
        | _ => false)
      | [x] => chkE (relS scope sc) scope c x
      | _ => false) && chkE (relS scope sc) scope el elt && (tSlots t).all own.contains
    | _ => false
  | .lrng1 a, e => match e with
    | .Call (.Name x _) [.Call (.Name y _) [z] [] _] [] _ => x == ("list" : Str) && y == ("range" : Str) && glbB sc x && glbB sc y && !isStarE z && chkE sc raw a z
    | _ => false
  | .lrng2 a b, e => match e with
    | .Call (.Name x _) [.Call (.Name y _) [z, w] [] _] [] _ => x == ("list" : Str) && y == ("range" : Str) && glbB sc x && glbB sc y && !isStarE z && !isStarE w && chkE sc raw a z && chkE sc raw b w
    | _ => false
  | .comp2 .., _ => false
  | .rev a, e => match e with
    | .Subscript x (.Slice none none (some (.UnaryOp .USub (.Constant (.int 1) _ _) _)) _) _ => chkE sc raw a x
    | _ => false
  | .callL fs i es, e => match e with
    | .Call (.Subscript (.List ns _) z _) (y :: ys) [] _ => decide (fs.length ≤ 100) && nmsB G sc fs ns && !isSliceE z && chkE sc raw i z && chkA sc raw es (y :: ys)
    | _ => false
  | .nil, _ => false
  | .cons .., _ => false
  | .star .., _ => false
  | .rng1 _, _ => false
  | .rng2 .., _ => false
  | .enm _, _ => false
  | .zip .., _ => false
  | .seq _, _ => false
/-- arguments of a def -/
def chkA (sc raw : Scope) : E → List Expr → Bool
  | .nil, [] => true
  | .cons a r, x :: xs => !isStarE x && chkE sc raw a x && chkA sc raw r xs
  | _, _ => false
def chkB (sc raw : Scope) : E → List Expr → Bool
  | .nil, [] => true
  | .cons a r, x :: xs => !isStarE x && chkE sc raw a x && chkB sc raw r xs
  | _, _ => false
def chkS (sc raw : Scope) : E → List Expr → Bool
  | .nil, [] => true
  | .cons a r, x :: xs => !isStarE x && chkE sc raw a x && chkS sc raw r xs
  | .star a r, .Starred x _ :: xs => chkE sc raw a x && chkS sc raw r xs
  | _, _ => false
def chkK (sc raw : Scope) : E → List Keyword → Bool
  | .nil, [] => true
  | .cons a r, ⟨some _, x, _⟩ :: xs => chkE sc raw a x && chkK sc raw r xs
  | _, _ => false
def chkI (sc raw : Scope) : E → Expr → Expr → Bool
  | .rng1 a, _, e => match e with
    | .Call (.Name x _) [z] [] _ => x == ("range" : Str) && glbB sc x && !isStarE z && chkE sc raw a z
    | _ => false
  | .rng2 a b, _, e => match e with
    | .Call (.Name x _) [z, w] [] _ => x == ("range" : Str) && glbB sc x && !isStarE z && !isStarE w && chkE sc raw a z && chkE sc raw b w
    | _ => false
  | .enm a, tg, e => match e with
    | .Call (.Name x _) [z] [] _ => isTupE tg && x == ("enumerate" : Str) && glbB sc x && !isStarE z && chkE sc raw a z
    | _ => false
  | .zip a b, tg, e => match e with
    | .Call (.Name x _) [z, w] [] _ => isTupE tg && x == ("zip" : Str) && glbB sc x && !isStarE z && !isStarE w && chkE sc raw a z && chkE sc raw b w
    | _ => false
  | .seq a, _, e => chkE sc raw a e
  | _, _, _ => false
end

/-- a store of a comprehension into a local name on its own line -/
def swapB (sc : Scope) (t e : Expr) : Bool := match t, e with
  | .Name y py, .ListComp _ _ scope pos => lclB sc y && py.line == pos.line && !(scope.names.any fun (n, k) => n == y && (k == .local || k == .cell))
  | _, _ => false
def parNames (sc : Scope) (ts : List Expr) : List Str := ts.filterMap fun
      | .Name id pos => if sc.names.lookup id == some .local && pos.line == (ts.head?.map (·.pos.line)).getD 0 then some id else none
      | _ => none
/-- how a written tuple's stores go: none: the program's own check fails; some none: by a tuple; some (some names): one after another from the right -/
def parSw (sc : Scope) (ts vs : List Expr) : Option (Option (List Str)) :=
  if (!(ts.length == 2 || ts.length == 3) || vs.length != ts.length) = true then some none
  else if ((parNames sc ts).length != ts.length || (parNames sc ts).eraseDups.length != (parNames sc ts).length) = true then some none
  else if vs.all (foldedForSure 8) = true then some none
  else if vs.all (constantsAlone 8) = true then none
  else some (some (parNames sc ts))
def isLcl (sc : Scope) : Expr → Bool
  | .Name x _ => lclB sc x
  | _ => false
def nameOf : Expr → Str
  | .Name x _ => x
  | _ => ""
def nodupB : List Str → Bool
  | [] => true
  | x :: xs => !xs.contains x && nodupB xs
def parB (sc : Scope) (ts vs : List Expr) : Bool := decide (ts.length < 100) && match parSw sc ts vs with
  | none => false
  | some none => true
  | some (some names) => ts.all (isLcl sc) && names == ts.map nameOf && nodupB names && (ts.length == 2 || ts.length == 3)
/-- strings, then the rest -/
def preB : List Str → List Expr → Option (List Expr)
  | [], es => some es
  | s :: ss, .Constant (.str s') _ _ :: es => if s == s' then preB ss es else none
  | _, _ => none
/-- t = e, or e -/
def tryE (G : Glob) (N : List Str) (sc : Scope) (t : Option Nat) (e : E) : Stmt → Bool
  | .Assign [tg] x _ => (match t with
    | some t => chkT N sc sc (.nm t false) tg && chkE G N sc sc e x && !(isTupE tg && isTupE x)
    | none => false)
  | .Expr x _ => (match t with
    | some _ => false
    | none => !isCompE x && chkE G N sc sc e x)
  | _ => false
def tryB (G : Glob) (N : List Str) (sc : Scope) (x fld : Str) (t : Option Nat) (ci ei : Nat) (e : E) (pre : List Str) : List Stmt → Bool
  | [.Try [b] [.ExceptHandler (some (.Name x' _)) (some n) [.Assign [.Name ca _] (.Name n2 _) _] _] [] [] _, .Return (some (.IfExp (.Compare (.Name ca2 p1) [.Is] [.Constant .none j p2] p3) tv (.List es _) _)) _] =>
    tryE G N sc t e b && chkE G N sc sc (rvE t) tv && chkE G N sc sc (.cmp .isN (.var ci) (.con .non)) (.Compare (.Name ca2 p1) [.Is] [.Constant .none j p2] p3) && decide (pre.length < 1000) &&
      x' == x && glbB sc x && noDbg x && slotB N ei n && lclB sc n && noDbg n && n2 == n && slotB N ci ca && lclB sc ca && noDbg ca && ca2 == ca && !(ca == n) && glbB sc "isinstance" && glbB sc "ValueError" &&
      (match preB pre es with
        | some [.Attribute (.Name ca3 _) f _, .Call (.Name i _) [.Name ca4 _, .Name v _] [] _] => ca3 == ca && ca4 == ca && f == fld && i == ("isinstance" : Str) && v == ("ValueError" : Str)
        | _ => false)
  | _ => false
def isFrz : S → Bool
  | .frz _ => true
  | _ => false
def isSeq : S → Bool
  | .seq .. => true
  | _ => false
/-- a suite -/
def chkSs (sc raw : Scope) : S → List Stmt → Bool
  | .pass, l => match l with
    | [] => true
    | [.Pass _] => true
    | _ => false
  | .seq a b, l => (isFrz a && chkSs sc raw b l) || (!isSeq a && match l with
    | x :: y :: r => chkSs sc raw a [x] && chkSs sc raw b (y :: r)
    | _ => false)
  | .asg t e, l => match l with
    | [.Assign [tg] x _] => chkT N sc raw t tg && chkE G N sc raw e x && !(isTupE tg && isTupE x)
    | _ => false
  | .par ts es, l => match l with
    | [.Assign [.Tuple tgs _ _] (.Tuple xs _ _) _] => tgsB N sc raw ts tgs && chkA G N sc raw es xs && tgs.length == xs.length && parB sc tgs xs
    | _ => false
  | .sub i ix e, l => match l with
    | [.Assign [.Subscript (.Name x _) k _] v _] => slotB N i x && visB sc x && noDbg x && !isSliceE k && !isCompE v && chkE G N sc raw ix k && chkE G N sc raw e v
    | _ => false
  | .app i e, l => match l with
    | [.Expr (.Call (.Attribute (.Name x _) m ap) [v] [] cp) _] => m == ("append" : Str) && slotB N i x && visB sc x && noDbg x && !isStarE v && ap.endLine == cp.line && chkE G N sc raw e v
    | _ => false
  | .ext i e, l => match l with
    | [.Expr (.Call (.Attribute (.Name x _) m ap) [v] [] cp) _] => m == ("extend" : Str) && slotB N i x && visB sc x && noDbg x && !isStarE v && ap.endLine == cp.line && chkE G N sc raw e v
    | _ => false
  | .expr e, l => match l with
    | [.Expr x _] => !isCompE x && chkE G N sc raw e x
    | _ => false
  | .ite c a b, l => match l with
    | [.If x ys zs _] => chkE G N sc raw c x && chkSs sc raw a ys && chkSs sc raw b zs
    | _ => false
  | .for t it b, l => match l with
    | [.For tg x ys [] _] => chkT N sc raw t tg && !isSetE x && chkI G N sc raw it tg x && chkSs sc raw b ys
    | _ => false
  | .whl c b, l => match l with
    | [.While x ys [] _] => chkE G N sc raw c x && chkSs sc raw b ys
    | _ => false
  | .ret e, l => match l with
    | [.Return (some x) _] => chkE G N sc raw e x
    | _ => false
  | .brk, l => match l with
    | [.Break _] => true
    | _ => false
  | .never, l => match l with
    | [_] => true
    | _ => false
  | .rais c e, l => match l with
    | [.Raise (some (.Call (.Name x _) [z] [] _)) none _] => (G.x.ers.any fun q => q.1 == c && q.2.1 == x) && glbB sc x && noDbg x && !isStarE z && chkE G N sc raw e z
    | _ => false
  | .tryR t ci ei e c pre, l => G.x.ers.any fun q => q.1 == c && tryB G N sc q.2.1 q.2.2 t ci ei e pre l
  | .frz _, _ => false
end
end Gb

/-! Built-in functions by data. -/
namespace Gb
open PySem PySem.Spec PyProof.Rows L2

/-! ### insertion sort -/
section
variable {α : Type} {le : α → α → Bool}
theorem insB_perm (x : α) : ∀ l : List α, (insB le x l).Perm (x :: l)
  | [] => .refl _
  | y :: r => by
    unfold insB
    split
    · exact .refl _
    · exact ((insB_perm x r).cons y).trans (.swap x y r)
theorem sortB_perm : ∀ l : List α, (sortB le l).Perm l
  | [] => .refl _
  | x :: r => (insB_perm x _).trans ((sortB_perm r).cons x)
theorem insB_srt (tot : ∀ a b, le a b = false → le b a = true) (tr : ∀ a b c, le a b = true → le b c = true → le a c = true) (x : α) :
    ∀ l : List α, l.Pairwise (fun a b => le a b = true) → (insB le x l).Pairwise (fun a b => le a b = true)
  | [], _ => List.pairwise_singleton _ _
  | y :: r, h => by
    obtain ⟨h1, h2⟩ := List.pairwise_cons.mp h
    unfold insB
    split
    · rename_i e
      exact List.pairwise_cons.mpr ⟨fun z hz => by
        rcases List.mem_cons.mp hz with rfl | hz
        · exact e
        · exact tr _ _ _ e (h1 z hz), h⟩
    · rename_i e
      refine List.pairwise_cons.mpr ⟨fun z hz => ?_, insB_srt tot tr x r h2⟩
      rcases List.mem_cons.mp ((insB_perm x r).mem_iff.mp hz) with rfl | hz
      · exact tot _ _ (by simpa using e)
      · exact h1 z hz
theorem sortB_srt (tot : ∀ a b, le a b = false → le b a = true) (tr : ∀ a b c, le a b = true → le b c = true → le a c = true) :
    ∀ l : List α, (sortB le l).Pairwise (fun a b => le a b = true)
  | [] => .nil
  | x :: r => insB_srt tot tr x _ (sortB_srt tot tr r)
theorem srt_uniq {R : α → α → Prop} (an : ∀ a b, R a b → R b a → a = b) : ∀ {l m : List α}, l.Perm m → l.Pairwise R → m.Pairwise R → l = m
  | [], m, p, _, _ => (List.nil_perm.mp p).symm
  | x :: l, [], p, _, _ => absurd p.length_eq (by simp)
  | x :: l, y :: m, p, hl, hm => by
    obtain ⟨l1, l2⟩ := List.pairwise_cons.mp hl
    obtain ⟨m1, m2⟩ := List.pairwise_cons.mp hm
    have e : x = y := by
      rcases List.mem_cons.mp (p.mem_iff.mp (List.mem_cons_self (a := x) (l := l))) with e | hx
      · exact e
      · rcases List.mem_cons.mp (p.mem_iff.mpr (List.mem_cons_self (a := y) (l := m))) with e | hy
        · exact e.symm
        · exact an _ _ (l1 y hy) (m1 x hx)
    subst e
    rw [srt_uniq an p.cons_inv l2 m2]
end
theorem sortI_of {ns ms : List Int} (p : ms.Perm ns) (h : ms.Pairwise (· ≤ ·)) : ms = sortB (fun a b => decide (a ≤ b)) ns :=
  srt_uniq (R := (· ≤ ·)) (fun a b h1 h2 => Int.le_antisymm h1 h2) (p.trans (sortB_perm ns).symm) h
    ((sortB_srt (le := fun a b : Int => decide (a ≤ b)) (fun a b e => by simp at e ⊢; omega) (fun a b c h1 h2 => by simp at h1 h2 ⊢; omega) ns).imp fun h => by simpa using h)
theorem leP_iff {a b : Int × Int} : leP a b = true ↔ a.1 < b.1 ∨ (a.1 = b.1 ∧ a.2 ≤ b.2) := by unfold leP; simp
theorem sortP_of {ns ms : List (Int × Int)} (p : ms.Perm ns) (h : ms.Pairwise fun a b => SrtO.lexB b a = false) : ms = sortB leP ns := by
  refine srt_uniq (R := fun a b => leP a b = true) (fun a b h1 h2 => ?_) (p.trans (sortB_perm ns).symm) (h.imp fun {a b} e => ?_) (sortB_srt (fun a b e => ?_) (fun a b c h1 h2 => ?_) ns)
  · rw [leP_iff] at h1 h2
    exact Prod.ext (by omega) (by omega)
  · rw [SrtO.lexB_no] at e
    rw [leP_iff]
    omega
  · rw [leP_iff]
    have : ¬ (leP a b = true) := by rw [e]; simp
    rw [leP_iff] at this
    omega
  · rw [leP_iff] at h1 h2 ⊢
    omega

theorem maxI_go : ∀ (r : List Int) (x : Int), (r.foldl (fun m y => if y > m then y else m) x ∈ x :: r) ∧ ∀ y ∈ x :: r, y ≤ r.foldl (fun m y => if y > m then y else m) x
  | [], x => ⟨List.mem_cons_self, fun y hy => by simp at hy; simp [hy]⟩
  | z :: r, x => by
    rw [List.foldl_cons]
    have hk : x ≤ (if z > x then z else x) ∧ z ≤ (if z > x then z else x) ∧ ((if z > x then z else x) = x ∨ (if z > x then z else x) = z) := by split <;> omega
    generalize (if z > x then z else x) = k at hk ⊢
    obtain ⟨h1, h2⟩ := maxI_go r k
    have hz := h2 _ List.mem_cons_self
    refine ⟨?_, fun y hy => ?_⟩
    · rcases List.mem_cons.mp h1 with e | e
      · rw [e]
        rcases hk.2.2 with q | q
        · rw [q]; exact List.mem_cons_self
        · rw [q]; exact List.mem_cons_of_mem _ List.mem_cons_self
      · exact List.mem_cons_of_mem _ (List.mem_cons_of_mem _ e)
    · rcases List.mem_cons.mp hy with rfl | hy
      · exact Int.le_trans hk.1 hz
      · rcases List.mem_cons.mp hy with rfl | hy
        · exact Int.le_trans hk.2.1 hz
        · exact h2 y (List.mem_cons_of_mem _ hy)
theorem maxI_of {ns : List Int} {m : Int} (e : maxI ns = some m) : 0 < ns.length ∧ m ∈ ns ∧ ∀ y ∈ ns, y ≤ m := by
  cases ns with
  | nil => cases e
  | cons x r =>
    cases e
    obtain ⟨h1, h2⟩ := maxI_go r x
    exact ⟨by simp, h1, h2⟩

theorem sum_intTup {prog : Program} {w : World} {A : Around} {E : Value → Shared → Prop} {s : Shared} {l : Addr} {xs : Array (Int × Tok)} {Q : Value → Shared → Prop} (hh : A.handled = none) (hT : s.heap.IsTuple l (intItems xs))
    (h : ∀ h' tk t', (∀ b o, s.heap.get? b = some o → h'.get? b = some o) → Q (.int (preSum (numAt xs) xs.size) t') { s with heap := h', toks := tk }) :
    wpAny (model prog w) A (call (.builtin "sum") [.ref l]) Q E s := by
  refine call_sum_walkG (wpAny_pyIter_tuple hT ?_)
  have hlt : l < s.heap.objs.size := by
    obtain ⟨o, e, _⟩ := hT
    exact Heap.lt_size e
  refine ⟨_, [_, l], [_], _, _, _, numAt xs, rfl, Walks.tuple (A := A.in1) hh s.heap.objs.size l (Nat.ne_of_lt hlt) (intItems xs), ⟨⟨_, Heap.get?_push_size _ rfl, rfl, rfl⟩, hT.push _⟩, fun c hc => ?_, fun _ _ => intItems_at, fun h' tk t' hk => ?_⟩
  · show c < (s.heap.push _).objs.size
    rw [Heap.size_push]
    rcases List.mem_cons.mp hc with rfl | hc
    · exact Nat.lt_succ_self _
    · rcases List.mem_cons.mp hc with rfl | hc
      · exact Nat.lt_succ_of_lt hlt
      · cases hc
  · have := h h' tk t' fun b o e => hk b o (fun hm => by
      rcases List.mem_cons.mp hm with rfl | hm
      · exact absurd (Heap.lt_size e) (Nat.lt_irrefl _)
      · cases hm) (Heap.get?_push_of_some _ e)
    simpa [intItems] using this
theorem sum_rawT {prog : Program} {w : World} {A : Around} {E : Value → Shared → Prop} {s : Shared} {l : Addr} {its : List Value} {ns : List Int} {Q : Value → Shared → Prop} (hh : A.handled = none) (hl : s.heap.IsTuple l its.toArray) (hi : IntsAre its ns)
    (h : ∀ h' tk t', (∀ b o, s.heap.get? b = some o → h'.get? b = some o) → Q (.int ns.sum t') { s with heap := h', toks := tk }) : wpAny (model prog w) A (call (.builtin "sum") [.ref l]) Q E s := by
  obtain ⟨xs, e⟩ := hi.allInts.items
  have hn : numsOf (intItems xs).toList = ns := by rw [← e]; exact hi.numsOf
  rw [nums_intItems] at hn
  rw [e] at hl
  refine sum_intTup hh hl fun h' tk t' hk => ?_
  have := h h' tk t' hk
  rw [preSum_eq, List.take_of_length_le (by simp), hn]; exact this
theorem cr_sumT {X : Cx} (hc : X.calm = true) : CallR X (.builtin "sum") (fun vs H Q => ∃ (a : Addr) (ns : List Int), vs = [V.ref a] ∧ SqT X.K H a (ns.map V.int) ∧ Q (.int ns.sum) H) := by
  intro pins s σ H vs us Q I r h
  obtain ⟨a, ns, rfl, hs, q⟩ := h
  obtain ⟨its, rv, hl, _⟩ := I.tuple hs
  rw [Vals.ref1 r]
  exact sum_rawT (I.ok.hd hc) (show s.heap.IsTuple a its.toArray from hl) rv.ints fun h' tk t' hk => ⟨.int _, H, I.kept hk, ⟨_, rfl⟩, q⟩

/-! ### by data -/
abbrev RepXs (K : PySem.W.Frag) (F : Hp) (φ : List Addr) (H : Hp) : List D → List V → Prop := Paired (RepX K F φ H)
def rBi (K : PySem.W.Frag) (Y : ExT) (E : XK) (b : Bi) : List V → Hp → VK → Prop := fun vs H Q =>
  ∃ F φ st ds, Base K F φ st H ∧ RepXs K F φ H ds vs ∧ Post K Y E F φ H (lift (biD b ds) st) (RQ K H Q)
def pairK (F : Hp) (v : V) : Int × Int := match v with
  | .ref a => match F a with
    | some (.tup [.int i, .int j]) => (i, j)
    | _ => (0, 0)
  | _ => (0, 0)
section
variable {K : PySem.W.Frag} {F : Hp}
theorem pairs_of : ∀ {ds : List D} {vs : List V} {ps : List (Int × Int)}, Reps K F ds vs → pairs ds = some ps → vs.map (pairK F) = ps ∧ ∀ v ∈ vs, ∃ t, v = .ref t ∧ F t = some (.tup [.int (pairK F v).1, .int (pairK F v).2])
  | _, _, _, .nil, e => by cases e; exact ⟨rfl, fun v hv => by cases hv⟩
  | _, _, _, .cons a b, e => by
    unfold pairs at e
    split at e
    · rename_i heq
      cases heq
    · rename_i i j _ heq
      obtain ⟨ps, e1, rfl⟩ := Option.map_eq_some_iff.mp e
      obtain ⟨rfl, rfl⟩ := List.cons.inj heq
      obtain ⟨h1, h2⟩ := pairs_of b e1
      cases a with
      | @tup a0 _ _ ea ra =>
        cases ra with
        | cons r1 ra =>
          cases ra with
          | cons r2 ra =>
            cases ra
            cases r1
            cases r2
            have ek : pairK F (.ref a0) = (i, j) := by
              show (match F a0 with | some (.tup [.int i, .int j]) => (i, j) | _ => (0, 0)) = _
              rw [ea]
            refine ⟨by rw [List.map_cons, ek, h1], fun v hv => ?_⟩
            rcases List.mem_cons.mp hv with rfl | hv
            · exact ⟨_, rfl, by rw [ek]; exact ea⟩
            · exact h2 v hv
    · cases e
theorem reps_pairs : ∀ (vs : List V), (∀ v ∈ vs, ∃ t, v = .ref t ∧ F t = some (.tup [.int (pairK F v).1, .int (pairK F v).2])) → Reps K F ((vs.map (pairK F)).map fun p => .tup [.int p.1, .int p.2]) vs
  | [], _ => .nil
  | v :: vs, h => by
    obtain ⟨t, e, ht⟩ := h v List.mem_cons_self
    refine .cons ?_ (reps_pairs vs fun u hu => h u (List.mem_cons_of_mem _ hu))
    rw [e] at ht ⊢
    exact .tup ht (.cons (.int _) (.cons (.int _) .nil))
theorem RepXs.one {φ : List Addr} {H : Hp} {d : D} {vs : List V} (r : RepXs K F φ H [d] vs) : ∃ v, vs = [v] ∧ RepX K F φ H d v := by
  cases r with
  | cons a b => cases b; exact ⟨_, rfl, a⟩
theorem RepXs.two {φ : List Addr} {H : Hp} {d e : D} {vs : List V} (r : RepXs K F φ H [d, e] vs) : ∃ v w, vs = [v, w] ∧ RepX K F φ H d v ∧ RepX K F φ H e w := by
  cases r with
  | cons a b =>
    cases b with
    | cons b c => cases c; exact ⟨_, _, rfl, a, b⟩
end

section
variable {X : Cx} {Y : ExT} {E : XK}
theorem g_len : CallR X (.builtin "len") (rBi X.K Y E .len) := by
  intro pins s σ H vs us Q I r h
  obtain ⟨F, φ, st, ds, B, rx, p⟩ := h
  obtain ⟨d, e, p2⟩ := p.of_lift
  clear p
  unfold biD at e
  split at e <;> first | contradiction | skip
  · obtain ⟨v, rfl, hx⟩ := rx.one
    split at e
    · rename_i hz
      cases e
      rw [hx.str] at r
      exact L2.call_len_str pins s σ H _ us Q I r ⟨_, rfl, hz, end_int p2 B⟩
    · cases e
  · obtain ⟨v, rfl, hx⟩ := rx.one
    cases e
    obtain ⟨a, rfl, hs⟩ := hx.scr
    refine L2.call_len_seq pins s σ H _ us Q I r ⟨a, _, rfl, .inl (SqL.mono B.sub hs), ?_⟩
    rw [List.length_map]
    exact end_int p2 B
  · obtain ⟨v, rfl, hx⟩ := rx.one
    obtain ⟨xs, e1, rfl⟩ := Option.map_eq_some_iff.mp e
    obtain ⟨a, ws, rfl, ha, ra⟩ := hx.seqOf B e1
    refine L2.call_len_seq pins s σ H _ us Q I r ⟨a, ws, rfl, ha.elim (fun z => .inl (sq_of z)) (fun z => .inr (sqt_of z)), ?_⟩
    rw [← ra.length]
    exact end_int p2 B
theorem g_int : CallR X (.type "int") (rBi X.K Y E .int) := by
  intro pins s σ H vs us Q I r h
  obtain ⟨F, φ, st, ds, B, rx, p⟩ := h
  obtain ⟨d, e, p2⟩ := p.of_lift
  clear p
  unfold biD at e
  split at e <;> first | contradiction | skip
  · obtain ⟨v, rfl, hx⟩ := rx.one
    cases e
    rw [hx.int] at r
    exact L2.call_int1 pins s σ H _ us Q I r (.inl ⟨_, rfl, end_int p2 B⟩)
  · obtain ⟨v, rfl, hx⟩ := rx.one
    cases e
    rw [hx.bl] at r
    exact L2.call_int1 pins s σ H _ us Q I r (.inr ⟨_, rfl, end_int p2 B⟩)
theorem g_abs : CallR X (.builtin "abs") (rBi X.K Y E .abs) := by
  intro pins s σ H vs us Q I r h
  obtain ⟨F, φ, st, ds, B, rx, p⟩ := h
  obtain ⟨d, e, p2⟩ := p.of_lift
  clear p
  unfold biD at e
  split at e <;> first | contradiction | skip
  obtain ⟨v, rfl, hx⟩ := rx.one
  cases e
  rw [hx.int] at r
  exact L2.call_abs pins s σ H _ us Q I r ⟨_, rfl, end_int p2 B⟩
theorem g_max2 (hc : X.calm = true) : CallR X (.builtin "max") (rBi X.K Y E .max2) := by
  intro pins s σ H vs us Q I r h
  obtain ⟨F, φ, st, ds, B, rx, p⟩ := h
  obtain ⟨d, e, p2⟩ := p.of_lift
  clear p
  unfold biD at e
  split at e <;> first | contradiction | skip
  obtain ⟨v, w, rfl, hx, hy⟩ := rx.two
  cases e
  rw [hx.int, hy.int] at r
  exact L2.call_max2 hc pins s σ H _ us Q I r ⟨_, _, rfl, end_int p2 B⟩
theorem g_min2 (hc : X.calm = true) : CallR X (.builtin "min") (rBi X.K Y E .min2) := by
  intro pins s σ H vs us Q I r h
  obtain ⟨F, φ, st, ds, B, rx, p⟩ := h
  obtain ⟨d, e, p2⟩ := p.of_lift
  clear p
  unfold biD at e
  split at e <;> first | contradiction | skip
  obtain ⟨v, w, rfl, hx, hy⟩ := rx.two
  cases e
  rw [hx.int, hy.int] at r
  exact L2.call_min2 hc pins s σ H _ us Q I r ⟨_, _, rfl, end_int p2 B⟩
theorem g_max (hc : X.calm = true) : CallR X (.builtin "max") (rBi X.K Y E .max) := by
  intro pins s σ H vs us Q I r h
  obtain ⟨F, φ, st, ds, B, rx, p⟩ := h
  obtain ⟨d, e, p2⟩ := p.of_lift
  clear p
  unfold biD at e
  split at e <;> first | contradiction | skip
  obtain ⟨v, rfl, hx⟩ := rx.one
  obtain ⟨xs, e1, e2⟩ := Option.bind_eq_some_iff.mp e
  obtain ⟨ns, e3, e4⟩ := Option.bind_eq_some_iff.mp e2
  obtain ⟨m, e5, rfl⟩ := Option.map_eq_some_iff.mp e4
  obtain ⟨a, ws, rfl, ha, ra⟩ := hx.asL B e1
  obtain ⟨h1, h2, h3⟩ := maxI_of e5
  have ew := ra.ints e3
  subst ew
  refine L2.cr_max hc pins s σ H _ us Q I r ⟨a, ns, rfl, sq_of ha, h1, fun m' h4 h5 => ?_⟩
  have e6 : m' = m := Int.le_antisymm (h3 m' h4) (h5 m h2)
  rw [e6]
  exact end_int p2 B
theorem g_sum (hc : X.calm = true) : CallR X (.builtin "sum") (rBi X.K Y E .sum) := by
  intro pins s σ H vs us Q I r h
  obtain ⟨F, φ, st, ds, B, rx, p⟩ := h
  obtain ⟨d, e, p2⟩ := p.of_lift
  clear p
  unfold biD at e
  split at e <;> first | contradiction | skip
  obtain ⟨v, rfl, hx⟩ := rx.one
  obtain ⟨xs, e1, e2⟩ := Option.bind_eq_some_iff.mp e
  obtain ⟨ns, e3, rfl⟩ := Option.map_eq_some_iff.mp e2
  obtain ⟨a, ws, rfl, ha, ra⟩ := hx.seqOf B e1
  have ew := ra.ints e3
  subst ew
  rcases ha with ha | ha
  · exact L2.cr_sum hc pins s σ H _ us Q I r ⟨a, ns, rfl, sq_of ha, end_int p2 B⟩
  · exact cr_sumT hc pins s σ H _ us Q I r ⟨a, ns, rfl, sqt_of ha, end_int p2 B⟩
theorem g_all (hc : X.calm = true) : CallR X (.builtin "all") (rBi X.K Y E .all) := by
  intro pins s σ H vs us Q I r h
  obtain ⟨F, φ, st, ds, B, rx, p⟩ := h
  obtain ⟨d, e, p2⟩ := p.of_lift
  clear p
  unfold biD at e
  split at e <;> first | contradiction | skip
  obtain ⟨v, rfl, hx⟩ := rx.one
  obtain ⟨xs, e1, e2⟩ := Option.bind_eq_some_iff.mp e
  obtain ⟨ns, e3, rfl⟩ := Option.map_eq_some_iff.mp e2
  obtain ⟨a, ws, rfl, ha, ra⟩ := hx.asL B e1
  have ew := ra.bools e3
  subst ew
  exact L2.cr_all hc pins s σ H _ us Q I r ⟨a, ns, rfl, sq_of ha, end_bl p2 B⟩
theorem g_tuple : CallR X (.type "tuple") (rBi X.K Y E .tuple) := by
  intro pins s σ H vs us Q I r h
  obtain ⟨F, φ, st, ds, B, rx, p⟩ := h
  obtain ⟨d, e, p2⟩ := p.of_lift
  clear p
  unfold biD at e
  split at e <;> first | contradiction | skip
  · obtain ⟨v, rfl, hx⟩ := rx.one
    cases e
    obtain ⟨a, ws, rfl, ha, ra⟩ := hx.tup
    exact L2.call_tuple_of pins s σ H _ us Q I r ⟨a, ws, rfl, .inr ⟨sqt_of (B.sub _ _ ha), end_rep p2 B (Rep.tup ha ra) fun _ h => nomatch h⟩⟩
  · obtain ⟨v, rfl, hx⟩ := rx.one
    obtain ⟨xs, e1, rfl⟩ := Option.map_eq_some_iff.mp e
    obtain ⟨a, ws, rfl, ha, ra⟩ := hx.asL B e1
    exact L2.call_tuple_of pins s σ H _ us Q I r ⟨a, ws, rfl, .inl ⟨sq_of ha, end_tup p2 B ra⟩⟩
theorem g_list : CallR X (.type "list") (rBi X.K Y E .list) := by
  intro pins s σ H vs us Q I r h
  obtain ⟨F, φ, st, ds, B, rx, p⟩ := h
  obtain ⟨d, e, p2⟩ := p.of_lift
  clear p
  unfold biD at e
  split at e <;> first | contradiction | skip
  obtain ⟨v, rfl, hx⟩ := rx.one
  obtain ⟨xs, e1, rfl⟩ := Option.map_eq_some_iff.mp e
  obtain ⟨a, ws, rfl, ha, ra⟩ := hx.seqOf B e1
  exact L2.call_list_of pins s σ H _ us Q I r ⟨a, ws, rfl, ha.elim (fun z => .inl (sq_of z)) (fun z => .inr (sqt_of z)), end_fls p2 B ra⟩
theorem g_sorted : CallR X (.builtin "sorted") (rBi X.K Y E .sorted) := by
  intro pins s σ H vs us Q I r h
  obtain ⟨F, φ, st, ds, B, rx, p⟩ := h
  obtain ⟨d, e, p2⟩ := p.of_lift
  clear p
  unfold biD at e
  split at e <;> first | contradiction | skip
  obtain ⟨v, rfl, hx⟩ := rx.one
  unfold sortD at e
  split at e
  · rename_i xs e1
    obtain ⟨a, ws, rfl, ha, ra⟩ := hx.asL B e1
    split at e
    · rename_i ns e3
      cases e
      have ew := ra.ints e3
      subst ew
      refine L2.cr_sortedI pins s σ H _ us Q I r ⟨a, ns, rfl, sq_of ha, fun ns' q h1 h2 hq => ?_⟩
      have e4 := sortI_of h1 h2
      subst e4
      exact end_fls p2 B (Reps.intsV _) q hq
    · split at e
      · rename_i ps e3
        cases e
        obtain ⟨h1, h2⟩ := pairs_of ra e3
        refine L2.cr_sortedPO pins s σ H _ us Q I r ⟨a, ws, pairK F, rfl, sq_of ha, fun x hx => ?_, fun ys q h3 h4 hq => ?_⟩
        · obtain ⟨t, e4, e5⟩ := h2 x hx
          exact ⟨t, e4, B.sub _ _ e5⟩
        · refine end_fls p2 B ?_ q hq
          have e6 : ys.map (pairK F) = sortB leP ps := by
            refine sortP_of (by rw [← h1]; exact h4.perm.map _) ?_
            exact List.pairwise_map.mpr h3
          rw [← e6]
          exact reps_pairs ys fun u hu => h2 u (h4.perm.mem_iff.mp hu)
      · cases e
  · cases e
end

/-! ### isinstance -/
def tnm : D → String
  | .non => "NoneType" | .bl _ => "bool" | .int _ => "int" | .str _ => "str" | .tup _ => "tuple" | _ => "list"
def tys : Ty → String
  | .int => "int" | .bool => "bool" | .str => "str" | .list => "list" | .tuple => "tuple" | .dict => "dict"
theorem tyx_of {K : PySem.W.Frag} {F : Hp} {φ : List Addr} {st : Store} {H : Hp} {d : D} {v : V} {ts : List Ty} {b : Bool} (B : Base K F φ st H) (r : RepX K F φ H d v) (e : isiD d ts = some b) : TyX K H v (.type (tnm d)) := by
  have l : ∀ xs, asL d = some xs → TyX K H v (.type "list") := fun xs e => by
    obtain ⟨a, vs, rfl, ha, _⟩ := r.asL B e
    exact .base (.lst ha)
  cases d with
  | non => rw [RepX.non r]; exact .base .non
  | bl b => rw [RepX.bl r]; exact .base (.bl b)
  | int b => rw [RepX.int r]; exact .base (.int b)
  | str b => rw [RepX.str r]; exact .base (.str b)
  | tup xs =>
    obtain ⟨a, vs, rfl, ha, _⟩ := RepX.tup r
    exact .base (.tup (B.sub _ _ ha))
  | lst xs => exact l xs rfl
  | mls xs => exact l xs rfl
  | fls xs => exact l xs rfl
  | scr _ => cases e
  | box _ => cases e
theorem kit_all : ∀ d : D, (∀ ts b, isiD d ts = some b → ∀ t, kitB (tnm d) (tys t) = some (isi1 d t)) := by
  intro d ts b e t
  have h1 : ∀ t, kitB "NoneType" (tys t) = some false := fun t => by cases t <;> decide +kernel
  have h2 : ∀ t, kitB "bool" (tys t) = some (Ty.bool == t || t == .int) := fun t => by cases t <;> decide +kernel
  have h3 : ∀ t, kitB "int" (tys t) = some (Ty.int == t) := fun t => by cases t <;> decide +kernel
  have h4 : ∀ t, kitB "str" (tys t) = some (Ty.str == t) := fun t => by cases t <;> decide +kernel
  have h5 : ∀ t, kitB "tuple" (tys t) = some (Ty.tuple == t) := fun t => by cases t <;> decide +kernel
  have h6 : ∀ t, kitB "list" (tys t) = some (Ty.list == t) := fun t => by cases t <;> decide +kernel
  cases d with
  | non => rw [show tnm D.non = "NoneType" from rfl, h1]; rfl
  | bl b => rw [show tnm (D.bl b) = "bool" from rfl, h2]; cases t <;> rfl
  | int b => rw [show tnm (D.int b) = "int" from rfl, h3]; cases t <;> rfl
  | str b => rw [show tnm (D.str b) = "str" from rfl, h4]; cases t <;> rfl
  | tup b => rw [show tnm (D.tup b) = "tuple" from rfl, h5]; cases t <;> rfl
  | lst b => rw [show tnm (D.lst b) = "list" from rfl, h6]; cases t <;> rfl
  | mls b => rw [show tnm (D.mls b) = "list" from rfl, h6]; cases t <;> rfl
  | fls b => rw [show tnm (D.fls b) = "list" from rfl, h6]; cases t <;> rfl
  | scr b => cases e
  | box b => cases e
theorem kitAny_of {K : PySem.W.Frag} {d : D} {ts0 : List Ty} {b0 : Bool} (e : isiD d ts0 = some b0) : ∀ ts : List Ty, PySem.W.kitAny K (.type (tnm d)) (ts.map fun t => .type (tys t)) = some (ts.any (isi1 d))
  | [] => kitAny_nil
  | t :: ts => by
    rw [List.map_cons, List.any_cons]
    refine kitAny_cons (kit_ty (kit_all d ts0 b0 e t)) (fun h => ?_) fun h => ?_
    · rw [h, Bool.false_or]; exact kitAny_of e ts
    · rw [h]; rfl
end Gb

/-! sorted(set(xs)), xs a list of ints, any number of them. -/
namespace Gb
open PySem PySem.Spec PyProof.Rows L2
theorem insU_mem (x : Int) : ∀ (l : List Int) (k : Int), k ∈ insU x l ↔ k = x ∨ k ∈ l
  | [], k => by simp [insU]
  | y :: l, k => by
    unfold insU
    split
    · simp
    · split
      · rename_i e
        subst e
        simp
      · rw [List.mem_cons, insU_mem x l k, List.mem_cons]
        constructor
        · rintro (h | h | h) <;> simp [h]
        · rintro (h | h | h) <;> simp [h]
theorem insU_asc (x : Int) : ∀ l : List Int, l.Pairwise (· < ·) → (insU x l).Pairwise (· < ·)
  | [], _ => List.pairwise_singleton _ _
  | y :: l, h => by
    obtain ⟨h1, h2⟩ := List.pairwise_cons.mp h
    unfold insU
    split
    · rename_i q
      exact List.pairwise_cons.mpr ⟨fun z hz => (List.mem_cons.mp hz).elim (fun e => e ▸ q) fun e => Int.lt_trans q (h1 z e), h⟩
    · split
      · exact h
      · rename_i q1 q2
        refine List.pairwise_cons.mpr ⟨fun z hz => ?_, insU_asc x l h2⟩
        rcases (insU_mem x l z).mp hz with rfl | e
        · omega
        · exact h1 z e
theorem sortU_mem : ∀ (l : List Int) (k : Int), k ∈ sortU l ↔ k ∈ l
  | [], k => Iff.rfl
  | x :: l, k => by
    show k ∈ insU x (sortU l) ↔ _
    rw [insU_mem, sortU_mem l k, List.mem_cons]
theorem sortU_asc : ∀ l : List Int, (sortU l).Pairwise (· < ·)
  | [] => .nil
  | x :: l => insU_asc x _ (sortU_asc l)
theorem asc_one : ∀ {a b : List Int}, a.Pairwise (· < ·) → b.Pairwise (· < ·) → (∀ k, k ∈ a ↔ k ∈ b) → a = b
  | [], [], _, _, _ => rfl
  | [], y :: b, _, _, h => absurd ((h y).mpr List.mem_cons_self) List.not_mem_nil
  | x :: a, [], _, _, h => absurd ((h x).mp List.mem_cons_self) List.not_mem_nil
  | x :: a, y :: b, ha, hb, h => by
    obtain ⟨a1, a2⟩ := List.pairwise_cons.mp ha
    obtain ⟨b1, b2⟩ := List.pairwise_cons.mp hb
    have e : x = y := by
      rcases List.mem_cons.mp ((h x).mp List.mem_cons_self) with z | z
      · exact z
      · rcases List.mem_cons.mp ((h y).mpr List.mem_cons_self) with u | u
        · exact u.symm
        · have := b1 x z
          have := a1 y u
          omega
    subst e
    congr 1
    refine asc_one a2 b2 fun k => ⟨fun z => ?_, fun z => ?_⟩
    · rcases List.mem_cons.mp ((h k).mp (List.mem_cons_of_mem _ z)) with u | u
      · have := a1 k z; omega
      · exact u
    · rcases List.mem_cons.mp ((h k).mpr (List.mem_cons_of_mem _ z)) with u | u
      · have := b1 k z; omega
      · exact u
theorem sortU_one {ms ns : List Int} (h1 : ms.Pairwise (· < ·)) (h2 : ∀ k, k ∈ ms ↔ k ∈ ns) : ms = sortU ns :=
  asc_one h1 (sortU_asc ns) fun k => (h2 k).trans (sortU_mem ns k).symm

section
variable {P : Program} {w : World} {A : Around} {E : Value → Shared → Prop} {s : Shared}
/-- the new set, empty -/
abbrev emptyS (w : World) : Obj := { cls := .type "set", dict := none, data := .set #[] 0 (.fresh 0 0 (!w.params.followText "set-order")) }
set_option maxHeartbeats 4000000 in
theorem setOfList {l : Addr} {its : Array Value} (ns : List Int) {Q : Value → Shared → Prop} (hA : A.handled = none) (hl : s.heap.IsList l its) (hi : IntsAre its.toList ns) (hb : ns.length + 1 < scanBound)
    (done : ∀ (h2 : Heap) (t2 c : Nat), SetR w h2 s.heap.objs.size (fun j => decide (j ∈ ns)) c → (∀ b o, s.heap.get? b = some o → h2.get? b = some o) → Q (.ref s.heap.objs.size) { s with heap := h2, toks := t2 }) :
    wpAny (model P w) A (call (.type "set") [.ref l]) Q E s := by
  have len : its.size = ns.length := by rw [← Array.length_toList]; exact hi.length
  obtain ⟨_, _, mro⟩ := F.called_set.mro
  have made := F.called_set.made
  have sub := F.called_set.sub
  have nt := F.called_set.notType
  have cc := F.called_set.canCreate
  have tc := F.typeCall_set_1 (.ref l)
  refine wpAny_call (codeAny_of_tree ?_)
  show wpAny _ _ (callAny (.type "set") _) _ _ _
  refine wpAny_pure ⟨Code.quiet_builtin _ (by decide +kernel), codeAny_builtin F.entry_type_call ?_⟩
  rw [Around.under_plain (weight_type_call_type "set" [.ref l] []) rfl]
  repeat (any_goals (first | assumption | wp_step))
  let s0 : Shared := { s with heap := s.heap.push (emptyS w) }
  refine codeAny_mono (code_set_led1 (.ref l) (E := E) (Q₁ := fun v t => v = .ref s.heap.objs.size ∧ t = s0) ⟨rfl, rfl⟩) fun r t hr => ?_
  match r, hr with
  | .error e, hr => exact hr
  | .ok (.ret v), ⟨e1, e2⟩ =>
    subst e1
    subst e2
    have hS : (s.heap.push (emptyS w)).get? s.heap.objs.size = some (emptyS w) := Heap.get?_push_size _ rfl
    have hT : Shared.TypeIs { s with heap := s.heap.push (emptyS w) } (.ref s.heap.objs.size) "set" := ⟨_, hS, rfl⟩
    have il := F.called_set.init.lookup
    have ib := F.called_set.init.bind (.ref s.heap.objs.size)
    repeat (any_goals (first | assumption | wp_step))
    refine codeAny_mono (codeAny_call_builtin (R := wants (fun v t => v = .none ∧ ∃ h2 t2 c, t = { s with heap := h2, toks := t2 } ∧ SetR w h2 s.heap.objs.size (fun j => decide (j ∈ ns)) c ∧ (∀ b o, s.heap.get? b = some o → h2.get? b = some o)) E)
      F.called_set.init.plain F.entry_set_init (check_set_init_1 hT ?_)) fun r2 t2 hr2 => ?_
    · have hl0 := hl
      obtain ⟨⟨oc, od, odt, osl⟩, ho, hc, nl, hd⟩ := hl
      simp only at hc hd
      subst hc
      subst hd
      have ho1 : (s.heap.push (emptyS w)).get? l = some { cls := .type "list", dict := od, data := .seq its nl, slots := osl } := Heap.get?_push_of_some _ ho
      have s1 := F.sub_list_set
      have s2 := F.sub_list_frozenset
      have nd : (Value.type "list" == Value.type "dict") = false := by decide
      have hl1 : (s.heap.push (emptyS w)).IsList l its := hl0.push _
      unfold Builtin.«set.__init__» noKeywords Builtin.Frozenset.updateFrom
      generalize hPI : pyIter = PI
      wp_walk
      subst hPI
      refine wpAny_pyIter_list hl1 ?_
      refine wpAny_bind (wpAny_runValue ?_)
      have lt : l < s.heap.objs.size := Heap.lt_size ho
      have h3 : A.in1.in1.in1.handled = none := by simp [hA]
      have ne : l ≠ (s.heap.push (emptyS w)).objs.size := by
        rw [Heap.size_push]; exact Nat.ne_of_lt (Nat.lt_succ_of_lt lt)
      have nin : s.heap.objs.size ∉ [(s.heap.push (emptyS w)).objs.size, l] := by
        rw [Heap.size_push]
        simp only [List.mem_cons, List.not_mem_nil, or_false, not_or]
        exact ⟨Nat.ne_of_lt (Nat.lt_succ_self _), Nat.ne_of_gt lt⟩
      have val : ∀ (i : Nat) (v : Value), its[i]? = some v → ∃ k t, ns[i]? = some k ∧ v = .int k t := fun i v hv => by
        have hin : i < ns.length := by rw [← len]; exact (Array.getElem?_eq_some_iff.mp hv).1
        obtain ⟨t, e⟩ := hi.int_at i v (by rw [Array.getElem?_toList]; exact hv)
        refine ⟨ns[i], t, List.getElem?_eq_getElem hin, ?_⟩
        rw [e]
        simp [List.getD_eq_getElem?_getD, hin]
      refine set_update_ints ((Walks.list h3 _ l ne its).toS) s.heap.objs.size nin ns len hb val (its.size - 0) 0 _ (by omega) (Nat.zero_le _) ⟨⟨_, Heap.get?_push_size _ rfl, rfl, rfl⟩, hl1.push _⟩
        ⟨0, Nat.le_refl 0, setR_new_at (Heap.get?_push_of_some _ hS)⟩ fun t3 c mv hc hS3 => ?_
      obtain ⟨h4, g4, d4, t4, o4⟩ := t3
      have eg : g4 = s.gens := mv.gens
      have ed : d4 = s.drawn := mv.drawn
      have eo : o4 = s.os := mv.os
      subst eg
      subst ed
      subst eo
      show wpAny _ _ _ _ _ _
      refine wpAny_pure ?_
      show wpAny _ _ (ret Value.none) _ _ _
      refine wpAny_pure ⟨rfl, h4, t4, c, rfl, hS3, fun b o e => ?_⟩
      have b0 : b < s.heap.objs.size := Heap.lt_size e
      refine mv.heap b o ?_ (Heap.get?_push_of_some _ (Heap.get?_push_of_some _ e))
      rw [Heap.size_push]
      simp only [List.mem_cons, List.not_mem_nil, or_false, not_or]
      exact ⟨Nat.ne_of_lt b0, Nat.ne_of_lt (Nat.lt_succ_of_lt b0)⟩
    · match r2, hr2 with
      | .error e, hr2 => exact hr2
      | .ok (.ret v), ⟨e1, h2, t3, c, e2, q1, q2⟩ =>
        subst e1
        subst e2
        repeat (any_goals (first | assumption | wp_step))
        exact done _ _ _ q1 q2
      | .ok .next, hr2 => exact hr2.elim
      | .ok .brk, hr2 => exact hr2.elim
      | .ok .cont, hr2 => exact hr2.elim
  | .ok .next, hr => exact hr.elim
  | .ok .brk, hr => exact hr.elim
  | .ok .cont, hr => exact hr.elim
/-- sorted(a set of ints), any number of them -/
theorem sortedOfSet {a : Addr} {S : Int → Bool} {n : Nat} {Q : Value → Shared → Prop} (R : SetR w s.heap a S n) (hA : A.handled = none)
    (done : ∀ s2 p (out : Array Value) (c : Nat) (ms : List Int), (∀ b o, s.heap.get? b = some o → s2.heap.get? b = some o) → s2.gens = s.gens → s2.os = s.os → s.heap.objs.size ≤ p →
      s2.heap.get? p = some (seqObj "list" out c) → IntsAre out.toList ms → ms.Pairwise (· < ·) → (∀ k, k ∈ ms ↔ S k = true) → ms.length ≤ sizeLine → Q (.ref p) s2) :
    wpAny (model P w) A (call (.builtin "sorted") [.ref a]) Q E s := by
  obtain ⟨o, es, ep, t, ho, hx, hd, good, nd, hm, hb, hf, hn, hr, hl⟩ := R
  refine Calls.call_function_entry kind_sorted plain_sorted entry_sorted (args_sorted1 _) ?_
  unfold Builtin.«sorted»
  refine wpAny_bind (m := checkCount "sorted" 1 1 _) (wpAny_pure ?_)
  refine wpAny_bind (collect_set (A := A.in1) hA ⟨o, ho, hx.1, hd⟩ hf hb hr hl fun s1 vs k1 hz g1 o1 pm => ?_)
  have few : vs.length ≤ sizeLine := by
    rw [pm.length_eq, List.length_map, Array.length_toList, sizeLine_eq]
    have : scanBound = 4096 := rfl
    omega
  have isI : IntsAre vs (vs.map Builtin.Re.reRawOf) := ints_of vs fun v hv => by
    obtain ⟨e, he, q⟩ := List.mem_map.mp (pm.mem_iff.mp hv)
    obtain ⟨k, tk, h1, _⟩ := good e he
    exact ⟨k, tk, q ▸ h1⟩
  have keys : (vs.map Builtin.Re.reRawOf).Perm (es.toList.map keyOf) := by
    have q := pm.map Builtin.Re.reRawOf
    rw [List.map_map] at q
    exact q
  refine wpAny_bind (wpAny_newList ?_ few)
  have at0 : (s1.heap.push (seqObj "list" vs.toArray 0)).get? s1.heap.objs.size = some (seqObj "list" vs.toArray 0) := Heap.get?_push_size _ rfl
  refine wpAny_bind (wpAny_holding (wpAny_call_entry slot_list_sort ⟨_, at0, rfl⟩ entry_list_sort
    (SrtO.list_sort_ord SrtO.swo_int at0 few (fun h2 => SrtO.ints_sortable isI h2) fun out h1 h2 => ⟨.none, rfl, ?_⟩) (args_list_sort _)))
  obtain ⟨j1, j2, j3⟩ := SrtO.ints_out isI h1 h2
  obtain ⟨c, hc⟩ := sortedHeap_at (vs := vs) (out := out.toArray) at0
  have pn := j2.trans keys
  refine wpAny_pure ⟨_, rfl, done _ s1.heap.objs.size out.toArray c _ (fun b u e => ?_) g1 o1 hz hc j1 (lt_of_le_nodup _ j3 (pn.nodup_iff.mpr nd)) (fun k => by rw [pn.mem_iff, ← hm k]) ?_⟩
  · have q := k1 b u e
    have lt := Heap.lt_size q
    show (sortedHeap (s1.heap.push (seqObj "list" vs.toArray 0)) s1.heap.objs.size vs out.toArray).get? b = some u
    rw [sortedHeap_old (Nat.ne_of_lt lt) (by rw [size_push']; exact Nat.lt_succ_of_lt lt)]
    exact Heap.get?_push_of_some _ q
  · rw [j2.length_eq, List.length_map]; exact few
end
section
variable {X : Cx}
def rMkSet (K : PySem.W.Frag) (w : World) : List V → Hp → VK → Prop := fun vs H Q => ∃ (l : Addr) (ns : List Int), vs = [.ref l] ∧ SqL K H l (ns.map V.int) ∧ ns.length < 4000 ∧ ∀ a c, H a = none → Q (.ref a) (upd H a (SetO w a (fun j => decide (j ∈ ns)) c))
theorem cr_mkSet (hc : X.calm = true) : CallR X (.type "set") (rMkSet X.K X.w) := by
  intro pins s σ H vs us Q I r h
  obtain ⟨l, ns, rfl, hs, hl, q⟩ := h
  obtain ⟨its, rv, hL, hz⟩ := I.list hs
  rw [Vals.ref1 r]
  refine setOfList ns (I.ok.hd hc) hL.isList rv.ints (by have : scanBound = 4096 := rfl; omega) fun h2 t2 c hS keep => ?_
  have hn : H s.heap.objs.size = none := I.hok.fresh (Nat.le_refl _)
  exact ⟨.ref _, upd H s.heap.objs.size (SetO X.w s.heap.objs.size (fun j => decide (j ∈ ns)) c), I.laid (t' := t2) keep (Nat.le_refl _) (setO_new hS), rfl, q _ _ hn⟩
def rSortS (w : World) : List V → Hp → VK → Prop := fun vs H Q => ∃ (a : Addr) (S : Int → Bool) (n : Nat), vs = [.ref a] ∧ H a = some (SetO w a S n) ∧
  ∀ (ms : List Int) (p : Addr), ms.Pairwise (· < ·) → (∀ k : Int, k ∈ ms ↔ S k = true) → H p = none → Q (.ref p) (upd H p (.lst (ms.map V.int)))
theorem cr_sortS (hc : X.calm = true) : CallR X (.builtin "sorted") (rSortS X.w) := by
  intro pins s σ H vs us Q I r h
  obtain ⟨a, S, n, rfl, ha, q⟩ := h
  rw [Vals.ref1 r]
  refine sortedOfSet (setO_get I ha) (I.ok.hd hc) fun s2 p out c ms k g o hp hg hi hs hm hl => ?_
  have hn : H p = none := I.hok.fresh hp
  have J : Inv X pins σ (upd H p (.lst (ms.map V.int))) { s with heap := s2.heap, gens := s2.gens, drawn := s2.drawn, toks := s2.toks } :=
    I.call (ch := []) (Un.laid k hp hn) (I.hok.laid k hp ⟨by rw [List.length_map]; exact hl, out.toList, c, vals_of_ints hi, hg⟩) (by rw [g]; exact I.bare) (fun _ z => nomatch z)
  have e : s2 = { s with heap := s2.heap, gens := s2.gens, drawn := s2.drawn, toks := s2.toks } := by
    obtain ⟨_, _, _, _, _⟩ := s2
    subst o
    rfl
  rw [e]
  exact ⟨.ref p, _, J, rfl, q ms p hs hm hn⟩
end
end Gb

/-! An own error: class X(ValueError), its __init__ by super().__init__(a); self.a = a. -/
namespace Gb
open PySem PySem.Spec PyProof.Rows L2

/-- what has to be known of an own error's class where it is caught -/
structure ErrU (K : PySem.W.Frag) (mg : Str → Option Value) (Y : ExT) (c : Nat) (x : Str) (C : Addr) (fld : Str) : Prop where
  y : Y c = some (C, some fld)
  mgx : mg x = some (.ref C)
  ve : mg "ValueError" = none
  exm : PySem.W.exmOne K (.ref C) (.ref C) = some true
  xf : XfC K C
  noat : PySem.W.findIn K (.ref C) fld = some none
  is : ExcC K C
  kit : PySem.W.kitOne K (.ref C) (.type "ValueError") = some true
/-- what the written part says of such a class and its __init__ -/
structure ErrK (P : Program) (K : PySem.W.Frag) (C fI : Addr) (fld : Str) (body : List Stmt) (fd : FuncData) (scope : Scope) : Prop where
  oex : OexC K C
  ini : PySem.W.findIn K (.ref C) "__init__" = some (some (.ref fI))
  noat : PySem.W.findIn K (.ref C) fld = some none
  typ : PySem.W.typeIn K (.ref fI) = some (.type "function")
  fn : ∃ (oc : Value) (od : Option Addr) (osl : Array (Option Value)) (cc cda : Addr) (vs : Array Value) (ccl cl : Value) (cdd cld : Option Addr) (ccs csl : Array (Option Value)) (file : Str) (tf : Tok),
    K.lookup fI = some ⟨oc, od, .func fd, osl⟩ ∧ fd.body = .stmts body ∧ fd.scope = scope ∧ fd.closure = [(("__class__" : Str), cc)] ∧ fd.globals = mainGlobals ∧ fd.builtins = builtinsNs ∧ fd.code = .ref cda ∧
      (fd.params.posonlyargs ++ fd.params.args).head?.map (·.arg) = some ("self" : Str) ∧ PySem.W.codeIn K fd.code fd.qualname = true ∧
      K.lookup cda = some ⟨ccl, cdd, .fields vs, ccs⟩ ∧ vs[2]? = some (.str file tf) ∧ ((P.main.file : Str) == file) = true ∧ K.lookup cc = some ⟨cl, cld, .cell (some (.ref C)), csl⟩
  sub : PySem.W.mroIn K C (.ref C) = some true
  ve : PySem.W.subIn K (.ref C) (.type "ValueError") = some true
  sup : PySem.W.nsIn K mainGlobals "super" = some none
  opq : PySem.W.nsIn K cStatics "thirdparty.any" = some none
  along : PySem.W.ks_superIn K C C "__init__" = some (some (.builtin "ValueError.__init__"))
  top : (P.main.scope.names.lookup ("super" : Str)).isSome = false
/-- the scope of such an __init__ -/
def iniScope (sc : Scope) (fld : Str) : Bool := sc.names.lookup ("super" : Str) == some .globalImplicit && sc.names.lookup ("__class__" : Str) == some .free && sc.names.lookup ("self" : Str) == some .local && sc.names.lookup fld == some .local &&
  (match sc.kind with | .function => true | _ => false) && !sc.isCoroutine && !sc.isGenerator && sc.names.all fun y => match y.2 with | .cell => false | _ => true
/-- the body -/
def iniBody (fld : Str) (p1 p2 p3 p4 p5 p6 p7 p8 p9 p10 : Pos) : List Stmt :=
  [.Expr (.Call (.Attribute (.Call (.Name "super" p1) [] [] p2) "__init__" p3) [.Name fld p4] [] p5) p6, .Assign [.Attribute (.Name "self" p7) fld p8] (.Name fld p9) p10]
def spIni (C : Addr) (fld : Str) : Sp := fun vs H Q _ => ∃ (a : Addr) (y : V), vs = [.ref a, y] ∧ H a = some (exo a C none) ∧ ∀ dx, H dx = none → dx ≠ a → Q .non (upd (upd H dx (exd dx [(fld, y)])) a (exo a C (some dx)))

section
variable {prog : Program} {w : World} {A : Around} {E : Value → Shared → Prop} {h : Heap} {g : Array GenState} {d : Drawn} {t : Nat} {os : OsState}
/-- the wrapper of ValueError.__init__ called -/
theorem call_bound {C e u t0 : Addr} {rest : List Value} {Q : Value → Shared → Prop} {nm q : Str} {N : Addr} {bs bm : List Value} {hdct : Bool} {sn : List Str} {sub : List Value} {ab : Bool} {col : Option Bool} {dd : Option Addr} {k0 k1 k2 k3 k5 : Option Value}
    (hC : h.get? C = some (excClassObj nm q C N bs bm hdct sn sub ab col dd k0 k1 k2 k3 k5 "ValueError.__new__")) (he : h.get? e = some (PySem.W.excObj C t0 none .none)) (hu : h.get? u = some (PySem.W.kxs_mw "ValueError.__init__" e)) (hz : rest.length ≤ sizeLine)
    (fin : ∀ h2 t2, (∀ b o, b ≠ e → h.get? b = some o → h2.get? b = some o) → h2.get? e = some (PySem.W.excObj C t2 none .none) → Q .none ⟨h2, g, d, t, os⟩) :
    wpAny (model prog w) A (call (.ref u) rest) Q E ⟨h, g, d, t, os⟩ := by
  refine wpAny_call (codeAny_of_tree ?_)
  show wpAny _ A.in1 (callAny (.ref u) ⟨rest, []⟩) _ _ _
  simp only [callAny]
  refine wpAny_bind (wpAny_load hu ?_)
  have hm : (Value.type "method-wrapper" == Value.type "method" || Value.type "method-wrapper" == Value.type "builtin_function_or_method" || Value.type "method-wrapper" == Value.type "method-wrapper") = true := by decide
  simp only [PySem.W.kxs_mw, hm, if_true]
  refine PySem.W.KFB.if_so (by decide) ?_
  have FB := F.excBase_ValueError
  refine wpAny_bind (PySem.W.check_bound_init FB.toExcCallFacts hC he rfl ?_)
  refine wpAny_bind (wpAny_pure (wpAny_pure ?_))
  refine ⟨plainId_quiet FB.init.plain _, codeAny_builtin FB.initEntry ?_⟩
  exact PySem.W.exc_init_tree (cls := .ref C) (t0 := t0) (dv := none) (c2 := .none) (c3 := .none) (b4 := .bool false) he hz fun h2 q1 q2 _ => fin h2 _ q1 q2
end

/-- a method's call on its own line -/
def plB (env : PySem.Env) : Sem Bool := do return (← importBound (.Call (.Name ("super" : Str) ⟨0, 0, 0, 0⟩) [] [] ⟨0, 0, 0, 0⟩) env).getD true
theorem mcall_eq {env : PySem.Env} {x : Str} {p1 p2 p3 p4 p5 : Pos} (hp : (p3.endLine == p5.line) = true) : eval (.Call (.Attribute (.Call (.Name ("super" : Str) p1) [] [] p2) ("__init__" : Str) p3) [.Name x p4] [] p5) env = (do
      let ov ← attributeBase (.Call (.Name ("super" : Str) p1) [] [] p2) ("__init__" : Str) env (eval (.Call (.Name ("super" : Str) p1) [] [] p2) env)
      standAt p3.atName
      let (f, first) ← holding [ov] (getMethod ov ("__init__" : Str) (plB env))
      callWith p5 f first (backTo p5 (starEach [.Name x p4] env)) []) := by
  rw [arm_eval_Call]
  have e1 : ∀ ov, methodCall (.Call (.Name ("super" : Str) p1) [] [] p2) ("__init__" : Str) p3 p5 env ov 1 (backTo p5 (starEach [.Name x p4] env)) (backToKw p5 (keywordEach [] env)) = (do
      let (f, first) ← holding [ov] (getMethod ov ("__init__" : Str) (plB env))
      callWith p5 f first (backTo p5 (starEach [.Name x p4] env)) []) := fun ov => by
    unfold methodCall
    have hf : methodCallForm 1 (backTo p5 (starEach [.Name x p4] env)) (backToKw p5 (keywordEach [] env)) = true := rfl
    rw [hf]
    have hq : methodCallPos true (.Call (.Name ("super" : Str) p1) [] [] p2) env p3 p5 = pure p5 := by
      unfold methodCallPos
      simp [hp]
    rw [hq]
    rfl
  show (attributeBase _ _ _ _ >>= fun ov => standAt _ >>= fun _ => methodCall _ _ _ _ _ ov 1 _ _) = _
  simp only [e1]
section
variable {P : Program} {w : World} {K : PySem.W.Frag} {mg : Str → Option Value} {base : Heap} {CX : CXT} {C fI : Addr} {fld : Str} {fd : FuncData} {scope : Scope} {p1 p2 p3 p4 p5 p6 p7 p8 p9 p10 : Pos}
theorem ini_ok (T : ErrK P K C fI fld (iniBody fld p1 p2 p3 p4 p5 p6 p7 p8 p9 p10) fd scope) (hs : iniScope scope fld = true) (hfs : ("self" : Str) ≠ fld) (hfd : (fld == ("__debug__" : Str)) = false) (hp : (p3.endLine == p5.line) = true) (k : Nat) : FnOk P w K mg base CX (k + 1) fI fd ["self", fld] (spIni C fld) := by
  obtain ⟨oc, od, osl, cc, cda, vs, ccl, cl, cdd, cld, ccs, csl, file, tf, lk, hbody, hscope, hclo, hglo, hblt, hcode, hpar, hcd, lcd, hv2, hfile, lcc⟩ := T.fn
  obtain ⟨n1, n2, n3, n4, n5, n6, n7, n8, n9, n10, n11, n12, n13, n14, n15⟩ := fd
  simp only at hbody hscope hclo hglo hblt hcode hpar hcd
  subst hbody hscope hclo hglo hblt hcode
  unfold iniScope at hs
  simp only [Bool.and_eq_true, beq_iff_eq, Bool.not_eq_true'] at hs
  obtain ⟨⟨⟨⟨⟨⟨⟨sc1, sc2⟩, sc3⟩, sc4⟩, sc5⟩, sc6⟩, sc7⟩, sc8⟩ := hs
  have sck : n5.kind = .function := by
    split at sc5
    · assumption
    · cases sc5
  refine ⟨fun vs H Q E h => by obtain ⟨a, y, rfl, _⟩ := h; rfl, fun A outer s H args us vs' Q E hr e0 hb r hsp => ?_⟩
  obtain ⟨a, y, rfl, ha, q⟩ := hsp
  cases r with
  | cons r1 r2 =>
    cases r2 with
    | cons r2 r3 =>
      cases r3
      rename_i u1 u
      obtain rfl : u1 = Value.ref a := r1
      have KX : K.In s.heap := e0.mod.kin.keeps fun b o e => (e0.bs b o e).1
      have lim : s.heap.NoLimit := e0.mod.nolimit.keeps fun b o e => (e0.bs b o e).1
      refine PySem.ks_codeAny_call_defAt hr.depth (KX _ _ lk) rfl lim (PySem.W.codeRec_of KX hcd) rfl hb ?_ ?_ (fun h0 ns0 keep0 => ?_) sc6 sc7 sck
      · intro x hx e
        have := List.all_eq_true.mp sc8 x hx
        rw [e] at this
        cases this
      · intro x hx
        rcases List.mem_cons.mp hx with rfl | hx
        · exact sc3
        · rcases List.mem_cons.mp hx with rfl | hx
          · exact sc4
          · cases hx
      obtain ⟨nm, qn, N, bs, bm, sn, sub, ab, col, dd, k0, k1, k2, k3, k5, hC, hbm⟩ := T.oex.cls
      have hcl : PySem.W.clsIn K C = some { name := nm, bases := bs, mro := .ref C :: bm, ns := N, qualname := qn, hasDict := true, slotNames := sn, subclasses := sub, abstract := ab, collection := col, hasDel := false } := by unfold PySem.W.clsIn; rw [hC] <;> rfl
      obtain ⟨t1, hoa⟩ := exo_at e0.hok ha
      have KX0 : K.In h0 := KX.keeps keep0
      have hoa0 := keep0 _ _ hoa
      have I0 : PySem.W.InstAt h0 a (PySem.W.excObj C t1 none .none) C none := ⟨hoa0, rfl, rfl, trivial⟩
      have base0 : ∀ b o, base.get? b = some o → h0.get? b = some o := fun b o e => keep0 b o (e0.bs b o e).1
      obtain ⟨mb, nsb, hmb⟩ := e0.mod.blt
      have lself : (fun x => ([(("self" : Str), Value.ref a), (fld, u)] : List (Str × Value)).reverse.lookup x) "self" = some (.ref a) := by
        have e : (("self" : Str) == fld) = false := by simpa using hfs
        simp [List.lookup, e]
      have lfld : (fun x => ([(("self" : Str), Value.ref a), (fld, u)] : List (Str × Value)).reverse.lookup x) fld = some u := by
        simp [List.lookup]
      generalize hm0 : (fun x => ([(("self" : Str), Value.ref a), (fld, u)] : List (Str × Value)).reverse.lookup x) = m0 at lself lfld
      have ns0' : h0.Ns s.heap.objs.size m0 := by rw [← hm0]; exact ns0
      obtain ⟨ar, har, harn⟩ := Option.map_eq_some_iff.mp hpar
      have hint : interactive (callEnv ⟨n1, n2, n3, .stmts (iniBody fld p1 p2 p3 p4 p5 p6 p7 p8 p9 p10), n5, mainGlobals, [(("__class__" : Str), cc)], n8, n9, n10, n11, n12, .ref cda, n14, builtinsNs⟩ s.heap.objs.size fI) = false := by
        show (n5.kind == .module && _) = false
        rw [sck]; rfl
      refine PySem.ks_wpAt_execs_cons (PySem.ks_wpAt_Expr_any (PySem.ks_wpAt_MethodCall (PySem.ks_wpAt_super_base (env := callEnv ⟨n1, n2, n3, .stmts (iniBody fld p1 p2 p3 p4 p5 p6 p7 p8 p9 p10), n5, mainGlobals, [(("__class__" : Str), cc)], n8, n9, n10, n11, n12, .ref cda, n14, builtinsNs⟩ s.heap.objs.size fI) sc1 sc2 (by decide) rfl (KX0 _ _ lk) rfl har rfl (KX0 _ _ lcd) rfl hv2 hfile T.top ?_) (mcall_eq hp)) hint)
      rw [harn]
      have nsg : h0.Ns mainGlobals mg := e0.mod.glob.keeps base0
      have nsup : mg "super" = none := PySem.W.mg_none_of e0.mod.kin e0.mod.glob T.sup
      refine PySem.W.ks_loadName_global sck sc1 (PySem.Calls.loadGlobal_builtin nsg nsup (nsb.keeps base0) ((hmb _ (by decide +kernel)).trans (by decide +kernel)) ⟨rfl, ?_⟩)
      refine wpAny_loadName_free sck sc2 rfl ⟨_, KX0 _ _ lcc, rfl⟩ ?_
      refine wpAny_loadName_local sck sc3 ns0' lself ?_
      refine PySem.ks_wpAny_isType_cls (KX0 _ _ hC) rfl ⟨rfl, ?_⟩
      refine PySem.ks_wpAny_call_super (KX0 _ _ hC) rfl I0.at_ I0.cls (fun c e => by cases e) (PySem.W.looks_mroIn KX0 T.sub) (fun h1 so1 keep1 => ?_)
      have KX1 : K.In h1 := KX0.keeps keep1
      have I1 : PySem.W.InstAt h1 a (PySem.W.excObj C t1 none .none) C none := ⟨keep1 _ _ hoa0, rfl, rfl, trivial⟩
      have along := T.along
      unfold PySem.W.ks_superIn at along
      rw [hcl] at along
      refine PySem.W.kxs_getMethod PySem.W.kxs_ValueError so1 (PySem.W.looks_opaque KX1 T.opq) (l₀ := .ref C :: bm) (fun A Q E s k q => wpAny_bind ((PySem.W.looks_clsIn KX1 hcl) A _ E s k (wpAny_pure q))) rfl KX1 along (I1.type.andThen (PySem.W.looks_subIn KX1 T.ve)) (PySem.W.ks_ne KX1 I1 hcl) (by decide) ?_
      have hmw : (h1.push (PySem.W.kxs_mw "ValueError.__init__" a)).get? h1.objs.size = some (PySem.W.kxs_mw "ValueError.__init__" a) := Heap.get?_push_size _ rfl
      have keep2 : ∀ b o, h0.get? b = some o → (h1.push (PySem.W.kxs_mw "ValueError.__init__" a)).get? b = some o := fun b o e => Heap.get?_push_of_some _ (keep1 b o e)
      have ns2 := ns0'.keeps keep2
      refine PySem.W.kxs_callWith (i := "ValueError.__init__") (x := a) rfl ?_
      refine PySem.Calls.evalArgs_plain ?_
      show wpAny _ _ (spliced ((false, eval (.Name fld p4) _) :: [])) _ _ _
      refine PySem.Calls.spliced_cons (wpAny_Name (wpAny_loadName_local sck sc4 ns2 lfld ?_) hfd)
      refine PySem.Calls.spliced_nil ⟨hmw, ?_⟩
      refine call_bound (keep2 _ _ (KX0 _ _ hC)) (keep2 _ _ hoa0) hmw (by rw [sizeLine_eq]; show 1 ≤ _; omega) fun h3 t3 keep3 he3 => ?_
      have keep4 : ∀ b o, b ≠ a → h0.get? b = some o → h3.get? b = some o := fun b o n e => keep3 b o n (keep2 b o e)
      show PySem.wpAt _ _ _ (execs [.Assign [.Attribute (.Name "self" p7) fld p8] (.Name fld p9) p10] _) _ _ _
      have nL : s.heap.objs.size ≠ a := fun z => absurd (Heap.lt_size hoa) (by rw [← z]; exact Nat.lt_irrefl _)
      have ns3 : h3.Ns s.heap.objs.size m0 := by
        obtain ⟨o, es, ep, e1, e2⟩ := ns2
        exact ⟨o, es, ep, keep3 _ _ nL e1, e2⟩
      refine PySem.ks_wpAt_execs_cons (PySem.ks_wpAt_Assign_Attr (PySem.wpAt_of_wpAny (wpAny_Name (wpAny_loadName_local sck sc4 ns3 lfld ?_) hfd)))
      refine wpAny_Name (wpAny_loadName_local sck sc3 ns3 lself ?_) (by decide)
      have nK : ∀ {b : Addr} {o : Obj}, K.lookup b = some o → b ≠ a := fun {b o} e z => by
        have z2 := (e0.bs b o (e0.mod.kin b o e)).2
        rw [z, ha] at z2
        cases z2
      have KX3 : K.In h3 := fun b o e => keep4 b o (nK e) (KX0 b o e)
      refine PySem.W.set_plain KX3 (ox := PySem.W.excObj C t3 none .none) (od := none) ⟨he3, rfl, rfl, trivial⟩ T.oex.sa ?_
      refine PySem.HandSPX.exc_osa KX3 he3 hcl (show PySem.HandSPX.refsVE (.ref C :: bm) = true from hbm) rfl T.noat (fun h4 t4 dx k4 dn dne hx4 hn4 => ?_)
      show PySem.wpAt _ _ _ (pure Flow.next) _ _ _
      refine PySem.wpAt_of_wpAny (wpAny_pure ?_)
      show CE outer P w H s Q Value.none _
      have kall : ∀ b o, b ≠ a → s.heap.get? b = some o → h4.get? b = some o := fun b o n e => k4 b o n (keep4 b o n (keep0 b o e))
      have ldx : s.heap.objs.size ≤ dx := by
        obtain ⟨o, es, ep, e1, e2⟩ := ns3
        exact Nat.le_trans (Nat.le_of_lt (Heap.lt_size e1)) dn
      have hnd : H dx = none := e0.hok.fresh ldx
      have nd : ∀ {b : Addr} {o : Obj}, s.heap.get? b = some o → b ≠ dx := fun {b o} e => Nat.ne_of_lt (Nat.lt_of_lt_of_le (Heap.lt_size e) ldx)
      have na : ∀ {b : Addr}, H b = none → b ≠ a := fun {b} n z => by
        rw [z, ha] at n
        cases n
      have U : Un (frs outer) [] H (upd (upd H dx (exd dx [(fld, y)])) a (exo a C (some dx))) s.heap h4 := {
        keep := fun b o e n _ _ => kall b o (na n) e
        slot := fun b o e n _ _ => ⟨o.slots, kall b o (na n) e⟩
        free := fun b o e n _ => by rw [upd_ne (na n), upd_ne (nd e)]; exact n
        there := fun b o e _ => by
          by_cases hb : b = a
          · subst hb; exact ⟨_, hx4⟩
          · exact ⟨o, kall b o hb e⟩
        tups := fun b xs e => by rw [upd_ne (at_ne ha e exo_tup), upd_ne (ne_of_none e hnd)]; exact e
        frzs := fun b o v e => by rw [upd_ne (at_ne ha e exo_frz), upd_ne (ne_of_none e hnd)]; exact e
        tbls := fun b ps e => ⟨#[], by rw [upd_ne (at_ne ha e exo_tbl), upd_ne (ne_of_none e hnd), e]; simp⟩ }
      refine ⟨.non, _, rfl, e0.bare, U, fun b o e => ?_, rfl, q dx hnd dne⟩
      by_cases hb : b = a
      · subst hb
        rw [upd_same] at e
        cases e
        exact exo_ok hx4
      · rw [upd_ne hb] at e
        by_cases hd : b = dx
        · subst hd
          rw [upd_same] at e
          cases e
          exact exd_ok hn4 (relO_put (fs := []) r2 fun g => True.intro)
        · rw [upd_ne hd] at e
          refine (e0.hok b o e).stay (fun c v hc z => kall c v ?_ z) (fun c hc => ?_) (fun c xs hc => ?_)
          · rcases hc with hc | hc
            · rw [hc]; exact hb
            · exact at_ne ha hc exo_own
          · rw [upd_ne (at_ne ha hc exo_own), upd_ne (ne_of_none hc hnd)]; exact hc
          · rw [upd_ne (at_ne ha hc exo_tup), upd_ne (ne_of_none hc hnd)]; exact hc
end
end Gb

/-! A tuple from its end: t[::-1]. -/
namespace Gb
open PySem PySem.Spec PyProof.Rows L2 HT
section
variable {prog : Program} {w : World} {A : Around} {E : Value → Shared → Prop} {s : Shared}
theorem applied_rev {sl : Addr} {vl vu vs : Value} {n : Nat} {Q : Int × Int × Nat → Shared → Prop} (hs : s.heap.IsSliceOf sl vl vu vs) (pl : IsPart vl none) (pu : IsPart vu none) (ps : IsPart vs (some (-1)))
    (h : Q ((n : Int) - 1, -1, n) s) : wpAny (model prog w) A (Builtin.Slice.sliceApplied (.ref sl) (pure (n : Int))) Q E s := by
  obtain ⟨os, hos, hcs, hds⟩ := id hs
  unfold Builtin.Slice.sliceApplied Builtin.Slice.sliceFields
  refine wpAny_bind (wpAny_bind (wpAny_field hos hds (x := vl) rfl (wpAny_bind (wpAny_field hos hds (x := vu) rfl (wpAny_bind (wpAny_field hos hds (x := vs) rfl (wpAny_pure ?_)))))))
  refine wpAny_bind (slicePart_ ps ?_)
  show wpAny _ _ (if ((-1 : Int) == 0) = true then _ else _) _ _ s
  rw [if_neg (by decide)]
  refine wpAny_bind (slicePart_ pl (wpAny_bind (slicePart_ pu (wpAny_bind (wpAny_pure ?_)))))
  have e : Builtin.Slice.slicePlaces ((n : Int) - 1) (-1) (-1) = n := by
    unfold Builtin.Slice.slicePlaces
    rw [if_neg (by decide)]
    by_cases h0 : n = 0
    · subst h0; rfl
    · rw [if_pos (by omega), show -(-1 : Int) = 1 from rfl, Int.ediv_one]
      omega
  show wpAny _ _ (pure ((n : Int) - 1, (-1 : Int), Builtin.Slice.slicePlaces ((n : Int) - 1) (-1) (-1))) _ _ s
  rw [e]
  exact wpAny_pure h
theorem fm_congr {α β : Type} {f g : α → Option β} : ∀ {l : List α}, (∀ x ∈ l, f x = g x) → l.filterMap f = l.filterMap g
  | [], _ => rfl
  | x :: l, h => by
    have ih := fm_congr (l := l) fun y hy => h y (List.mem_cons_of_mem _ hy)
    rw [List.filterMap_cons, List.filterMap_cons, h x List.mem_cons_self, ih]
theorem fm_self {α : Type} : ∀ l : List α, (List.range l.length).filterMap (fun m => l[m]?) = l
  | [] => rfl
  | a :: l => by
    have h0 : (fun m => (a :: l)[m]?) 0 = some a := rfl
    rw [List.length_cons, List.range_succ_eq_map, List.filterMap_cons_some h0, List.filterMap_map]
    congr 1
    exact fm_self l
theorem pick_rev (xs : Array Value) : ((List.range xs.size).filterMap fun (m : Nat) => xs[((xs.size : Int) - 1 + (m : Int) * -1).toNat]?).toArray = xs.toList.reverse.toArray := by
  congr 1
  have e : (List.range xs.size).filterMap (fun (m : Nat) => xs[((xs.size : Int) - 1 + (m : Int) * -1).toNat]?) = (List.range xs.size).filterMap (fun m => xs.toList.reverse[m]?) := by
    refine fm_congr fun m hm => ?_
    rw [List.mem_range] at hm
    have h1 : ((xs.size : Int) - 1 + (m : Int) * -1).toNat = xs.size - 1 - m := by omega
    rw [h1, List.getElem?_reverse (by simpa using hm)]
    simp
  rw [e]
  have := fm_self xs.toList.reverse
  rw [List.length_reverse, Array.length_toList] at this
  exact this
theorem getItem_tuple_rev {t sl : Addr} {items : Array Value} {vl vu vs : Value} {Q : Value → Shared → Prop} (ht : IsTup s.heap t items) (hs : s.heap.IsSliceOf sl vl vu vs) (pl : IsPart vl none) (pu : IsPart vu none) (ps : IsPart vs (some (-1)))
    (h : Q (.ref s.heap.objs.size) { s with heap := s.heap.push { cls := .type "tuple", data := .seq items.toList.reverse.toArray } })
    (hsz : items.size ≤ sizeLine) : wpAny (model prog w) A (getItem (.ref t) (.ref sl)) Q E s := by
  have htake : sizeOk (.seq items.toList.reverse.toArray) := by
    show items.toList.reverse.toArray.size ≤ sizeLine
    rw [List.size_toArray, List.length_reverse, Array.length_toList]
    exact hsz
  obtain ⟨os, hos, hcs, hds⟩ := id hs
  have hTs : s.TypeIs (.ref sl) "slice" := ⟨os, hos, hcs⟩
  unfold getItem
  try with_reducible refine wpAny_holding ?_
  first | refine wpAny_bind (wpAny_pure ?_) | skip
  refine wpAny_bind (wpAny_sequenceKey ht.typeIs (by decide) ?_)
  refine wpAny_bind (wpAny_callSpecial?_slot (name := Str.ofString "__getitem__") ht.typeIs PyProof.Rows.slot_tuple_getitem
    (wpAny_call_entry PyProof.Rows.slot_tuple_getitem ht.typeIs entry_tuple_getitem ?_ (args_tuple_getitem _ _)))
  show wpAny _ _ (Builtin.Tuple.tupleItemsOf (.ref t) >>= _) _ _ s
  refine wpAny_bind (tupleItemsOf_ ht ?_)
  refine wpAny_bind (wpAny_typeOf hTs ?_)
  rw [if_pos (by decide)]
  refine wpAny_bind (applied_rev hs pl pu ps ?_)
  have hno : ¬ ((((items.size : Int) - 1) == 0 && (-1 : Int) == 1 && items.size == items.size) = true) := by
    intro q
    rw [Bool.and_eq_true, Bool.and_eq_true] at q
    exact absurd q.1.2 (by decide)
  show wpAny _ _ (if (((items.size : Int) - 1) == 0 && (-1 : Int) == 1 && items.size == items.size) = true then _ else _) _ _ s
  rw [if_neg hno, pick_rev]
  first
    | exact wpAny_bind (m := Builtin.Tuple.tupleExact _) (wpAny_newObj_type (wpAny_pure ⟨_, rfl, wpAny_pure h⟩) htake)
    | exact wpAny_bind (m := Builtin.Tuple.tupleExact _) (wpAny_newObj_type (wpAny_bind (wpAny_pure (wpAny_pure ⟨_, rfl, wpAny_pure h⟩))) htake)
    | exact wpAny_bind (wpAny_bind (m := Builtin.Tuple.tupleExact _) (wpAny_newObj_type (wpAny_pure (wpAny_pure ⟨_, rfl, wpAny_pure h⟩)) htake))
    | exact wpAny_bind (wpAny_bind (m := Builtin.Tuple.tupleExact _) (wpAny_newObj_type (wpAny_pure ⟨_, rfl, wpAny_pure h⟩) htake))
end
def tRevT (K : PySem.W.Frag) (te : TE) : TE := fun σ H Q => te σ H fun x H1 => ∃ a xs, x = .ref a ∧ SqT K H1 a xs ∧ ∀ p, H1 p = none → Q (.ref p) (upd H1 p (.tup xs.reverse))
theorem pe_revT {X : Cx} {e : Expr} {te : TE} {k : Nat} {p1 p2 p3 pos : Pos} (he : PE X e te) : PE X (.Subscript e (.Slice none none (some (.UnaryOp .USub (.Constant (.int 1) k p1) p2)) p3) pos) (tRevT X.K te) := by
  refine ⟨fun pins s σ H Q I h => ?_⟩
  refine Subscript_ (thn (he.run pins s σ H _ I h) fun v s1 ⟨x, H1, I1, r1, q1⟩ => ?_)
  obtain ⟨a, xs, ex, hx, q⟩ := q1
  subst ex
  cases r1
  have hst : PO X (some (.UnaryOp .USub (.Constant (.int 1) k p1) p2)) (tPart (tUn (rU fun i => .int (-i)) (tC (.int 1)))) := po_some (pe_un un_neg pe_int)
  refine wpAny_Slice (thn (po_none.run pins s1 σ H1 (fun o H2 => o = none ∧ H2 = H1) I1 ⟨rfl, rfl⟩) fun vl s2 ⟨l, H2, I2, pl, el, e2⟩ => ?_)
  subst el e2
  refine thn (po_none.run pins s2 σ H2 (fun o H3 => o = none ∧ H3 = H2) I2 ⟨rfl, rfl⟩) fun vu s3 ⟨u, H3, I3, pu, eu, e3⟩ => ?_
  subst eu e3
  refine thn (hst.run pins s3 σ H3 (fun o H4 => o = some (-1) ∧ H4 = H3) I3 ⟨1, rfl, -1, rfl, rfl, rfl⟩) fun vs s4 ⟨o, H4, I4, ps, eo, e4⟩ => ?_
  subst eo e4
  have I5 : Inv X pins σ H4 { s4 with heap := s4.heap.push { cls := .type "slice", data := .fields #[vl, vu, vs] } } := I4.kept (t' := s4.toks) fun b ob q => Heap.get?_push_of_some _ q
  obtain ⟨its, r, ht, hz⟩ := I5.tuple hx
  have hlen := r.length
  show wpAny (model X.prog X.w) X.A (subscriptTail e (.Slice none none (some (.UnaryOp .USub (.Constant (.int 1) k p1) p2)) p3) (.ref a) (.ref s4.heap.objs.size)) (EP X pins σ Q) X.xe { s4 with heap := s4.heap.push { cls := .type "slice", data := .fields #[vl, vu, vs] } }
  refine tail_any (ops := [.ref a, .ref s4.heap.objs.size]) ht.typeIs (PyProof.Rows.slot_tuple_getitem.lookup) ?_ (by with_unfolding_all rfl)
  refine getItem_tuple_rev ht (Heap.IsSliceOf.new _ vl vu vs) pl pu ps ?_ (by rw [List.size_toArray]; omega)
  refine ⟨.ref _, _, I5.laid (t' := s4.toks) (o := .tup xs.reverse) (fun b ob q => Heap.get?_push_of_some _ q) (Nat.le_refl _) ?_, rfl, q _ (I5.hok.fresh (Nat.le_refl _))⟩
  exact ⟨by rw [List.length_reverse]; exact hz, _, r.reverse, IsTup.new _ _⟩
end Gb

/-! Expressions: the checked core text says what the row's expression does. -/
namespace Gb
open PySem PySem.Spec PyProof.Rows L2

/-! ### readings -/
section
variable (K : PySem.W.Frag) (Y : ExT) (call : CallF)
def tD (c : E) (W : XK) : TE := fun σ H Q => ∃ F φ ρ st, Base K F φ st H ∧ EnvOk K F φ ρ σ H ∧ Post K Y W F φ H (evE call c ρ st) (RQ K H Q)
def tT (c : E) (W : XK) : TT := fun σ H Q => ∃ F φ ρ st, Base K F φ st H ∧ EnvOk K F φ ρ σ H ∧ Post K Y W F φ H ((evE call c ρ st).bind fun d st => lift (truD d) st) (fun b _ _ _ H' => Q b H')
/-- not a list that may still be changed -/
def notM : D → Bool
  | .mls _ => false
  | .fls _ => false
  | _ => true
def RA (K : PySem.W.Frag) (Q : List V → Hp → Prop) : RT (List D) := fun ds _ F' φ' H' => ∀ vs, RepXs K F' φ' H' ds vs → ds.all notM = true → Q vs H'
def RB (K : PySem.W.Frag) (Q : List V → Hp → Prop) : RT (List D) := fun ds _ F' φ' H' => ∀ vs, RepXs K F' φ' H' ds vs → Q vs H'
def RS (K : PySem.W.Frag) (Q : List V → Hp → Prop) : RT (List D) := fun ds _ F' _ H' => ∀ vs, Reps K F' ds vs → Q vs H'
def tA (c : E) (W : XK) : TA := fun σ H Q => ∃ F φ ρ st, Base K F φ st H ∧ EnvOk K F φ ρ σ H ∧ Post K Y W F φ H (evA call c ρ st) (RA K Q)
def tBs (c : E) (W : XK) : TA := fun σ H Q => ∃ F φ ρ st, Base K F φ st H ∧ EnvOk K F φ ρ σ H ∧ Post K Y W F φ H (evs' call c ρ st) (RB K Q)
def tSs (c : E) (W : XK) : TA := fun σ H Q => ∃ F φ ρ st, Base K F φ st H ∧ EnvOk K F φ ρ σ H ∧ Post K Y W F φ H (evs call c ρ st) (RS K Q)
/-- what is walked gives these items, as long as what is frozen stays -/
structure WalkD (F : Hp) (J : It) (ds : List D) : Prop where
  go : ∀ i H', (∀ a o, F a = some o → H' a = some o) → i < ds.length → J.go i H'
  stop : ∀ H', (∀ a o, F a = some o → H' a = some o) → J.stop ds.length H'
  yld : ∀ i H' x H'', (∀ a o, F a = some o → H' a = some o) → i < ds.length → J.yld i H' x H'' →
    ∃ d, ds[i]? = some d ∧ ((H'' = H' ∧ Rep K F d x) ∨ ∃ T vs xs, x = .ref T ∧ H' T = none ∧ H'' = upd H' T (.tup vs) ∧ d = .tup xs ∧ Reps K F xs vs)
def tI (c : E) (W : XK) : TI := fun σ H R => ∃ F φ ρ st, Base K F φ st H ∧ EnvOk K F φ ρ σ H ∧ Post K Y W F φ H (evI call c ρ st) (fun ds _ F' _ H' => ∀ J, WalkD K F' J ds → R J H')
/-- a def's promise: what the evaluator says -/
def spD (f : Nat) : Sp := fun vs H Q W => ∃ F φ st ds, Base K F φ st H ∧ RepXs K F φ H ds vs ∧ ds.all notM = true ∧ Post K Y W F φ H (call f ds st) (RQ K H Q)
end

/-! ### the context -/
def permV (ws : List Value) : List Nat → Option (List Value)
  | [] => some []
  | i :: r => match ws[i]?, permV ws r with
    | some d, some ds' => some (d :: ds')
    | _, _ => none
structure Prg (P : Program) (w : World) (K : PySem.W.Frag) (mg : Str → Option Value) (base : Heap) (Y : ExT) (call : CallF) (G : Glob) (k : Nat) : Prop where
  bi : ∀ x ∈ builtins, mg x = none
  cst : ∀ x i, (x, i) ∈ G.x.cst → ∃ t, mg x = some (.int i t)
  cstS : ∀ x i, (x, i) ∈ G.x.cstS → ∃ t, mg x = some (.str i t)
  er : ∀ c x fld, (c, x, fld) ∈ G.x.ers → ∃ C fI fd j, ErrU K mg Y c x C fld ∧ OexC K C ∧ k = j + 2 ∧ PySem.W.findIn K (.ref C) "__init__" = some (some (.ref fI)) ∧ PySem.W.typeIn K (.ref fI) = some (.type "function") ∧
    FnOk P w K mg base (L2.CX P w) (j + 1) fI fd ["self", fld] (spIni C fld) ∧ Binds K fd ["self", fld] []
  fn : ∀ f x ps, G.fn f = some (x, ps) → ∃ a fd, mg x = some (.ref a) ∧ PySem.W.keepIn K (.ref a) = true ∧ FnOk P w K mg base (L2.CX P w) k a fd ps (spD K Y call f) ∧ Binds K fd ps [] ∧
    ∀ ks perm, (f, ks, perm) ∈ G.kw → ∀ (s : Shared) (ws us : List Value), K.In s.heap → ws.length = ks.length → permV ws perm = some us → us.length = ps.length → BindsTo s fd ⟨[], ks.zip ws⟩ (ps.zip us)
structure Good (Y : ExT) (call : CallF) (G : Glob) (k : Nat) (W : XK) (sc raw : Scope) (N : List Str) (X : L2.Cx) : Prop where
  prg : Prg X.prog X.w X.K X.mg X.base Y call G k
  scope : X.env.scope = sc
  names : X.N = N
  nd : N.Nodup
  calm : X.calm = true
  room : Room k X.A
  fnr : ∀ x, raw.names.lookup x = some .cell → X.fn x = true
  pass : Passes (L2.CX X.prog X.w) X W

theorem PE.imp {X : L2.Cx} {e : Expr} {t t' : TE} (h : PE X e t) (i : ∀ σ H Q, t' σ H Q → t σ H Q) : PE X e t' := ⟨fun pins s σ H Q I q => h.run pins s σ H Q I (i σ H Q q)⟩
theorem PT.imp {X : L2.Cx} {e : Expr} {t t' : TT} (h : PT X e t) (i : ∀ σ H Q, t' σ H Q → t σ H Q) : PT X e t' := ⟨fun pins s σ H Q I q => h.run pins s σ H Q I (i σ H Q q)⟩
theorem PA.imp {X : L2.Cx} {e : List Expr} {t t' : TA} (h : PA X e t) (i : ∀ σ H Q, t' σ H Q → t σ H Q) : PA X e t' := ⟨fun pos pins s σ H Q I q => h.run pos pins s σ H Q I (i σ H Q q)⟩
theorem PI.imp {X : L2.Cx} {tg e : Expr} {t t' : TI} (h : PI X tg e t) (i : ∀ σ H Q, t' σ H Q → t σ H Q) : PI X tg e t' := ⟨fun pins s σ H Q I q => h.run pins s σ H Q I (i σ H Q q)⟩
theorem PS.imp {X : L2.Cx} {e : Stmt} {t t' : TS} (h : PS X e t) (i : ∀ D σ H, t' D σ H → t D σ H) : PS X e t' := ⟨fun pins s σ H D I q => h.run pins s σ H D I (i D σ H q)⟩
theorem PSs.imp {X : L2.Cx} {e : List Stmt} {t t' : TS} (h : PSs X e t) (i : ∀ D σ H, t' D σ H → t D σ H) : PSs X e t' := ⟨fun pins s σ H D I q => h.run pins s σ H D I (i D σ H q)⟩

theorem Post.monoF {K : PySem.W.Frag} {Y : ExT} {W : XK} {F : Hp} {φ : List Addr} {H : Hp} {α : Type} {o : Out α} {R R' : RT α} (p : Post K Y W F φ H o R)
    (h : ∀ a st' F' φ' H', Step F φ H F' φ' H' → Base K F' φ' st' H' → (∀ F2 φ2 H2, Step F φ H F2 φ2 H2 → Base K F2 φ2 st' H2 → R a st' F2 φ2 H2) → R' a st' F' φ' H') : Post K Y W F φ H o R' := by
  cases o with
  | ok a st => exact fun F' φ' H' s b => h _ _ _ _ _ s b fun F2 φ2 H2 s2 b2 => p F2 φ2 H2 s2 b2
  | ex x st => exact p
  | bad => exact p

theorem Rep.x {K : PySem.W.Frag} {F : Hp} {φ : List Addr} {H : Hp} {d : D} {v : V} (r : Rep K F d v) : RepX K F φ H d v := by cases d <;> first | exact r | cases r
theorem Rep.nofls {K : PySem.W.Frag} {F : Hp} {d : D} {v : V} (r : Rep K F d v) : ∀ xs, d ≠ .fls xs := fun xs e => by subst e; cases r
/-! ### freezing -/
section
variable {K : PySem.W.Frag} {F F1 : Hp} {φ φ1 : List Addr} {H H1 : Hp} {st1 : Store} {x d : D} {v : V}
theorem frz_of (e : frzD x = some d) (r : RepX K F1 φ1 H1 x v) (f : Fresh H x v) (B : Base K F1 φ1 st1 H1) (S : Step F φ H F1 φ1 H1) :
    ∃ F2, Step F φ H F2 φ1 H1 ∧ Base K F2 φ1 st1 H1 ∧ RepX K F2 φ1 H1 d v ∧ notM d = true := by
  cases x with
  | mls xs => cases e
  | fls xs =>
    cases e
    obtain ⟨a, vs, rfl, e2, e3, e4, e5⟩ := r
    exact ⟨upd F1 a (.lst vs), S.frz e4 (f a rfl), B.frz e4 e2 e5, Rep.lst upd_same (e3.mono (sub_updF e4)), rfl⟩
  | _ => cases e; exact ⟨F1, S, B, r, rfl⟩
theorem pur_of (e : purD x = some d) (r : RepX K F1 φ1 H1 x v) (f : Fresh H x v) (B : Base K F1 φ1 st1 H1) (S : Step F φ H F1 φ1 H1) :
    ∃ F2, Step F φ H F2 φ1 H1 ∧ Base K F2 φ1 st1 H1 ∧ Rep K F2 d v := by
  cases x with
  | mls xs => cases e
  | box xs => cases e
  | fls xs =>
    cases e
    obtain ⟨a, vs, rfl, e2, e3, e4, e5⟩ := r
    exact ⟨upd F1 a (.lst vs), S.frz e4 (f a rfl), B.frz e4 e2 e5, Rep.lst upd_same (e3.mono (sub_updF e4))⟩
  | _ => cases e; exact ⟨F1, S, B, r⟩
end

/-! ### syntax -/
section
variable {env : PySem.Env}
theorem star_ne {e : Expr} {es : List Expr} (h : isStarE e = false) : starEach (e :: es) env = (false, eval e env) :: starEach es env := by
  cases e <;> first | rfl | cases h
theorem star_no : ∀ {es : List Expr} {pos : Pos}, (∀ e ∈ es, isStarE e = false) → (backTo pos (starEach es env)).any (·.1) = false
  | [], _, _ => rfl
  | e :: es, pos, h => by
    rw [star_ne (h e List.mem_cons_self)]
    have ih := star_no (es := es) (pos := pos) fun x hx => h x (List.mem_cons_of_mem _ hx)
    unfold backTo at ih ⊢
    rw [List.map_cons, List.any_cons, ih]
    rfl
theorem set_ne {e : Expr} {x : Value} (h : isSetE e = false) : foldedSetIterable e env x = pure x := by
  cases e <;> first | rfl | cases h
end
theorem mark_ne {op : CmpOp} {e : Expr} (h : isSetE e = false) : behindInMarks op e = false := by
  cases e <;> first | rfl | cases h
theorem vis_of {sc : Scope} {x : Str} (h : visB sc x = true) : Vis sc x := by
  unfold visB at h
  split at h <;> first | exact .inl (by assumption) | exact .inr (.inl (by assumption)) | exact .inr (.inr (by assumption)) | cases h
theorem loc_of {sc : Scope} {x : Str} (h : locB sc x = true) : Loc sc x := by
  unfold locB at h
  split at h <;> first | exact .inl (by assumption) | exact .inr (by assumption) | cases h
theorem lcl_of {sc : Scope} {x : Str} (h : lclB sc x = true) : sc.names.lookup x = some .local := by
  unfold lclB at h
  split at h <;> first | assumption | cases h
theorem glb_of {sc : Scope} {x : Str} (h : glbB sc x = true) : sc.names.lookup x = some .globalImplicit := by
  unfold glbB at h
  split at h <;> first | assumption | cases h
theorem slot_of {N : List Str} {i : Nat} {x : Str} (h : slotB N i x = true) : N[i]? = some x := by
  unfold slotB at h
  split at h
  · rename_i y e
    rw [beq_iff_eq] at h
    rw [e, h]
  · cases h
theorem dbg_of {x : Str} (h : noDbg x = true) : (x == ("__debug__" : Str)) = false ∧ (x == ("__classdict__" : Str)) = false := by
  unfold noDbg at h
  simpa using h

section
variable {Y : ExT} {call : CallF} {G : Glob} {k : Nat} {W : XK} {sc raw : Scope} {N : List Str} {X : L2.Cx}

theorem Good.gl (g : Good Y call G k W sc raw N X) {x : Str} (h : glbB sc x = true) : Gl X x := by
  have e := glb_of h
  rw [← g.scope] at e
  exact e

theorem s_var {i : Nat} {e : Expr} (g : Good Y call G k W sc raw N X) (h : chkE G N sc raw (.var i) e = true) : PE X e (tD X.K Y call (.var i) W) := by
  unfold chkE at h
  split at h
  · simp only [Bool.and_eq_true] at h
    obtain ⟨⟨h1, h2⟩, h3⟩ := h
    refine PE.imp (pe_var (i := i) (by rw [g.names]; exact slot_of h1) (by rw [g.scope]; exact vis_of h2) (dbg_of h3).1 (dbg_of h3).2) fun σ H Q ⟨F, φ, ρ, st, B, V, p⟩ => ?_
    unfold evE at p
    obtain ⟨d, e, p2⟩ := p.of_lift
    obtain ⟨o, e1, e2⟩ := Option.bind_eq_some_iff.mp e
    cases e2
    obtain ⟨nf, v, hv, rv⟩ := V.at_ i d e1
    exact ⟨v, hv, p2.now B v rv (by cases d with | fls xs => exact absurd rfl (nf xs) | _ => trivial)⟩
  · cases h
theorem s_con {d : D} {e : Expr} (h : chkE G N sc raw (.con d) e = true) : PE X e (tD X.K Y call (.con d) W) := by
  unfold chkE conB at h
  split at h
  · exact PE.imp pe_non fun σ H Q ⟨F, φ, ρ, st, B, V, p⟩ => end_rep p B Rep.non fun _ h => nomatch h
  · rw [beq_iff_eq] at h; subst h
    exact PE.imp pe_bl fun σ H Q ⟨F, φ, ρ, st, B, V, p⟩ => end_bl p B
  · rw [beq_iff_eq] at h; subst h
    exact PE.imp pe_int fun σ H Q ⟨F, φ, ρ, st, B, V, p⟩ => end_int p B
  · rw [beq_iff_eq] at h; subst h
    exact PE.imp pe_str fun σ H Q ⟨F, φ, ρ, st, B, V, p⟩ => end_str p B
  · cases h

theorem s_globI {x : Str} {i : Int} {p : Pos} (g : Good Y call G k W sc raw N X) (h1 : glbB sc x = true) (h2 : noDbg x = true) (h3 : (x, i) ∈ G.x.cst) : PE X (.Name x p) (tD X.K Y call (.glob x (.int i)) W) := by
  obtain ⟨t, ht⟩ := g.prg.cst x i h3
  exact PE.imp (pe_glob (v := .int i) (g.gl h1) ht ⟨t, rfl⟩ (dbg_of h2).1) fun σ H Q ⟨F, φ, ρ, st, B, V, p⟩ => end_int p B
theorem s_globS {x : Str} {i : Str} {p : Pos} (g : Good Y call G k W sc raw N X) (h1 : glbB sc x = true) (h2 : noDbg x = true) (h3 : (x, i) ∈ G.x.cstS) : PE X (.Name x p) (tD X.K Y call (.glob x (.str i)) W) := by
  obtain ⟨t, ht⟩ := g.prg.cstS x i h3
  exact PE.imp (pe_glob (v := .str i) (g.gl h1) ht ⟨t, rfl⟩ (dbg_of h2).1) fun σ H Q ⟨F, φ, ρ, st, B, V, p⟩ => end_str p B
/-- one operand, then the rest -/
theorem one_of {α : Type} {c : E} {f : D → Store → Out α} {R : RT α} {σ : L2.St} {H : Hp} {F : Hp} {φ : List Addr} {ρ : Env} {st : Store} {K : PySem.W.Frag} {Q : VK} (B : Base K F φ st H) (V : EnvOk K F φ ρ σ H)
    (p : Post K Y W F φ H ((evE call c ρ st).bind f) R)
    (h : ∀ d st1 F1 φ1 H1 v, Step F φ H F1 φ1 H1 → Base K F1 φ1 st1 H1 → EnvOk K F1 φ1 ρ σ H1 → RepX K F1 φ1 H1 d v → Fresh H d v → Post K Y W F1 φ1 H1 (f d st1) R → Q v H1) : tD K Y call c W σ H Q :=
  ⟨F, φ, ρ, st, B, V, p.bind.mono fun d st1 F1 φ1 H1 S1 B1 p1 v rv fv => h d st1 F1 φ1 H1 v S1 B1 (V.step S1) rv fv p1⟩
/-- the same, with any way to freeze -/
theorem one_ofF {α : Type} {c : E} {f : D → Store → Out α} {R : RT α} {σ : L2.St} {H : Hp} {F : Hp} {φ : List Addr} {ρ : Env} {st : Store} {K : PySem.W.Frag} {Q : VK} (B : Base K F φ st H) (V : EnvOk K F φ ρ σ H)
    (p : Post K Y W F φ H ((evE call c ρ st).bind f) R)
    (h : ∀ d st1 F1 φ1 H1 v, Step F φ H F1 φ1 H1 → Base K F1 φ1 st1 H1 → RepX K F1 φ1 H1 d v → Fresh H d v → (∀ F2, Step F φ H F2 φ1 H1 → Base K F2 φ1 st1 H1 → Post K Y W F2 φ1 H1 (f d st1) R) → Q v H1) : tD K Y call c W σ H Q :=
  ⟨F, φ, ρ, st, B, V, p.bind.monoF fun d st1 F1 φ1 H1 S1 B1 p1 v rv fv => h d st1 F1 φ1 H1 v S1 B1 rv fv fun F2 S2 B2 => p1 F2 φ1 H1 S2 B2⟩

theorem Post.rq {K : PySem.W.Frag} {F F1 : Hp} {φ φ1 : List Addr} {H H1 : Hp} {Q : VK} {o : Out D} (S : Step F φ H F1 φ1 H1) (p : Post K Y W F1 φ1 H1 o (RQ K H Q)) : Post K Y W F1 φ1 H1 o (RQ K H1 Q) :=
  p.mono fun _ _ _ _ _ _ _ r => RQ.step S r

theorem s_bin {op : BOp} {a b : E} {x y : Expr} {pos : Pos} (ha : PE X x (tD X.K Y call a W)) (hb : PE X y (tD X.K Y call b W)) : PE X (.BinOp x (opOf op) y pos) (tD X.K Y call (.bin op a b) W) := by
  refine PE.imp (pe_op (g_bin (Y := Y) (E := W) op) ha hb) fun σ H Q ⟨F, φ, ρ, st, B, V, p⟩ => ?_
  rw [evE] at p
  refine one_of B V p fun d st1 F1 φ1 H1 v S1 B1 V1 rv fv p1 => one_of B1 V1 p1 fun d2 st2 F2 φ2 H2 v2 S2 B2 V2 rv2 fv2 p2 => ?_
  exact ⟨F2, φ2, st2, d, d2, B2, rv.step S2, rv2, p2.rq (S1.trans S2)⟩
theorem s_neg {a : E} {x : Expr} {pos : Pos} (ha : PE X x (tD X.K Y call a W)) : PE X (.UnaryOp .USub x pos) (tD X.K Y call (.neg a) W) := by
  refine PE.imp (pe_un un_neg ha) fun σ H Q ⟨F, φ, ρ, st, B, V, p⟩ => ?_
  rw [evE] at p
  refine one_of B V p fun d st1 F1 φ1 H1 v S1 B1 V1 rv fv p1 => ?_
  split at p1
  · exact ⟨_, rv.int, end_int (p1.rq S1) B1⟩
  · exact p1.elim
theorem tru_post {Y : ExT} {W : XK} {K : PySem.W.Frag} {F : Hp} {φ : List Addr} {H : Hp} {st : Store} {d : D} {v : V} {b : Bool} (B : Base K F φ st H) (r : RepX K F φ H d v) (e : truD d = some b) : TruV K v H b := by
  obtain ⟨k, h1, h2⟩ := tru_of (Y := Y) (E := W) (Q := fun c _ => c = b) ⟨F, φ, st, d, B, r, by rw [e]; exact fun _ _ _ _ _ => rfl⟩
  rw [← h2]; exact h1
theorem s_not {a : E} {x : Expr} {pos : Pos} (ha : PE X x (tD X.K Y call a W)) : PE X (.UnaryOp .Not x pos) (tD X.K Y call (.not a) W) := by
  refine PE.imp (pe_notT ha) fun σ H Q ⟨F, φ, ρ, st, B, V, p⟩ => ?_
  rw [evE] at p
  refine one_of B V p fun d st1 F1 φ1 H1 v S1 B1 V1 rv fv p1 => ?_
  obtain ⟨b, e, p2⟩ := p1.of_lift
  obtain ⟨c, e1, rfl⟩ := Option.map_eq_some_iff.mp e
  exact ⟨c, tru_post (Y := Y) (W := W) B1 rv e1, end_bl (p2.rq S1) B1⟩
theorem s_and {a b : E} {x y : Expr} {rest : List Expr} {pos : Pos} (ha : PE X x (tD X.K Y call a W)) (hb : PE X (.BoolOp .And (y :: rest) pos) (tD X.K Y call b W)) :
    PE X (.BoolOp .And (x :: y :: rest) pos) (tD X.K Y call (.and a b) W) := by
  refine PE.imp (pe_andT ha hb) fun σ H Q ⟨F, φ, ρ, st, B, V, p⟩ => ?_
  rw [evE] at p
  refine one_of B V p fun d st1 F1 φ1 H1 v S1 B1 V1 rv fv p1 => ?_
  split at p1
  · rename_i e
    exact ⟨true, tru_post (Y := Y) (W := W) B1 rv e, by rw [if_pos rfl]; exact ⟨F1, φ1, ρ, st1, B1, V1, p1.rq S1⟩⟩
  · rename_i e
    exact ⟨false, tru_post (Y := Y) (W := W) B1 rv e, by rw [if_neg (by decide)]; exact p1.now B1 v rv fv⟩
  · exact p1.elim
theorem s_or {a b : E} {x y : Expr} {rest : List Expr} {pos : Pos} (ha : PE X x (tD X.K Y call a W)) (hb : PE X (.BoolOp .Or (y :: rest) pos) (tD X.K Y call b W)) :
    PE X (.BoolOp .Or (x :: y :: rest) pos) (tD X.K Y call (.or a b) W) := by
  refine PE.imp (pe_orT ha hb) fun σ H Q ⟨F, φ, ρ, st, B, V, p⟩ => ?_
  rw [evE] at p
  refine one_of B V p fun d st1 F1 φ1 H1 v S1 B1 V1 rv fv p1 => ?_
  split at p1
  · rename_i e
    exact ⟨true, tru_post (Y := Y) (W := W) B1 rv e, by rw [if_pos rfl]; exact p1.now B1 v rv fv⟩
  · rename_i e
    exact ⟨false, tru_post (Y := Y) (W := W) B1 rv e, by rw [if_neg (by decide)]; exact ⟨F1, φ1, ρ, st1, B1, V1, p1.rq S1⟩⟩
  · exact p1.elim
theorem s_cmp {op : COp} {a b : E} {x y : Expr} {pos : Pos} (g : Good Y call G k W sc raw N X) (ha : PE X x (tD X.K Y call a W)) (hb : PE X y (tD X.K Y call b W)) (hm : isSetE y = false) :
    PE X (.Compare x [copOf op] [y] pos) (tD X.K Y call (.cmp op a b) W) := by
  refine PE.imp (pe_cmpR (g_cmp (Y := Y) (E := W) op g.room.units) ha hb (mark_ne hm)) fun σ H Q ⟨F, φ, ρ, st, B, V, p⟩ => ?_
  rw [evE] at p
  refine one_of B V p fun d st1 F1 φ1 H1 v S1 B1 V1 rv fv p1 => one_of B1 V1 p1 fun d2 st2 F2 φ2 H2 v2 S2 B2 V2 rv2 fv2 p2 => ?_
  exact ⟨F2, φ2, st2, d, d2, B2, rv.step S2, rv2, p2.rq (S1.trans S2)⟩
theorem bl_post {K : PySem.W.Frag} {F : Hp} {φ : List Addr} {H : Hp} {st : Store} {Q : VK} {b : Bool} (B : Base K F φ st H) (q : Q (.bl b) H) : Post K Y W F φ H (lift (some (D.bl b)) st) (RQ K H fun v H' => v = .bl b ∧ ∀ (Q : VK), Q (.bl b) H' → Q v H') :=
  fun F' φ' H' _ _ v rv _ => by
    have e := RepX.bl rv
    subst e
    exact ⟨rfl, fun Q q => q⟩
theorem s_chain {op op' : COp} {a b c : E} {x y z : Expr} {pos : Pos} (g : Good Y call G k W sc raw N X) (ha : PE X x (tD X.K Y call a W)) (hb : PE X y (tD X.K Y call b W)) (hc : PE X z (tD X.K Y call c W)) (hm : isSetE z = false) :
    PE X (.Compare x [copOf op, copOf op'] [y, z] pos) (tD X.K Y call (.chain op op' a b c) W) := by
  refine PE.imp (pe_chain (g_cmp (Y := Y) (E := W) op g.room.units) (g_cmp (Y := Y) (E := W) op' g.room.units) ha hb hc (show behindInMarks (copOf op') z = false from mark_ne hm)) fun σ H Q ⟨F, φ, ρ, st, B, V, p⟩ => ?_
  rw [evE] at p
  refine one_of B V p fun d st1 F1 φ1 H1 v S1 B1 V1 rv fv p1 => one_of B1 V1 p1 fun d2 st2 F2 φ2 H2 v2 S2 B2 V2 rv2 fv2 p2 => ?_
  refine ⟨F2, φ2, st2, d, d2, B2, rv.step S2, rv2, ?_⟩
  show Post X.K Y W F2 φ2 H2 (lift ((cmpD op d d2).map D.bl) st2) _
  split at p2
  · rename_i e
    rw [e]
    refine fun F' φ' H' S3 B3 v rv3 _ => ⟨true, RepX.bl rv3, ?_⟩
    rw [if_pos rfl]
    have V3 := V2.step S3
    refine one_of B3 V3 (p2.step S3) fun d3 st3 F3 φ3 H3 v3 S4 B4 V4 rv4 fv4 p3 => ?_
    exact ⟨F3, φ3, st3, d2, d3, B4, rv2.step (S3.trans S4), rv4, p3.rq (((S1.trans S2).trans S3).trans S4)⟩
  · rename_i e
    rw [e]
    refine fun F' φ' H' S3 B3 v rv3 _ => ⟨false, RepX.bl rv3, ?_⟩
    rw [if_neg (by decide)]
    exact end_bl ((p2.step S3).rq ((S1.trans S2).trans S3)) B3
  · exact p2.elim
theorem s_ite {a b c : E} {x y z : Expr} {pos : Pos} (hc : PT X z (tT X.K Y call c W)) (ha : PE X x (tD X.K Y call a W)) (hb : PE X y (tD X.K Y call b W)) : PE X (.IfExp z x y pos) (tD X.K Y call (.ite c a b) W) := by
  refine PE.imp (pe_ifExp hc ha hb) fun σ H Q ⟨F, φ, ρ, st, B, V, p⟩ => ?_
  rw [evE] at p
  refine ⟨F, φ, ρ, st, B, V, ?_⟩
  cases he : evE call c ρ st with
  | bad => rw [he] at p; exact p.elim
  | ex x st1 => rw [he] at p; exact p
  | ok d st1 =>
    rw [he] at p
    have p1 : Post X.K Y W F φ H (match truD d with | some true => evE call a ρ st1 | some false => evE call b ρ st1 | none => .bad) (RQ X.K H Q) := p
    show Post X.K Y W F φ H (lift (truD d) st1) _
    cases ht : truD d with
    | none => rw [ht] at p1; exact p1.elim
    | some t =>
      rw [ht] at p1
      intro F1 φ1 H1 S1 B1
      cases t with
      | true => rw [if_pos rfl]; exact ⟨F1, φ1, ρ, st1, B1, V.step S1, (p1.step S1).rq S1⟩
      | false => rw [if_neg (by decide)]; exact ⟨F1, φ1, ρ, st1, B1, V.step S1, (p1.step S1).rq S1⟩
theorem s_idx {a i : E} {x y : Expr} {pos : Pos} (ha : PE X x (tD X.K Y call a W)) (hb : PE X y (tD X.K Y call i W)) (hs : isSliceE y = false) : PE X (.Subscript x y pos) (tD X.K Y call (.idx a i) W) := by
  have hpl : PlainIx y := fun o j => by cases y <;> first | rfl | cases hs
  refine PE.imp (pe_ix ix_seq ha hb hpl) fun σ H Q ⟨F, φ, ρ, st, B, V, p⟩ => ?_
  rw [evE] at p
  refine one_of B V p fun d st1 F1 φ1 H1 v S1 B1 V1 rv fv p1 => one_of B1 V1 p1 fun d2 st2 F2 φ2 H2 v2 S2 B2 V2 rv2 fv2 p2 => ?_
  obtain ⟨r, e, p3⟩ := p2.of_lift
  have p4 := p3.rq (S1.trans S2)
  have rv := rv.step S2
  have at_of : ∀ {xs : List D} {vs : List L2.V} {j : Int}, Reps X.K F2 xs vs → L2.atI xs j = some r → ∃ u, L2.atI vs j = some u ∧ Rep X.K F2 r u := fun {xs vs j} rs e => by
    unfold L2.atI at e ⊢
    obtain ⟨n, e1, e2⟩ := Option.bind_eq_some_iff.mp e
    obtain ⟨u, h1, h2⟩ := rs.get e2
    exact ⟨u, by rw [← rs.length, e1]; exact h1, h2⟩
  have fin : ∀ u, Rep X.K F2 r u → Q u H2 := fun u ru => end_rep p4 B2 ru.x ru.nofls
  unfold idxD at e
  split at e
  · rename_i j
    split at e
    · obtain ⟨t, vs, rfl, ht, rs⟩ := rv.tup
      obtain ⟨u, h1, h2⟩ := at_of rs e
      exact .inr (.inl ⟨t, vs, j, u, rfl, rv2.int, sqt_of (B2.sub _ _ ht), h1, fin u h2⟩)
    · obtain ⟨xs, e1, e2⟩ := Option.bind_eq_some_iff.mp e
      obtain ⟨t, rfl, hn⟩ := rv
      obtain ⟨vs, h1, rs, _⟩ := B2.box _ t xs hn e1
      obtain ⟨u, h3, h4⟩ := at_of rs e2
      exact .inl ⟨t, vs, j, u, rfl, rv2.int, sq_of h1, h3, fin u h4⟩
    · obtain ⟨xs, e1, e2⟩ := Option.bind_eq_some_iff.mp e
      obtain ⟨t, vs, rfl, ht, rs⟩ := rv.asL B2 e1
      obtain ⟨u, h3, h4⟩ := at_of rs e2
      exact .inl ⟨t, vs, j, u, rfl, rv2.int, sq_of ht, h3, fin u h4⟩
  · cases e
theorem Reps.cut {K : PySem.W.Frag} {F : Hp} {xs : List D} {vs : List V} (r : Reps K F xs vs) (lo hi : Option Int) : Reps K F (cutL xs lo hi) (cutV vs lo hi) := by
  unfold cutL cutV
  rw [r.length]
  exact (r.drop _).take _
/-- a part of a slice -/
def tPo (K : PySem.W.Frag) (Y : ExT) (call : CallF) (c : E) (W : XK) : TO := fun σ H Q => ∃ F φ ρ st, Base K F φ st H ∧ EnvOk K F φ ρ σ H ∧
  Post K Y W F φ H (if isNil c then .ok none st else (evE call c ρ st).bind fun d st => lift (bound d) st) (fun b _ _ _ H' => Q b H')
theorem po_nil {c : E} (h : isNil c = true) : PO X none (tPo X.K Y call c W) := by
  refine ⟨fun pins s σ H Q I ⟨F, φ, ρ, st, B, V, p⟩ => po_none.run pins s σ H Q I ?_⟩
  rw [if_pos h] at p
  exact p.now B
theorem po_val {c : E} {x : Expr} (h : isNil c = false) (hc : PE X x (tD X.K Y call c W)) : PO X (some x) (tPo X.K Y call c W) := by
  refine ⟨fun pins s σ H Q I ⟨F, φ, ρ, st, B, V, p⟩ => (po_some hc).run pins s σ H Q I ?_⟩
  rw [if_neg (by rw [h]; decide)] at p
  refine one_of B V p fun d st1 F1 φ1 H1 v S1 B1 V1 rv fv p1 => ?_
  obtain ⟨b, e, p2⟩ := p1.of_lift
  unfold bound at e
  split at e
  · cases e; exact ⟨_, rv.int, p2.now B1⟩
  · cases e
theorem PO.of {X : L2.Cx} {e : Option Expr} {t : TO} (h : PO X e t) {pins : List (Addr × Obj)} {s : Shared} {σ : L2.St} {H : Hp} {Q : Option Int → Hp → Prop} (I : Inv X pins σ H s) (q : t σ H Q) :
    wpAny (model X.prog X.w) X.A (evalPart e X.env) (fun u s' => ∃ o H', Inv X pins σ H' s' ∧ IsPart u o ∧ Q o H') X.xe s := h.run pins s σ H Q I q
theorem s_slc {a lo hi : E} {x : Expr} {l h : Option Expr} {p2 pos : Pos} (ha : PE X x (tD X.K Y call a W)) (hl : PO X l (tPo X.K Y call lo W)) (hh : PO X h (tPo X.K Y call hi W)) :
    PE X (.Subscript x (.Slice l h none p2) pos) (tD X.K Y call (.slc a lo hi) W) := by
  refine PE.imp (pe_slice (SlR.or sl_list sl_tupA) ha hl hh) fun σ H Q ⟨F, φ, ρ, st, B, V, p⟩ => ?_
  rw [evE] at p
  refine one_of B V p fun d st1 F1 φ1 H1 v S1 B1 V1 rv fv p1 => ⟨F1, φ1, ρ, st1, B1, V1, p1.bind.mono fun b st2 F2 φ2 H2 S2 B2 q2 => ?_⟩
  refine ⟨F2, φ2, ρ, st2, B2, V1.step S2, q2.bind.mono fun b' st3 F3 φ3 H3 S3 B3 q3 => ?_⟩
  obtain ⟨r, e, p4⟩ := q3.of_lift
  have p5 := p4.rq ((S1.trans S2).trans S3)
  have rv := rv.step (S2.trans S3)
  unfold slcD at e
  split at e
  · cases e
    obtain ⟨t, vs, rfl, ht, rs⟩ := rv.tup
    refine .inr ⟨t, vs, rfl, sqt_of (B3.sub _ _ ht), fun hw => ?_, fun _ => end_tup p5 B3 (rs.cut b b')⟩
    refine end_rep p5 B3 (Rep.tup ht ?_) fun _ h => nomatch h
    have e1 := rs.cut b b'
    have e2 : cutV vs b b' = vs := by
      unfold cutV
      rw [hw.1, hw.2]
      simp
    rw [e2] at e1
    exact e1
  · cases e
    obtain ⟨t, rfl, hs⟩ := rv.scr
    refine .inl ⟨t, _, rfl, SqL.mono B3.sub hs, end_fls p5 B3 ?_⟩
    rename_i ns _
    have e1 := (Reps.intsV (K := X.K) (F := F3) ns).cut b b'
    have e2 : cutL (ns.map D.int) b b' = (cutL ns b b').map D.int := by
      unfold cutL
      rw [List.length_map, List.map_take, List.map_drop]
    rw [← e2]
    exact e1
  · obtain ⟨xs, e1, rfl⟩ := Option.map_eq_some_iff.mp e
    obtain ⟨t, vs, rfl, ht, rs⟩ := rv.asL B3 e1
    exact .inl ⟨t, vs, rfl, sq_of ht, end_fls p5 B3 (rs.cut b b')⟩

theorem Reps.rev {K : PySem.W.Frag} {F : Hp} : ∀ {xs : List D} {vs : List V}, Reps K F xs vs → Reps K F xs.reverse vs.reverse
  | _, _, .nil => .nil
  | _, _, .cons a r => by
    rw [List.reverse_cons, List.reverse_cons]
    exact r.rev.append (.cons a .nil)
theorem s_rev {a : E} {x : Expr} {k : Nat} {p1 p2 p3 pos : Pos} (ha : PE X x (tD X.K Y call a W)) :
    PE X (.Subscript x (.Slice none none (some (.UnaryOp .USub (.Constant (.int 1) k p1) p2)) p3) pos) (tD X.K Y call (.rev a) W) := by
  refine PE.imp (pe_revT ha) fun σ H Q ⟨F, φ, ρ, st, B, V, p⟩ => ?_
  rw [evE] at p
  refine one_of B V p fun d st1 F1 φ1 H1 v S1 B1 V1 rv fv p1 => ?_
  split at p1
  · obtain ⟨t, vs, rfl, ht, rs⟩ := rv.tup
    exact ⟨t, vs, rfl, sqt_of (B1.sub _ _ ht), end_tup (p1.rq S1) B1 rs.rev⟩
  · exact p1.elim

/-! ### tests -/
theorem PE.test {c : E} {x : Expr} (h : PE X x (tD X.K Y call c W)) (he : ∀ whole, isTrue x X.env whole = (do let v ← whole; standAt x.pos; holding [v] (truthy v))) : PT X x (tT X.K Y call c W) := by
  refine PT.imp (pt_truth h he) fun σ H Q ⟨F, φ, ρ, st, B, V, p⟩ => one_of B V p fun d st1 F1 φ1 H1 v S1 B1 V1 rv fv p1 => ?_
  obtain ⟨b, e, p2⟩ := p1.of_lift
  exact ⟨b, tru_post (Y := Y) (W := W) B1 rv e, p2.now B1⟩
theorem tt_bind {α : Type} {c : E} {f : D → Store → Out α} {R : RT α} {σ : L2.St} {H : Hp} {F : Hp} {φ : List Addr} {ρ : Env} {st : Store} {K : PySem.W.Frag} {Q : Bool → Hp → Prop} (B : Base K F φ st H) (V : EnvOk K F φ ρ σ H)
    (p : Post K Y W F φ H ((evE call c ρ st).bind f) R) (hn : ∀ d st, truD d = none → f d st = .bad)
    (h : ∀ d b st1 F1 φ1 H1, evE call c ρ st = .ok d st1 → truD d = some b → Step F φ H F1 φ1 H1 → Base K F1 φ1 st1 H1 → EnvOk K F1 φ1 ρ σ H1 → Post K Y W F1 φ1 H1 (f d st1) R → Q b H1) : tT K Y call c W σ H Q := by
  refine ⟨F, φ, ρ, st, B, V, ?_⟩
  cases he : evE call c ρ st with
  | bad => rw [he] at p; exact p.elim
  | ex x st1 => rw [he] at p; exact p
  | ok d st1 =>
    rw [he] at p
    have p1 : Post K Y W F φ H (f d st1) R := p
    show Post K Y W F φ H (lift (truD d) st1) _
    cases ht : truD d with
    | none => rw [hn d st1 ht] at p1; exact p1.elim
    | some b => exact fun F1 φ1 H1 S1 B1 => h d b st1 F1 φ1 H1 he ht S1 B1 (V.step S1) (p1.step S1)
theorem t_not {a : E} {x : Expr} {pos : Pos} (ha : PT X x (tT X.K Y call a W)) : PT X (.UnaryOp .Not x pos) (tT X.K Y call (.not a) W) := by
  refine PT.imp (pt_not ha) fun σ H Q ⟨F, φ, ρ, st, B, V, p⟩ => ?_
  rw [evE] at p
  have p0 : Post X.K Y W F φ H ((evE call a ρ st).bind fun x st => (lift ((truD x).map fun b => D.bl (!b)) st).bind fun d st => lift (truD d) st) (fun b _ _ _ H' => Q b H') := by
    cases he : evE call a ρ st with
    | bad => rw [he] at p; exact p
    | ex x st1 => rw [he] at p; exact p
    | ok d st1 => rw [he] at p; exact p
  refine tt_bind B V p0 (fun d st e => by rw [e]; rfl) fun d b st1 F1 φ1 H1 _ e S1 B1 V1 p1 => ?_
  rw [e] at p1
  exact p1.now B1
theorem t_and {a b : E} {x y : Expr} {rest : List Expr} {pos : Pos} (ha : PT X x (tT X.K Y call a W)) (hb : PT X (.BoolOp .And (y :: rest) pos) (tT X.K Y call b W)) :
    PT X (.BoolOp .And (x :: y :: rest) pos) (tT X.K Y call (.and a b) W) := by
  refine PT.imp (PW.pt (pw_and ha ⟨fun _ => hb.run⟩)) fun σ H Q ⟨F, φ, ρ, st, B, V, p⟩ => ?_
  rw [evE] at p
  have p0 : Post X.K Y W F φ H ((evE call a ρ st).bind fun x st => (match truD x with | some true => evE call b ρ st | some false => .ok x st | none => .bad : Out D).bind fun d st => lift (truD d) st) (fun b _ _ _ H' => Q b H') := by
    cases he : evE call a ρ st with
    | bad => rw [he] at p; exact p
    | ex x st1 => rw [he] at p; exact p
    | ok d st1 => rw [he] at p; exact p
  refine tt_bind B V p0 (fun d st e => by rw [e]; rfl) fun d t st1 F1 φ1 H1 _ e S1 B1 V1 p1 => ?_
  rw [e] at p1
  cases t with
  | true => rw [if_pos rfl]; exact ⟨F1, φ1, ρ, st1, B1, V1, p1⟩
  | false =>
    rw [if_neg (by decide)]
    have p2 : Post X.K Y W F1 φ1 H1 (lift (truD d) st1) (fun b _ _ _ H' => Q b H') := p1
    rw [e] at p2
    exact p2.now B1
theorem t_or {a b : E} {x y : Expr} {rest : List Expr} {pos : Pos} (ha : PT X x (tT X.K Y call a W)) (hb : PT X (.BoolOp .Or (y :: rest) pos) (tT X.K Y call b W)) :
    PT X (.BoolOp .Or (x :: y :: rest) pos) (tT X.K Y call (.or a b) W) := by
  refine PT.imp (PW.pt (pw_or ha ⟨fun _ => hb.run⟩)) fun σ H Q ⟨F, φ, ρ, st, B, V, p⟩ => ?_
  rw [evE] at p
  have p0 : Post X.K Y W F φ H ((evE call a ρ st).bind fun x st => (match truD x with | some true => .ok x st | some false => evE call b ρ st | none => .bad : Out D).bind fun d st => lift (truD d) st) (fun b _ _ _ H' => Q b H') := by
    cases he : evE call a ρ st with
    | bad => rw [he] at p; exact p
    | ex x st1 => rw [he] at p; exact p
    | ok d st1 => rw [he] at p; exact p
  refine tt_bind B V p0 (fun d st e => by rw [e]; rfl) fun d t st1 F1 φ1 H1 _ e S1 B1 V1 p1 => ?_
  rw [e] at p1
  cases t with
  | false => rw [if_neg (by decide)]; exact ⟨F1, φ1, ρ, st1, B1, V1, p1⟩
  | true =>
    rw [if_pos rfl]
    have p2 : Post X.K Y W F1 φ1 H1 (lift (truD d) st1) (fun b _ _ _ H' => Q b H') := p1
    rw [e] at p2
    exact p2.now B1
theorem test_bl {K : PySem.W.Frag} {F : Hp} {φ : List Addr} {H : Hp} {Q : Bool → Hp → Prop} {o : Option Bool} {st : Store} (p : Post K Y W F φ H ((lift (o.map D.bl) st).bind fun d st => lift (truD d) st) (fun b _ _ _ H' => Q b H')) :
    Post K Y W F φ H (lift (o.map D.bl) st) (RQ K H fun z H' => ∃ k, z = .bl k ∧ Q k H') := by
  cases o with
  | none => exact p
  | some b => exact fun F' φ' H' S' B' v rv _ => ⟨b, RepX.bl rv, p F' φ' H' S' B'⟩
theorem t_cmp {op : COp} {a b : E} {x y : Expr} {pos : Pos} (g : Good Y call G k W sc raw N X) (ha : PE X x (tD X.K Y call a W)) (hb : PE X y (tD X.K Y call b W)) (hm : isSetE y = false) :
    PT X (.Compare x [copOf op] [y] pos) (tT X.K Y call (.cmp op a b) W) := by
  refine PT.imp (pt_cmpR (g_cmp (Y := Y) (E := W) op g.room.units) ha hb (mark_ne hm)) fun σ H Q ⟨F, φ, ρ, st, B, V, p⟩ => ?_
  rw [evE] at p
  have p0 : Post X.K Y W F φ H ((evE call a ρ st).bind fun x st => (evE call b ρ st).bind fun y st => (lift ((cmpD op x y).map D.bl) st).bind fun d st => lift (truD d) st) (fun b _ _ _ H' => Q b H') := by
    cases he : evE call a ρ st with
    | bad => rw [he] at p; exact p
    | ex x st1 => rw [he] at p; exact p
    | ok d st1 =>
      rw [he] at p
      have p1 : Post X.K Y W F φ H (((evE call b ρ st1).bind fun y st => lift ((cmpD op d y).map D.bl) st).bind fun d st => lift (truD d) st) (fun b _ _ _ H' => Q b H') := p
      show Post X.K Y W F φ H ((evE call b ρ st1).bind fun y st => (lift ((cmpD op d y).map D.bl) st).bind fun d st => lift (truD d) st) _
      cases he2 : evE call b ρ st1 with
      | bad => rw [he2] at p1; exact p1
      | ex x st1 => rw [he2] at p1; exact p1
      | ok d st1 => rw [he2] at p1; exact p1
  refine one_of B V p0 fun d st1 F1 φ1 H1 v S1 B1 V1 rv fv p1 => one_of B1 V1 p1 fun d2 st2 F2 φ2 H2 v2 S2 B2 V2 rv2 fv2 p2 => ?_
  exact ⟨F2, φ2, st2, d, d2, B2, rv.step S2, rv2, test_bl p2⟩
end
end Gb

/-! Calls, displays, what is walked, comprehensions. -/
namespace Gb
open PySem PySem.Spec PyProof.Rows L2 StX

section
variable {Y : ExT} {call : CallF} {G : Glob} {k : Nat} {W : XK} {sc raw : Scope} {N : List Str} {X : L2.Cx}

/-! ### argument lists -/
theorem a_nil : PA X [] (tA X.K Y call .nil W) := PA.imp pa_nil fun σ H Q ⟨F, φ, ρ, st, B, V, p⟩ => by
  rw [evA] at p
  exact p.now B [] .nil rfl
theorem b_nil : PA X [] (tBs X.K Y call .nil W) := PA.imp pa_nil fun σ H Q ⟨F, φ, ρ, st, B, V, p⟩ => by
  rw [evs'] at p
  exact p.now B [] .nil
theorem d_nil : PA X [] (tSs X.K Y call .nil W) := PA.imp pa_nil fun σ H Q ⟨F, φ, ρ, st, B, V, p⟩ => by
  rw [evs] at p
  exact p.now B [] .nil
theorem a_cons {a r : E} {x : Expr} {xs : List Expr} (ha : PE X x (tD X.K Y call a W)) (hr : PA X xs (tA X.K Y call r W)) (hs : isStarE x = false) : PA X (x :: xs) (tA X.K Y call (.cons a r) W) := by
  refine PA.imp (pa_cons ha hr (star_ne hs)) fun σ H Q ⟨F, φ, ρ, st, B, V, p⟩ => ?_
  rw [evA] at p
  refine one_ofF B V p fun d st1 F1 φ1 H1 v S1 B1 rv fv p1 => ?_
  cases e : frzD d with
  | none =>
    have z := p1 F1 S1 B1
    rw [e] at z
    exact z.elim
  | some d' =>
    obtain ⟨F2, S2, B2, r2, n2⟩ := frz_of e rv fv B1 S1
    have z := p1 F2 S2 B2
    rw [e] at z
    exact ⟨F2, φ1, ρ, st1, B2, V.step S2, z.bind.mono fun ds st3 F3 φ3 H3 S3 B3 q vs rvs hall => q.now B3 (v :: vs) (.cons (r2.step S3) rvs) (by rw [List.all_cons, n2, hall]; rfl)⟩
theorem b_cons {a r : E} {x : Expr} {xs : List Expr} (ha : PE X x (tD X.K Y call a W)) (hr : PA X xs (tBs X.K Y call r W)) (hs : isStarE x = false) : PA X (x :: xs) (tBs X.K Y call (.cons a r) W) := by
  refine PA.imp (pa_cons ha hr (star_ne hs)) fun σ H Q ⟨F, φ, ρ, st, B, V, p⟩ => ?_
  rw [evs'] at p
  refine one_of B V p fun d st1 F1 φ1 H1 v S1 B1 V1 rv fv p1 => ?_
  exact ⟨F1, φ1, ρ, st1, B1, V1, p1.bind.mono fun ds st3 F3 φ3 H3 S3 B3 q vs rvs => q.now B3 (v :: vs) (.cons (rv.step S3) rvs)⟩
theorem d_cons {a r : E} {x : Expr} {xs : List Expr} (ha : PE X x (tD X.K Y call a W)) (hr : PA X xs (tSs X.K Y call r W)) (hs : isStarE x = false) : PA X (x :: xs) (tSs X.K Y call (.cons a r) W) := by
  refine PA.imp (pa_cons ha hr (star_ne hs)) fun σ H Q ⟨F, φ, ρ, st, B, V, p⟩ => ?_
  rw [evs] at p
  refine one_ofF B V p fun d st1 F1 φ1 H1 v S1 B1 rv fv p1 => ?_
  cases e : purD d with
  | none =>
    have z := p1 F1 S1 B1
    rw [e] at z
    exact z.elim
  | some d' =>
    obtain ⟨F2, S2, B2, r2⟩ := pur_of e rv fv B1 S1
    have z := p1 F2 S2 B2
    rw [e] at z
    exact ⟨F2, φ1, ρ, st1, B2, V.step S2, z.bind.mono fun ds st3 F3 φ3 H3 S3 B3 q vs rvs => q.now B3 (v :: vs) (.cons (r2.mono S3.ff) rvs)⟩
theorem d_star {a r : E} {x : Expr} {xs : List Expr} {pp : Pos} (ha : PE X x (tD X.K Y call a W)) (hr : PA X xs (tSs X.K Y call r W)) : PA X (.Starred x pp :: xs) (tSs X.K Y call (.star a r) W) := by
  refine PA.imp (pa_star ha hr) fun σ H Q ⟨F, φ, ρ, st, B, V, p⟩ => ?_
  rw [evs] at p
  refine one_of B V p fun d st1 F1 φ1 H1 v S1 B1 V1 rv fv p1 => ?_
  cases e : seqOf d with
  | none => rw [e] at p1; exact p1.elim
  | some ys =>
    rw [e] at p1
    obtain ⟨q, vs, rfl, hq, rs⟩ := rv.seqOf B1 e
    exact ⟨q, vs, rfl, hq.symm.imp (fun z => sqt_of z) (fun z => sq_of z), F1, φ1, ρ, st1, B1, V1, p1.bind.mono fun ds st3 F3 φ3 H3 S3 B3 q us rus => q.now B3 (vs ++ us) ((rs.mono S3.ff).append rus)⟩
theorem s_tup {es : E} {xs : List Expr} {kk : Nat} {pos : Pos} (h : PA X xs (tSs X.K Y call es W)) : PE X (.Tuple xs kk pos) (tD X.K Y call (.tup es) W) := by
  refine PE.imp (pe_tup h) fun σ H Q ⟨F, φ, ρ, st, B, V, p⟩ => ?_
  rw [evE] at p
  refine ⟨F, φ, ρ, st, B, V, p.bind.mono fun ds st1 F1 φ1 H1 S1 B1 p1 vs rvs => ?_⟩
  split at p1
  · rename_i hz
    exact ⟨by rw [← rvs.length]; exact hz, end_tup (p1.rq S1) B1 rvs⟩
  · exact p1.elim
theorem s_lst {es : E} {xs : List Expr} {pos : Pos} (h : PA X xs (tSs X.K Y call es W)) : PE X (.List xs pos) (tD X.K Y call (.lst es) W) := by
  refine PE.imp (pe_lst h) fun σ H Q ⟨F, φ, ρ, st, B, V, p⟩ => ?_
  rw [evE] at p
  refine ⟨F, φ, ρ, st, B, V, p.bind.mono fun ds st1 F1 φ1 H1 S1 B1 p1 vs rvs => ?_⟩
  split at p1
  · rename_i hz
    exact ⟨by rw [← rvs.length]; exact hz, end_fls (p1.rq S1) B1 rvs⟩
  · exact p1.elim

/-! ### built-ins -/
theorem bi_ok (g : Good Y call G k W sc raw N X) (b : Bi) (h : b ≠ .setI ∧ b ≠ .setT) : (∃ id, bootBuiltins (biNm b) = some (.builtin id) ∧ CallR X (.builtin id) (rBi X.K Y W b)) ∨ ∃ T, bootBuiltins (biNm b) = some (.type T) ∧ CallR X (.type T) (rBi X.K Y W b) := by
  cases b with
  | len => exact .inl ⟨_, by decide +kernel, g_len⟩
  | int => exact .inr ⟨_, by decide +kernel, g_int⟩
  | abs => exact .inl ⟨_, by decide +kernel, g_abs⟩
  | max2 => exact .inl ⟨_, by decide +kernel, g_max2 g.calm⟩
  | min2 => exact .inl ⟨_, by decide +kernel, g_min2 g.calm⟩
  | max => exact .inl ⟨_, by decide +kernel, g_max g.calm⟩
  | sum => exact .inl ⟨_, by decide +kernel, g_sum g.calm⟩
  | all => exact .inl ⟨_, by decide +kernel, g_all g.calm⟩
  | sorted => exact .inl ⟨_, by decide +kernel, g_sorted⟩
  | tuple => exact .inr ⟨_, by decide +kernel, g_tuple⟩
  | list => exact .inr ⟨_, by decide +kernel, g_list⟩
  | setI => exact absurd rfl h.1
  | setT => exact absurd rfl h.2
theorem biNm_mem (b : Bi) : biNm b ∈ builtins := by cases b <;> decide +kernel
theorem biNm_ne (b : Bi) : biNm b ≠ "__name__" ∧ (biNm b == ("__debug__" : Str)) = false := by cases b <;> exact ⟨by decide +kernel, by decide +kernel⟩
theorem s_bi {b : Bi} {es : E} {x : Expr} {xs : List Expr} {p pos : Pos} (g : Good Y call G k W sc raw N X) (hb : b ≠ .setI ∧ b ≠ .setT) (hg : glbB sc (biNm b) = true) (h : PA X (x :: xs) (tBs X.K Y call es W)) (hs : ∀ e ∈ x :: xs, isStarE e = false) :
    PE X (.Call (.Name (biNm b) p) (x :: xs) [] pos) (tD X.K Y call (.bi b es) W) := by
  have go : ∀ {r}, PE X (.Call (.Name (biNm b) p) (x :: xs) [] pos) (tCB r (tBs X.K Y call es W)) → r = rBi X.K Y W b → PE X (.Call (.Name (biNm b) p) (x :: xs) [] pos) (tD X.K Y call (.bi b es) W) := fun {r} hp e => by
    subst e
    refine PE.imp hp fun σ H Q ⟨F, φ, ρ, st, B, V, p⟩ => ?_
    rw [evE] at p
    exact ⟨F, φ, ρ, st, B, V, p.bind.mono fun ds st1 F1 φ1 H1 S1 B1 p1 vs rvs => ⟨F1, φ1, st1, ds, B1, rvs, p1.rq S1⟩⟩
  have hs1 := hs x List.mem_cons_self
  have hs2 : ∀ e ∈ xs, isStarE e = false := fun e he => hs e (List.mem_cons_of_mem _ he)
  rcases bi_ok g b hb with ⟨id, h1, h2⟩ | ⟨T, h1, h2⟩
  · exact go (pe_callB h2 (g.gl hg) (g.prg.bi _ (biNm_mem b)) h1 h (biNm_ne b).1 (biNm_ne b).2 (star_ne hs1) (star_no hs2)) rfl
  · exact go (pe_callTy h2 (g.gl hg) (g.prg.bi _ (biNm_mem b)) h1 h (biNm_ne b).1 (biNm_ne b).2 (star_ne hs1) (star_no hs2)) rfl

theorem s_setI {es : E} {z : Expr} {p p2 pos pos2 : Pos} (g : Good Y call G k W sc raw N X) (h1 : glbB sc "sorted" = true) (h2 : glbB sc "set" = true) (h : PA X [z] (tBs X.K Y call es W)) (hs : isStarE z = false) :
    PE X (.Call (.Name "sorted" p) [.Call (.Name "set" p2) [z] [] pos2] [] pos) (tD X.K Y call (.bi .setI es) W) := by
  have m1 : ("sorted" : Str) ∈ builtins := by decide +kernel
  have m2 : ("set" : Str) ∈ builtins := by decide +kernel
  have b1 : bootBuiltins "sorted" = some (.builtin "sorted") := by decide +kernel
  have b2 : bootBuiltins "set" = some (.type "set") := by decide +kernel
  refine PE.imp (pe_callB (cr_sortS g.calm) (g.gl h1) (g.prg.bi _ m1) b1 (pa_cons (pe_callTy (cr_mkSet g.calm) (g.gl h2) (g.prg.bi _ m2) b2 h (by decide +kernel) (by decide +kernel) (star_ne hs) (star_no fun e he => nomatch he)) pa_nil (star_ne rfl)) (by decide +kernel) (by decide +kernel) (star_ne rfl) (star_no fun e he => nomatch he)) fun σ H Q ⟨F, φ, ρ, st, B, V, p⟩ => ?_
  rw [evE] at p
  refine ⟨F, φ, ρ, st, B, V, p.bind.mono fun ds st1 F1 φ1 H1 S1 B1 p1 vs rvs => ?_⟩
  obtain ⟨d, e, p2⟩ := p1.of_lift
  unfold biD at e
  split at e <;> first | contradiction | skip
  obtain ⟨v, rfl, hx⟩ := rvs.one
  obtain ⟨xs, e1, e2⟩ := Option.bind_eq_some_iff.mp e
  obtain ⟨ns, e3, e4⟩ := Option.bind_eq_some_iff.mp e2
  split at e4
  · rename_i hl
    cases e4
    obtain ⟨a, ws, rfl, ha, ra⟩ := hx.asL B1 e1
    have ew := ra.ints e3
    subst ew
    refine ⟨a, ns, rfl, sq_of ha, hl, fun q c hq => ⟨q, _, c, rfl, upd_same, fun ms r h3 h4 hr => ?_⟩⟩
    have em := sortU_one (ns := ns) h3 fun k => (h4 k).trans decide_eq_true_iff
    subst em
    exact end_fls ((p2.step (Step.laid hq)).rq (S1.trans (Step.laid hq))) (B1.laid hq) (Reps.intsV _) r hr
  · cases e4
/-! ### isinstance -/
theorem tyNm_boot (t : Ty) : bootBuiltins (tyNm t) = some (.type (tys t)) ∧ tyNm t ∈ builtins ∧ tyNm t ≠ "__name__" ∧ (tyNm t == ("__debug__" : Str)) = false := by
  cases t <;> exact ⟨by decide +kernel, by decide +kernel, by decide +kernel, by decide +kernel⟩
theorem pe_ty {t : Ty} {p : Pos} (g : Good Y call G k W sc raw N X) (hg : glbB sc (tyNm t) = true) : PE X (.Name (tyNm t) p) (tC (.ty (tys t))) :=
  let ⟨h1, h2, h3, h4⟩ := tyNm_boot t
  pe_bltn (v := .ty (tys t)) (g.gl hg) (g.prg.bi _ h2) h1 rfl h3 h4
def tTys (ts : List Ty) : TA := fun _ H Q => Q (ts.map fun t => V.ty (tys t)) H
theorem pa_tys (g : Good Y call G k W sc raw N X) : ∀ {ts : List Ty} {es : List Expr}, tysB sc ts es = true → PA X es (tTys ts)
  | [], [], _ => PA.imp pa_nil fun σ H Q q => q
  | [], e :: es, h => by cases e <;> cases h
  | t :: ts, [], h => by cases h
  | t :: ts, e :: es, h => by
    unfold tysB at h
    split at h <;> try (first | contradiction | cases h)
    rename_i heq1 heq2
    obtain ⟨rfl, rfl⟩ := List.cons.inj heq1
    obtain ⟨rfl, rfl⟩ := List.cons.inj heq2
    simp only [Bool.and_eq_true, beq_iff_eq] at h
    obtain ⟨⟨rfl, h2⟩, h3⟩ := h
    exact PA.imp (pa_cons (pe_ty g h2) (pa_tys g h3) (star_ne rfl)) fun σ H Q q => q
theorem cls_tys : ∀ ts : List Ty, Paired ClsV (ts.map fun t => V.ty (tys t)) (ts.map fun t => Value.type (tys t))
  | [] => .nil
  | t :: ts => .cons (.ty _) (cls_tys ts)
theorem isi_mem : ("isinstance" : Str) ∈ builtins := by decide +kernel
theorem s_isi1 {a : E} {t : Ty} {y : Expr} {p p2 pos : Pos} (g : Good Y call G k W sc raw N X) (hg : glbB sc "isinstance" = true) (ha : PE X y (tD X.K Y call a W)) (hs : isStarE y = false) (ht : glbB sc (tyNm t) = true) :
    PE X (.Call (.Name "isinstance" p) [y, .Name (tyNm t) p2] [] pos) (tD X.K Y call (.isi a [t]) W) := by
  refine PE.imp (pe_callB call_isi (g.gl hg) (g.prg.bi _ isi_mem) PyProof.Rows.boot_isinstance (pa_cons ha (pa_cons (pe_ty g ht) pa_nil (star_ne rfl)) (star_ne hs)) (by decide) (by decide) (star_ne hs) (star_no fun e he => by rw [List.mem_singleton.mp he]; rfl)) fun σ H Q ⟨F, φ, ρ, st, B, V, p⟩ => ?_
  rw [evE] at p
  refine one_of B V p fun d st1 F1 φ1 H1 v S1 B1 V1 rv fv p1 => ?_
  obtain ⟨b, e, p2⟩ := p1.of_lift
  obtain ⟨c, e1, rfl⟩ := Option.map_eq_some_iff.mp e
  refine ⟨v, _, _, _, c, rfl, .ty _, tyx_of B1 rv e1, ?_, end_bl (p2.rq S1) B1⟩
  have h1 := kit_all d [t] c e1 t
  have h2 : c = isi1 d t := by
    cases d <;> first | cases e1; done | (cases e1; simp)
  rw [h2]
  exact kit_ty h1
theorem s_isiT {a : E} {ts : List Ty} {y : Expr} {zs : List Expr} {kk : Nat} {p p2 pos : Pos} (g : Good Y call G k W sc raw N X) (hg : glbB sc "isinstance" = true) (ha : PE X y (tD X.K Y call a W)) (hs : isStarE y = false) (ht : tysB sc ts zs = true) (hl : ts.length < 100) :
    PE X (.Call (.Name "isinstance" p) [y, .Tuple zs kk p2] [] pos) (tD X.K Y call (.isi a ts) W) := by
  refine PE.imp (pe_callB call_isiT (g.gl hg) (g.prg.bi _ isi_mem) PyProof.Rows.boot_isinstance (pa_cons ha (pa_cons (pe_tup (pa_tys g ht)) pa_nil (star_ne rfl)) (star_ne hs)) (by decide) (by decide) (star_ne hs) (star_no fun e he => by rw [List.mem_singleton.mp he]; rfl)) fun σ H Q ⟨F, φ, ρ, st, B, V, p⟩ => ?_
  rw [evE] at p
  refine one_of B V p fun d st1 F1 φ1 H1 v S1 B1 V1 rv fv p1 => ?_
  obtain ⟨b, e, p2⟩ := p1.of_lift
  obtain ⟨c, e1, rfl⟩ := Option.map_eq_some_iff.mp e
  have h2 : c = ts.any (isi1 d) := by
    cases d <;> first | cases e1; done | (cases e1; rfl)
  refine ⟨by rw [List.length_map]; exact Nat.le_trans (Nat.le_of_lt hl) (by decide), fun q hq => ⟨v, q, _, _, _, c, rfl, upd_same, cls_tys ts, tyx_of (B1.laid hq) (rv.step (Step.laid hq)) e1, by rw [h2]; exact kitAny_of e1 ts, ?_⟩⟩
  exact end_bl ((p2.step (Step.laid hq)).rq (S1.trans (Step.laid hq))) (B1.laid hq)
end
end Gb

/-! enumerate of a tuple. -/
namespace Gb
open PySem PySem.Spec PyProof.Rows L2
set_option maxHeartbeats 1000000 in
theorem meets_enum_newT (a : Addr) (items : Array Value) :
    Meets (Builtin.«enumerate.__new__» ⟨[.type "enumerate", .ref a], []⟩) (fun _ R s => s.heap.IsTuple a items ∧
      R (.ok (.ret (.ref (s.heap.push { cls := .type "tuple_iterator", data := .fields #[.ref a, .int 0 0] }).objs.size)))
        { s with heap := (s.heap.push { cls := .type "tuple_iterator", data := .fields #[.ref a, .int 0 0] }).push { cls := .type "enumerate", data := .fields #[.none, .bool false, .ref s.heap.objs.size, rawInt 0, .none, .none] } }) :=
  .of_wp fun prog w A R s h => by
    obtain ⟨hp, g, d, tk, os⟩ := s
    obtain ⟨hL, h⟩ := h
    have hsub := sub_enumerate
    wp_walk
    refine wpAny_stack_any fun st => wpAny_pure ?_
    split
    · rename_i c _ _ _ _ _
      cases (c == Value.type "enumerate")
      · wp_walk using wpAny_pyIter_tuple hL
        exact ⟨_, rfl, h⟩
      · wp_walk using wpAny_pyIter_tuple hL
        exact ⟨_, rfl, h⟩
    · wp_walk using wpAny_pyIter_tuple hL
      exact ⟨_, rfl, h⟩
section
variable {prog : Program} {w : World} {A : Around} {E : Value → Shared → Prop} {s : Shared}
theorem call_enum_tup {a : Addr} {items : Array Value} {Q : Value → Shared → Prop} (hL : s.heap.IsTuple a items)
    (h : ∀ h', IsEnum h' (s.heap.objs.size + 1) s.heap.objs.size 0 .none → h'.IsTupleIter s.heap.objs.size a 0 → h'.objs.size = s.heap.objs.size + 2 →
      (∀ b o, s.heap.get? b = some o → h'.get? b = some o) → Q (.ref (s.heap.objs.size + 1)) { s with heap := h' }) :
    wpAny (model prog w) A (call (.type "enumerate") [.ref a]) Q E s := by
  refine callType_new F.called_enumerate (by decide) (F.typeCall_enumerate_1 _) (F.newCall_enumerate_1 _) (fun obj => F.args_object_init_2 obj _) F.entry_enumerate_new
    (meets_enum_newT a items) ⟨hL, ?_⟩
  have hz : (s.heap.push { cls := .type "tuple_iterator", data := .fields #[.ref a, .int 0 0] }).objs.size = s.heap.objs.size + 1 := Heap.size_push ..
  show _ ∧ _
  rw [hz]
  have he : IsEnum ((s.heap.push { cls := .type "tuple_iterator", data := .fields #[.ref a, .int 0 0] }).push
      { cls := .type "enumerate", data := .fields #[.none, .bool false, .ref s.heap.objs.size, rawInt 0, .none, .none] }) (s.heap.objs.size + 1) s.heap.objs.size 0 .none := by
    have := Heap.get?_push_size (s.heap.push { cls := .type "tuple_iterator", data := .fields #[.ref a, .int 0 0] })
      (o := { cls := .type "enumerate", data := .fields #[.none, .bool false, .ref s.heap.objs.size, rawInt 0, .none, .none] }) rfl
    rw [hz] at this; exact this
  refine ⟨⟨_, he, rfl⟩, h _ he ⟨_, Heap.get?_push_of_some _ (Heap.get?_push_size _ rfl), rfl, rfl⟩ (by rw [Heap.size_push, hz]) fun b o x => Heap.get?_push_of_some _ (Heap.get?_push_of_some _ x)⟩
end
/-- the tuple at a, n items, each in a new pair -/
def IteT (K : PySem.W.Frag) (a : Addr) (n : Nat) : It :=
  ⟨fun i H => ∃ (xs : List V) (x : V), SqT K H a xs ∧ xs.length = n ∧ xs[i]? = some x, fun i H v H' => ∃ T x, v = .ref T ∧ H T = none ∧ H' = upd H T (.tup [.int (i : Nat), x]) ∧ ∀ xs, SqT K H a xs → xs[i]? = some x, fun i H => n ≤ i ∧ ∃ xs : List V, SqT K H a xs ∧ xs.length = n⟩
theorem turn_enumT {P : Program} {w : World} {K : PySem.W.Frag} {elts : List Expr} {kk : Nat} {tpos : Pos} (a e it : Addr) (n : Nat) :
    Turn P w K (.Tuple elts kk tpos) (IteT K a n) [e, it] e (fun i h => (∃ old, IsEnum h e it ((i : Nat) : Int) old) ∧ h.IsTupleIter it a i ∧ e ≠ it ∧ i ≤ n) where
  mem := by simp
  obj := fun i h st b hb => by
    obtain ⟨⟨old, he⟩, ⟨o, ho, hc, hd⟩, _⟩ := st
    have e' : b = e ∨ b = it := by simpa using hb
    rcases e' with z | z
    · rw [z]; exact ⟨_, he, fun v q => nomatch q⟩
    · rw [z]; exact ⟨o, ho, fun v q => by rw [hd] at q; cases q⟩
  keep := fun i h h' st k => let ⟨⟨old, he⟩, hi, hne, hn⟩ := st; ⟨⟨old, k e (by simp) _ he⟩, hi.at fun o q => k it (by simp) o q, hne, hn⟩
  item := by
    intro X hP hw hK hc i pins s σ H E I hf st hg
    subst hP hw hK
    obtain ⟨⟨old, he⟩, hit, hne, hin⟩ := st
    obtain ⟨xs, x, hq, hxl, hx⟩ := hg
    obtain ⟨its, rv, p, hz⟩ := I.tuple hq
    have p : s.heap.IsTuple a its.toArray := p
    obtain ⟨u, hu, ru⟩ := rv.get hx
    have hel : e < s.heap.objs.size := Heap.lt_size he
    have hil : it < s.heap.objs.size := by obtain ⟨_, q, _⟩ := hit; exact Heap.lt_size q
    have nei : a ≠ it := by
      rintro rfl
      obtain ⟨o, q, c, _⟩ := hit
      obtain ⟨o2, q2, c2, _⟩ := p
      rw [q] at q2
      cases q2
      rw [c] at c2
      exact absurd c2 (by decide)
    have nea : a ≠ e := by
      rintro rfl
      obtain ⟨o2, q2, c2, _⟩ := p
      have he' : s.heap.get? a = _ := he
      rw [he'] at q2
      cases q2
      have c3 : Value.type "enumerate" = Value.type "tuple" := c2
      exact absurd c3 (by decide)
    have hlt : i < its.toArray.size := by
      have h1 : i < its.length := (List.getElem?_eq_some_iff.mp hu).1
      simpa using h1
    have hxs : i < xs.length := (List.getElem?_eq_some_iff.mp hx).1
    refine wpAny_pyNext_enum_itemD (Draws.tuple (show X.A.in1.handled = none from I.ok.hd hc) it a nei its.toArray) he ⟨hit, p⟩ hlt hne (by simp; exact ⟨hne, Ne.symm nea⟩) fun u' h' tk hu' ho st' hT hsz hk => ?_
    have e0 : u' = u := by
      have h1 : its.toArray[i]? = some u' := hu'
      have h2 : its.toArray[i]? = some u := by simpa using hu
      rw [h1] at h2
      cases h2; rfl
    subst e0
    obtain ⟨hit', _⟩ := st'
    refine ⟨_, rfl, wpAny_letOwnedTupleGo_enum (s := { s with heap := h', toks := tk + 1 }) ho fun h'' he' sb => ?_⟩
    have hT2 : h''.get? s.heap.objs.size = some { cls := .type "tuple", data := .seq #[.int i tk, u'] } := (sb.2 _ (Nat.ne_of_gt hel)).trans hT
    have new : ObjOk X.prog X.w (upd H s.heap.objs.size (.tup [.int (i : Nat), x])) h'' s.heap.objs.size (.tup [.int (i : Nat), x]) :=
      ⟨by show 2 ≤ sizeLine; decide, [.int i tk, u'], .cons ⟨_, rfl⟩ (.cons ru .nil), ⟨_, hT2, rfl, _, rfl⟩⟩
    have I1 : Inv X pins σ (upd H s.heap.objs.size (.tup [.int (i : Nat), x])) { s with heap := h'', toks := tk + 1 } :=
      I.turnedNew (ch := [e, it]) (fun b ob hb q => (sb.2 b (fun z => hb (by simp [z]))).trans (hk b ob (fun z => hb (by simp [z])) (fun z => hb (by simp [z])) q)) hf (Nat.le_refl _) new
    refine ⟨.ref s.heap.objs.size, _, I1, rfl, ⟨_, x, rfl, I.hok.fresh (Nat.le_refl _), rfl, fun ys hy => by rw [I.tuple_inj hy hq]; exact hx⟩, ⟨⟨u', ?_⟩, hit'.at fun o q => (sb.2 it (Ne.symm hne)).trans q, hne, by omega⟩, fun b hb => ?_⟩
    · have e1 : ((i + 1 : Nat) : Int) = (i : Int) + 1 := by omega
      rw [e1]; exact he'
    · have hb' : b < s.heap.objs.size := by
        have e' : b = e ∨ b = it := by simpa using hb
        rcases e' with z | z
        · rw [z]; exact hel
        · rw [z]; exact hil
      rw [upd_ne (Nat.ne_of_lt hb')]
      exact (hf b hb).1
  done := by
    intro X hP hw hK hc i pins s σ H E I hf st hg
    subst hP hw hK
    obtain ⟨⟨old, he⟩, hit, hne, hin⟩ := st
    obtain ⟨hni, xs, hq, hxl⟩ := hg
    obtain ⟨its, rv, p, hz⟩ := I.tuple hq
    have p : s.heap.IsTuple a its.toArray := p
    obtain ⟨f0, f1, f2, f3, f4, f5⟩ := hf it (by simp)
    have hl := rv.length
    have nei : a ≠ it := by
      rintro rfl
      obtain ⟨o, q, c, _⟩ := hit
      obtain ⟨o2, q2, c2, _⟩ := p
      rw [q] at q2
      cases q2
      rw [c] at c2
      exact absurd c2 (by decide)
    have hi : i = its.toArray.size := by simp; omega
    have hit2 : s.heap.IsTupleIter it a its.toArray.size := hi ▸ hit
    exact wpAny_pyNext_enum_endD (Draws.tuple (show X.A.in1.handled = none from I.ok.hd hc) it a nei its.toArray) he ⟨hit2, p⟩ fun h' eb => ⟨rfl, I.turned (t' := s.toks) (fun b o hb q => eb b o hb q) f0 f1 f3 f4 f5⟩
  self := fun A i s Q E st h => let ⟨⟨_, he⟩, _⟩ := st; wpAny_pyIter_enum he h
def iEnumA (K : PySem.W.Frag) (ta : TA) : TI := fun σ H R => ta σ H fun vs H1 => ∃ a xs, vs = [.ref a] ∧ ((SqL K H1 a xs ∧ R (Ite K a) H1) ∨ (SqT K H1 a xs ∧ R (IteT K a xs.length) H1))
theorem pi_enumA {X : Cx} {e : Expr} {ta : TA} {p pos tpos : Pos} {elts : List Expr} {kk : Nat} (hg : Gl X "enumerate") (hm : X.mg "enumerate" = none) (ha : PA X [e] ta) (hs : starEach [e] X.env = [(false, eval e X.env)] := by rfl) :
    PI X (.Tuple elts kk tpos) (.Call (.Name "enumerate" p) [e] [] pos) (iEnumA X.K ta) := by
  refine ⟨fun pins s σ H R I h => ?_⟩
  refine Call_ (ld_blt I hg hm boot_enumerate (PyProof.Rows.callWith_type1 (thn (ha.run pos pins s σ H _ I h) fun us s1 ⟨vs, H1, I1, r1, q1⟩ => ?_) hs rfl))
  obtain ⟨a, xs, ex, q1⟩ := q1
  subst ex
  cases r1 with
  | cons r rr =>
    cases rr
    cases r
    have fresh2 : ∀ b, b ∈ [s1.heap.objs.size + 1, s1.heap.objs.size] → FpOk X pins H1 b := fun b hb => by
      have e' : b = s1.heap.objs.size + 1 ∨ b = s1.heap.objs.size := by simpa using hb
      have hle : s1.heap.objs.size ≤ b := by
        rcases e' with z | z
        · rw [z]; exact Nat.le_add_right _ _
        · rw [z]; exact Nat.le_refl _
      exact I1.fpOk hle (I1.hok.fresh hle)
    rcases q1 with ⟨hq, q⟩ | ⟨hq, q⟩
    · obtain ⟨its, rv, p', hz⟩ := I1.list hq
      refine call_enumerate_list p'.isList fun h' he hit hsz hk => wpAny_pyIter_enum he ?_
      have I2 : Inv X pins σ H1 { s1 with heap := h' } := I1.kept (t' := s1.toks) hk
      exact ⟨s1.heap.objs.size + 1, [s1.heap.objs.size + 1, s1.heap.objs.size], _, _, H1, rfl, I2, turn_enum a (s1.heap.objs.size + 1) s1.heap.objs.size, ⟨⟨.none, he⟩, hit, Nat.succ_ne_self _⟩, fresh2, q⟩
    · obtain ⟨its, rv, p', hz⟩ := I1.tuple hq
      have p' : s1.heap.IsTuple a its.toArray := p'
      refine call_enum_tup p' fun h' he hit hsz hk => wpAny_pyIter_enum he ?_
      have I2 : Inv X pins σ H1 { s1 with heap := h' } := I1.kept (t' := s1.toks) hk
      exact ⟨s1.heap.objs.size + 1, [s1.heap.objs.size + 1, s1.heap.objs.size], _, _, H1, rfl, I2, turn_enumT a (s1.heap.objs.size + 1) s1.heap.objs.size xs.length, ⟨⟨.none, he⟩, hit, Nat.succ_ne_self _, Nat.zero_le _⟩, fresh2, q⟩
end Gb

/-! Calls of defs; what is walked. -/
namespace Gb
open PySem PySem.Spec PyProof.Rows L2 StX

section
variable {Y : ExT} {call : CallF} {G : Glob} {k : Nat} {W : XK} {sc raw : Scope} {N : List Str} {X : L2.Cx}

/-! ### calls of defs -/
theorem s_call {f : Nat} {x : Str} {ps : List Str} {es : E} {as : List Expr} {p pos : Pos} (g : Good Y call G k W sc raw N X) (hf : G.fn f = some (x, ps)) (hg : glbB sc x = true) (hd : noDbg x = true) (h : PA X as (tA X.K Y call es W)) (hs : ∀ e ∈ as, isStarE e = false) (hn : as = [] → es = .nil) :
    PE X (.Call (.Name x p) as [] pos) (tD X.K Y call (.call f es) W) := by
  obtain ⟨a, fd, h1, h2, h3, h4, _⟩ := g.prg.fn f x ps hf
  cases as with
  | nil =>
    cases hn rfl
    refine PE.imp (pe_call0 h3 g.room (g.gl hg) h1 h2 h4 .nil g.pass (dbg_of hd).1) fun σ H Q ⟨F, φ, ρ, st, B, V, p⟩ => ?_
    rw [evE, evA] at p
    exact ⟨F, φ, st, [], B, .nil, rfl, p⟩
  | cons y ys =>
    refine PE.imp (pe_call h3 g.room (g.gl hg) h1 h2 h4 .nil g.pass h (dbg_of hd).1 (star_ne (hs y List.mem_cons_self)) (star_no fun e he => hs e (List.mem_cons_of_mem _ he))) fun σ H Q ⟨F, φ, ρ, st, B, V, p⟩ => ?_
    rw [evE] at p
    refine ⟨F, φ, ρ, st, B, V, p.bind.mono fun ds st1 F1 φ1 H1 S1 B1 p1 vs rvs hall => ?_⟩
    show spD X.K Y call f (vs ++ []) H1 Q W
    rw [List.append_nil]
    exact ⟨F1, φ1, st1, ds, B1, rvs, hall, p1.rq S1⟩

theorem nms_pa (g : Good Y call G k W sc raw N X) : ∀ {fs : List Nat} {es : List Expr}, nmsB G sc fs es = true → ∃ as : List Addr, as.length = fs.length ∧ (∀ (m : Nat) (f : Nat), fs[m]? = some f → ∃ (a : Addr) (x : Str) (ps : List Str), as[m]? = some a ∧ G.fn f = some (x, ps) ∧ X.mg x = some (.ref a)) ∧
    PA X es (fun _ H Q => Q (as.map V.ref) H)
  | [], [], _ => ⟨[], rfl, fun m f (e : ([] : List Nat)[m]? = some f) => by simp at e, pa_nil⟩
  | [], _ :: _, h => by cases h
  | f :: fs, [], h => by cases h
  | f :: fs, e :: es, h => by
    cases e with
    | Name x0 p0 =>
      unfold nmsB at h
      simp only [Bool.and_eq_true] at h
      obtain ⟨⟨⟨c1, c2⟩, c3⟩, c4⟩ := h
      obtain ⟨as, l1, l2, pa⟩ := nms_pa g c4
      cases hf : G.fn f with
      | none => rw [hf] at c1; cases c1
      | some q =>
        obtain ⟨y, ps⟩ := q
        rw [hf] at c1
        simp only [beq_iff_eq] at c1
        subst c1
        obtain ⟨a, fd, q1, _⟩ := g.prg.fn f _ ps hf
        refine ⟨a :: as, by rw [List.length_cons, List.length_cons, l1], fun m f' e => ?_, ?_⟩
        · cases m with
          | zero =>
            rw [List.getElem?_cons_zero] at e
            cases e
            exact ⟨a, _, ps, rfl, hf, q1⟩
          | succ m =>
            rw [List.getElem?_cons_succ] at e
            obtain ⟨a', x', ps', z1, z2, z3⟩ := l2 m f' e
            exact ⟨a', x', ps', by rw [List.getElem?_cons_succ]; exact z1, z2, z3⟩
        · exact pa_cons (pe_glob (v := .ref a) (g.gl c2) q1 rfl (dbg_of c3).1) pa (star_ne rfl)
    | _ => cases h
theorem s_callL {fs : List Nat} {i es : E} {ns ys : List Expr} {y z : Expr} {p1 p2 pos : Pos} (g : Good Y call G k W sc raw N X) (hl : fs.length ≤ 100) (hn : nmsB G sc fs ns = true) (hz : isSliceE z = false) (hi : PE X z (tD X.K Y call i W)) (h : PA X (y :: ys) (tA X.K Y call es W)) (hs : ∀ e ∈ y :: ys, isStarE e = false) :
    PE X (.Call (.Subscript (.List ns p1) z p2) (y :: ys) [] pos) (tD X.K Y call (.callL fs i es) W) := by
  have hpl : PlainIx z := fun o j => by cases z <;> first | rfl | cases hz
  obtain ⟨as, l1, l2, pa⟩ := nms_pa g hn
  refine ⟨fun pins s σ H Q I hq => ?_⟩
  obtain ⟨F, φ, ρ, st, B, Ve, p⟩ := hq
  rw [evE] at p
  let Q' : VK := fun v H1 => ∃ (f : Nat) (a : Addr) (x : Str) (ps : List Str), v = .ref a ∧ G.fn f = some (x, ps) ∧ X.mg x = some (.ref a) ∧ tA X.K Y call es W σ H1 (fun vs H2 => spD X.K Y call f vs H2 Q W)
  have hc : tOp (rIx X.K) (tLst (fun _ H Q => Q (as.map V.ref) H)) (tD X.K Y call i W) σ H Q' := by
    refine ⟨by rw [List.length_map, l1]; exact Nat.le_trans hl (by decide), fun pp hp => ?_⟩
    have S0 : Step F φ H (upd F pp (.lst (as.map V.ref))) φ (upd H pp (.lst (as.map V.ref))) := .laidF B hp
    have B0 := B.laidF (o := .lst (as.map V.ref)) hp
    refine one_of B0 (Ve.step S0) ((p.step S0).rq S0) fun d st1 F1 φ1 H1 v S1 B1 V1 rv fv q1 => ?_
    split at q1
    · rename_i j
      split at q1
      · rename_i f hf
        obtain ⟨m, m1, m2⟩ := Option.bind_eq_some_iff.mp (show (L2.ixN fs.length j).bind (fun m => fs[m]?) = some f from hf)
        obtain ⟨a, x, ps, z1, z2, z3⟩ := l2 m f m2
        have hk : H1 pp = some (.lst (as.map V.ref)) := S1.keep pp _ upd_same (B.nin hp)
        refine .inl ⟨pp, as.map V.ref, j, .ref a, rfl, rv.int, sq_of hk, ?_, f, a, x, ps, rfl, z2, z3, ?_⟩
        · show (L2.ixN (as.map V.ref).length j).bind (fun m => (as.map V.ref)[m]?) = _
          rw [List.length_map, l1, m1]
          show (as.map V.ref)[m]? = _
          rw [List.getElem?_map, z1]; rfl
        · have q2 := q1.rq S1
          refine ⟨F1, φ1, ρ, st1, B1, V1, q2.bind.mono fun ds st2 F2 φ2 H2 S2 B2 q3 vs rvs hall => ?_⟩
          exact ⟨F2, φ2, st2, ds, B2, rvs, hall, q3.rq S2⟩
      · exact q1.elim
    · exact q1.elim
  refine Call_ (thn ((pe_ix ix_seq (pe_lst pa) hi hpl).run pins s σ H Q' I hc) fun u s1 ⟨v, H1, I1, rx, f, a, x, ps, ev, hf, hm, q1⟩ => ?_)
  subst ev
  obtain rfl : u = Value.ref a := rx
  obtain ⟨a', fd, h1, h2, h3, h4, _⟩ := g.prg.fn f x ps hf
  rw [hm] at h1
  cases h1
  refine PySem.W.callWith_K (first := []) (h₀ := X.base) I.ok.mod.kin h2 (thn (h.run pos pins s1 σ H1 _ I1 q1) fun us s2 ⟨vs, H2, I2, r, q2⟩ => ⟨I2.kIn, ?_⟩) (star_ne (hs y List.mem_cons_self)) (star_no fun e he => hs e (List.mem_cons_of_mem _ he))
  refine run_fn (vs := vs) h3 g.room h4 .nil g.pass I2 r ?_
  rw [List.append_nil]
  exact q2

theorem PK.imp {kws : List Keyword} {t t' : TA} (h : PK X kws t) (i : ∀ σ H Q, t' σ H Q → t σ H Q) : PK X kws t' := ⟨fun pos pins s σ H Q I q => h.run pos pins s σ H Q I (i σ H Q q)⟩
theorem k_nil : PK X [] (tA X.K Y call .nil W) := PK.imp pk_nil fun σ H Q ⟨F, φ, ρ, st, B, V, p⟩ => by
  rw [evA] at p
  exact p.now B [] .nil rfl
theorem k_cons {a r : E} {x : Expr} {nm : Option Str} {kp : Pos} {xs : List Keyword} (ha : PE X x (tD X.K Y call a W)) (hr : PK X xs (tA X.K Y call r W)) : PK X (⟨nm, x, kp⟩ :: xs) (tA X.K Y call (.cons a r) W) := by
  refine PK.imp (pk_cons ha hr) fun σ H Q ⟨F, φ, ρ, st, B, V, p⟩ => ?_
  rw [evA] at p
  refine one_ofF B V p fun d st1 F1 φ1 H1 v S1 B1 rv fv p1 => ?_
  cases e : frzD d with
  | none =>
    have z := p1 F1 S1 B1
    rw [e] at z
    exact z.elim
  | some d' =>
    obtain ⟨F2, S2, B2, r2, n2⟩ := frz_of e rv fv B1 S1
    have z := p1 F2 S2 B2
    rw [e] at z
    exact ⟨F2, φ1, ρ, st1, B2, V.step S2, z.bind.mono fun ds st3 F3 φ3 H3 S3 B3 q vs rvs hall => q.now B3 (v :: vs) (.cons (r2.step S3) rvs) (by rw [List.all_cons, n2, hall]; rfl)⟩
theorem kw_some {env : PySem.Env} {pos : Pos} : ∀ {es : E} {kws : List Keyword}, chkK G N sc raw es kws = true → (backToKw pos (keywordEach kws env)).all (·.1.isSome) = true ∧ (backToKw pos (keywordEach kws env)).any (·.1.isNone) = false ∧
    (backToKw pos (keywordEach kws env)).filterMap (·.1) = kws.filterMap (·.arg)
  | es, [], _ => ⟨rfl, rfl, rfl⟩
  | es, ⟨nm, x, kp⟩ :: kws, h => by
    unfold chkK at h
    split at h <;> try (first | contradiction | cases h)
    rename_i heq
    obtain ⟨e1, rfl⟩ := List.cons.inj heq
    injection e1 with e2 e3 e4
    subst e2
    simp only [Bool.and_eq_true] at h
    obtain ⟨i1, i2, i3⟩ := kw_some (env := env) (pos := pos) h.2
    refine ⟨?_, ?_, ?_⟩
    · show ((some _).isSome && _) = true
      exact i1
    · show ((some _).isNone || _) = false
      exact i2
    · show _ :: (backToKw pos (keywordEach kws env)).filterMap (·.1) = _ :: kws.filterMap (·.arg)
      rw [i3]
def elen : E → Nat
  | .cons _ r => elen r + 1
  | _ => 0
theorem evA_len : ∀ {es : E} {ρ : Env} {st st' : Store} {ds : List D}, evA call es ρ st = .ok ds st' → ds.length = elen es
  | .nil, ρ, st, st', ds, h => by rw [evA] at h; cases h; rfl
  | .cons e es, ρ, st, st', ds, h => by
    rw [evA] at h
    cases h1 : evE call e ρ st with
    | bad => rw [h1] at h; cases h
    | ex x st1 => rw [h1] at h; cases h
    | ok d st1 =>
      rw [h1] at h
      have h : (match frzD d with | some d => (evA call es ρ st1).bind fun ds st => .ok (d :: ds) st | none => .bad : Out (List D)) = .ok ds st' := h
      cases h2 : frzD d with
      | none => rw [h2] at h; cases h
      | some d2 =>
        rw [h2] at h
        have h : ((evA call es ρ st1).bind fun ds st => .ok (d2 :: ds) st) = .ok ds st' := h
        cases h3 : evA call es ρ st1 with
        | bad => rw [h3] at h; cases h
        | ex x st1 => rw [h3] at h; cases h
        | ok d st1 =>
          rw [h3] at h
          cases h
          show d.length + 1 = _
          rw [evA_len h3, elen]
  | .var _, _, _, _, _, h => by rw [evA] at h <;> first | cases h | simp
  | .con _, _, _, _, _, h => by rw [evA] at h <;> first | cases h | simp
  | .glob .., _, _, _, _, h => by rw [evA] at h <;> first | cases h | simp
  | .bin .., _, _, _, _, h => by rw [evA] at h <;> first | cases h | simp
  | .neg _, _, _, _, _, h => by rw [evA] at h <;> first | cases h | simp
  | .not _, _, _, _, _, h => by rw [evA] at h <;> first | cases h | simp
  | .and .., _, _, _, _, h => by rw [evA] at h <;> first | cases h | simp
  | .or .., _, _, _, _, h => by rw [evA] at h <;> first | cases h | simp
  | .cmp .., _, _, _, _, h => by rw [evA] at h <;> first | cases h | simp
  | .chain .., _, _, _, _, h => by rw [evA] at h <;> first | cases h | simp
  | .ite .., _, _, _, _, h => by rw [evA] at h <;> first | cases h | simp
  | .call .., _, _, _, _, h => by rw [evA] at h <;> first | cases h | simp
  | .callK .., _, _, _, _, h => by rw [evA] at h <;> first | cases h | simp
  | .bi .., _, _, _, _, h => by rw [evA] at h <;> first | cases h | simp
  | .isi .., _, _, _, _, h => by rw [evA] at h <;> first | cases h | simp
  | .tup _, _, _, _, _, h => by rw [evA] at h <;> first | cases h | simp
  | .lst _, _, _, _, _, h => by rw [evA] at h <;> first | cases h | simp
  | .star .., _, _, _, _, h => by rw [evA] at h <;> first | cases h | simp
  | .idx .., _, _, _, _, h => by rw [evA] at h <;> first | cases h | simp
  | .slc .., _, _, _, _, h => by rw [evA] at h <;> first | cases h | simp
  | .comp .., _, _, _, _, h => by rw [evA] at h <;> first | cases h | simp
  | .comp2 .., _, _, _, _, h => by rw [evA] at h <;> first | cases h | simp
  | .rng1 _, _, _, _, _, h => by rw [evA] at h <;> first | cases h | simp
  | .rng2 .., _, _, _, _, h => by rw [evA] at h <;> first | cases h | simp
  | .enm _, _, _, _, _, h => by rw [evA] at h <;> first | cases h | simp
  | .zip .., _, _, _, _, h => by rw [evA] at h <;> first | cases h | simp
  | .seq _, _, _, _, _, h => by rw [evA] at h <;> first | cases h | simp
  | .lrng1 _, _, _, _, _, h => by rw [evA] at h <;> first | cases h | simp
  | .lrng2 .., _, _, _, _, h => by rw [evA] at h <;> first | cases h | simp
  | .rev _, _, _, _, _, h => by rw [evA] at h <;> first | cases h | simp
  | .callL .., _, _, _, _, h => by rw [evA] at h <;> first | cases h | simp
theorem kw_len : ∀ {es : E} {kws : List Keyword}, chkK G N sc raw es kws = true → elen es = (kws.filterMap (·.arg)).length
  | es, [], h => by
    unfold chkK at h
    split at h <;> try (first | contradiction | cases h)
    rfl
  | es, ⟨nm, x, kp⟩ :: kws, h => by
    unfold chkK at h
    split at h <;> try (first | contradiction | cases h)
    rename_i heq
    obtain ⟨e1, rfl⟩ := List.cons.inj heq
    injection e1 with e2 e3 e4
    subst e2
    simp only [Bool.and_eq_true] at h
    show elen _ + 1 = (_ :: kws.filterMap (·.arg)).length
    rw [kw_len h.2]
    rfl
theorem perm_vals {K : PySem.W.Frag} {F : Hp} {φ : List Addr} {H : Hp} {ds : List D} {vs : List V} {ws : List Value} (r : RepXs K F φ H ds vs) (rv : Vals vs ws) : ∀ {perm : List Nat} {ds' : List D}, permL ds perm = some ds' → ds.all notM = true →
    ∃ vs' us, permV ws perm = some us ∧ Vals vs' us ∧ RepXs K F φ H ds' vs' ∧ ds'.all notM = true
  | [], ds', e, _ => by cases e; exact ⟨[], [], rfl, .nil, .nil, rfl⟩
  | i :: perm, ds', e, hall => by
    unfold permL at e
    split at e
    · rename_i d ds2 e1 e2
      cases e
      obtain ⟨vs', us, h1, h2, h3, h4⟩ := perm_vals r rv e2 hall
      have get : ∀ {ds : List D} {vs : List V} {ws : List Value} {i : Nat} {d : D}, RepXs K F φ H ds vs → Vals vs ws → ds[i]? = some d → ∃ v w, ws[i]? = some w ∧ RelV v w ∧ RepX K F φ H d v := by
        intro ds
        induction ds with
        | nil => intro vs ws i d _ _ e; simp at e
        | cons x xs ih =>
          intro vs ws i d r rv e
          cases r with
          | cons a b =>
            cases rv with
            | cons c d' =>
              cases i with
              | zero => simp at e; subst e; exact ⟨_, _, rfl, c, a⟩
              | succ i =>
                obtain ⟨v, w, z1, z2, z3⟩ := ih b d' (by simpa using e)
                exact ⟨v, w, by simpa using z1, z2, z3⟩
      obtain ⟨v, w, z1, z2, z3⟩ := get r rv e1
      refine ⟨v :: vs', w :: us, ?_, .cons z2 h2, .cons z3 h3, ?_⟩
      · unfold permV; rw [z1, h1]
      · rw [List.all_cons, h4, Bool.and_true]
        exact List.all_eq_true.mp hall d (List.mem_of_getElem? e1)
    · cases e
theorem s_callK {f : Nat} {x : Str} {ps : List Str} {perm : List Nat} {es : E} {kws : List Keyword} {p pos : Pos} (g : Good Y call G k W sc raw N X) (hf : G.fn f = some (x, ps)) (hg : glbB sc x = true) (hd : noDbg x = true)
    (hw : G.kw.contains (f, kws.filterMap (·.arg), perm) = true) (h : PK X kws (tA X.K Y call es W)) (hc : chkK G N sc raw es kws = true) :
    PE X (.Call (.Name x p) [] kws pos) (tD X.K Y call (.callK f perm es) W) := by
  obtain ⟨a, fd, h1, h2, h3, _, h5⟩ := g.prg.fn f x ps hf
  have h5 := h5 _ _ (List.contains_iff_mem.mp hw)
  obtain ⟨k1, k2, k3⟩ := kw_some (env := X.env) (pos := pos) hc
  refine ⟨fun pins s σ H Q I hq => ?_⟩
  obtain ⟨F, φ, ρ, st, B, V, p⟩ := hq
  refine wpAny_Call_Name_kw (ld_glob I (g.gl hg) h1 ?_ (dbg_of hd).1)
  rw [evE] at p
  have p' := p.bind
  have q : tA X.K Y call es W σ H (fun vs H1 => ∀ ws, Vals vs ws → ∃ vs' us, permV ws perm = some us ∧ Vals vs' us ∧ spD X.K Y call f vs' H1 Q W ∧ ws.length = (kws.filterMap (·.arg)).length) := by
    refine ⟨F, φ, ρ, st, B, V, ?_⟩
    cases he : evA call es ρ st with
    | bad => rw [he] at p; exact p.elim
    | ex x st1 => rw [he] at p; exact p
    | ok ds st1 =>
      rw [he] at p
      have p0 : Post X.K Y W F φ H (match permL ds perm with | some ds => call f ds st1 | none => .bad) (RQ X.K H Q) := p
      intro F1 φ1 H1 S1 B1 vs rvs hall ws rv
      cases e : permL ds perm with
      | none => rw [e] at p0; exact p0.elim
      | some ds' =>
        rw [e] at p0
        obtain ⟨vs', us, z1, z2, z3, z4⟩ := perm_vals rvs rv e hall
        refine ⟨vs', us, z1, z2, ⟨F1, φ1, st1, ds', B1, z3, z4, (p0.step S1).rq S1⟩, ?_⟩
        rw [← rv.length, ← rvs.length, evA_len he, kw_len hc]
  refine PySem.W.callWith_KW0 (h₀ := X.base) (first := []) I.ok.mod.kin h2 k1 ?_ (by rw [k2]; rfl)
  refine thn (h.run pos pins s σ H _ I q) fun ws s1 ⟨vs, H1, I1, rv, q1⟩ => ⟨I1.kIn, ?_⟩
  obtain ⟨vs', us, z1, z2, z3, z4⟩ := q1 ws rv
  rw [k3]
  have hl : us.length = ps.length := by rw [← z2.length]; exact h3.len _ _ _ _ z3
  have hr := h3.run X.A X.stack s1 H1 _ us vs' Q W g.room I1.env0 (h5 s1 ws us I1.kIn z4 z1 hl) z2 z3
  refine wpAny_call (codeAny_mono hr fun r s' hq => ?_)
  cases r with
  | error e => exact g.pass pins σ H1 s1 e s' I1 hq
  | ok fl =>
    cases fl with
    | ret u => exact I1.after hq
    | next => exact False.elim hq
    | brk => exact False.elim hq
    | cont => exact False.elim hq

/-! ### list(range(..)) -/
theorem rng_vals {K : PySem.W.Frag} {F : Hp} (a b : Int) : Reps K F (rng a b) (rgV a b) := by
  unfold rng rgV
  generalize List.range (b - a).toNat = l
  induction l with
  | nil => exact .nil
  | cons x l ih => exact .cons (.int _) ih
theorem rngOk_of {i : Int} (h : rngOk i = true) : -(2 ^ 62) ≤ i ∧ i < 2 ^ 62 := by
  unfold rngOk at h
  have h1 := of_decide_eq_true h
  omega
theorem s_lrng1 {a : E} {z : Expr} {p p2 pos pos2 : Pos} (g : Good Y call G k W sc raw N X) (h1 : glbB sc "list" = true) (h2 : glbB sc "range" = true) (ha : PE X z (tD X.K Y call a W)) (hs : isStarE z = false) :
    PE X (.Call (.Name "list" p) [.Call (.Name "range" p2) [z] [] pos2] [] pos) (tD X.K Y call (.lrng1 a) W) := by
  refine PE.imp (pe_listRg g.calm (g.gl h1) (g.prg.bi _ (by decide +kernel)) (prg_1 (g.gl h2) (g.prg.bi _ (by decide +kernel)) ha (star_ne hs)) (star_ne rfl)) fun σ H Q ⟨F, φ, ρ, st, B, V, p⟩ => ?_
  rw [evE] at p
  refine one_of B V p fun d st1 F1 φ1 H1 v S1 B1 V1 rv fv p1 => ?_
  split at p1
  · rename_i i
    split at p1
    · rename_i hz
      simp only [Bool.and_eq_true, decide_eq_true_eq] at hz
      obtain ⟨z1, z2⟩ := rngOk_of hz.1
      refine ⟨i, rv.int, ⟨by decide, by decide, z1, z2, ?_⟩, end_fls (p1.rq S1) B1 (rng_vals _ _)⟩
      rw [Int.sub_zero]
      exact Nat.le_trans hz.2 (by decide)
    · exact p1.elim
  · exact p1.elim
theorem s_lrng2 {a b : E} {z w : Expr} {p p2 pos pos2 : Pos} (g : Good Y call G k W sc raw N X) (h1 : glbB sc "list" = true) (h2 : glbB sc "range" = true) (ha : PE X z (tD X.K Y call a W)) (hb : PE X w (tD X.K Y call b W)) (hs : isStarE z = false) (hs2 : isStarE w = false) :
    PE X (.Call (.Name "list" p) [.Call (.Name "range" p2) [z, w] [] pos2] [] pos) (tD X.K Y call (.lrng2 a b) W) := by
  refine PE.imp (pe_listRg g.calm (g.gl h1) (g.prg.bi _ (by decide +kernel)) (prg_2 (g.gl h2) (g.prg.bi _ (by decide +kernel)) ha hb (star_ne hs) (star_ne hs2) (star_no fun e he => by rw [List.mem_singleton.mp he]; exact hs2)) (star_ne rfl)) fun σ H Q ⟨F, φ, ρ, st, B, V, p⟩ => ?_
  rw [evE] at p
  refine one_of B V p fun d st1 F1 φ1 H1 v S1 B1 V1 rv fv p1 => one_of B1 V1 p1 fun d2 st2 F2 φ2 H2 v2 S2 B2 V2 rv2 fv2 p2 => ?_
  split at p2
  · rename_i i j
    split at p2
    · rename_i hz
      simp only [Bool.and_eq_true, decide_eq_true_eq] at hz
      obtain ⟨⟨h1, h2⟩, h3⟩ := hz
      obtain ⟨z1, z2⟩ := rngOk_of h1
      obtain ⟨z3, z4⟩ := rngOk_of h2
      exact ⟨i, j, rv.int, rv2.int, ⟨z1, z2, z3, z4, Nat.le_trans h3 (by decide)⟩, end_fls (p2.rq (S1.trans S2)) B2 (rng_vals _ _)⟩
    · exact p2.elim
  · exact p2.elim

/-! ### what is walked -/
section
variable {K : PySem.W.Frag} {F : Hp} {a b : Addr} {xs ys : List D} {vs us : List V}
theorem walkD_list (h : F a = some (.lst vs)) (r : Reps K F xs vs) : WalkD K F (Itl K a) xs where
  go i H' hF hi := walk_list.goes i H' (by rw [← r.length]; exact hi) (sq_of (hF _ _ h))
  stop H' hF := by rw [r.length]; exact walk_list.stops H' (sq_of (hF _ _ h))
  yld i H' x H'' hF hi y := by
    obtain ⟨e1, e2⟩ := walk_list.yields i H' x H'' (by rw [← r.length]; exact hi) (sq_of (hF _ _ h)) y
    obtain ⟨d, e3, e4⟩ := r.get' e2
    exact ⟨d, e3, .inl ⟨e1, e4⟩⟩
theorem walkD_tup (h : F a = some (.tup vs)) (r : Reps K F xs vs) : WalkD K F (Itt K a) xs where
  go i H' hF hi := walk_tup.goes i H' (by rw [← r.length]; exact hi) (sqt_of (hF _ _ h))
  stop H' hF := by rw [r.length]; exact walk_tup.stops H' (sqt_of (hF _ _ h))
  yld i H' x H'' hF hi y := by
    obtain ⟨e1, e2⟩ := walk_tup.yields i H' x H'' (by rw [← r.length]; exact hi) (sqt_of (hF _ _ h)) y
    obtain ⟨d, e3, e4⟩ := r.get' e2
    exact ⟨d, e3, .inl ⟨e1, e4⟩⟩
theorem rng_len (lo hi : Int) : (rng lo hi).length = (hi - lo).toNat := by unfold rng; rw [List.length_map, List.length_range]
theorem walkD_range (lo hi : Int) : WalkD K F (Itr lo (hi - lo).toNat) (rng lo hi) where
  go i H' hF hi := by rw [rng_len] at hi; exact walk_range.goes i H' hi trivial
  stop H' hF := by rw [rng_len]; exact walk_range.stops H' trivial
  yld i H' x H'' hF hi y := by
    rw [rng_len] at hi
    obtain ⟨e1, e2⟩ := walk_range.yields i H' x H'' hi trivial y
    refine ⟨.int (lo + i), ?_, .inl ⟨e1, by rw [e2]; exact .int _⟩⟩
    unfold rng
    rw [List.getElem?_map, List.getElem?_range hi]
    rfl
theorem enum_get {xs : List D} {i : Nat} {d : D} (h : xs[i]? = some d) : (enumL xs)[i]? = some (.tup [.int (i : Nat), d]) := by
  unfold enumL
  rw [List.getElem?_mapIdx, h]
  rfl
theorem walkD_enum (h : F a = some (.lst vs)) (r : Reps K F xs vs) : WalkD K F (Ite K a) (enumL xs) where
  go i H' hF hi := by
    unfold enumL at hi
    rw [List.length_mapIdx] at hi
    exact walk_enum.goes i H' (by rw [← r.length]; exact hi) (sq_of (hF _ _ h))
  stop H' hF := by
    unfold enumL
    rw [List.length_mapIdx, r.length]; exact walk_enum.stops H' (sq_of (hF _ _ h))
  yld i H' x H'' hF hi y := by
    unfold enumL at hi
    rw [List.length_mapIdx] at hi
    obtain ⟨T, x', y', e1, e2, e3, e4, e5⟩ := walk_enum.yields i H' x H'' (by rw [← r.length]; exact hi) (sq_of (hF _ _ h)) y
    cases e4
    obtain ⟨d, e6, e7⟩ := r.get' e5
    exact ⟨_, enum_get e6, .inr ⟨T, _, _, e1, e2, e3, rfl, .cons (.int _) (.cons e7 .nil)⟩⟩
theorem walkD_enumT (h : F a = some (.tup vs)) (r : Reps K F xs vs) : WalkD K F (IteT K a vs.length) (enumL xs) where
  go i H' hF hi := by
    unfold enumL at hi
    rw [List.length_mapIdx, r.length] at hi
    exact ⟨vs, vs[i], sqt_of (hF _ _ h), rfl, by simp [hi]⟩
  stop H' hF := by
    unfold enumL
    rw [List.length_mapIdx, r.length]
    exact ⟨Nat.le_refl _, vs, sqt_of (hF _ _ h), rfl⟩
  yld i H' x H'' hF hi y := by
    obtain ⟨T, x', e1, e2, e3, e4⟩ := y
    obtain ⟨d, e6, e7⟩ := r.get' (e4 vs (sqt_of (hF _ _ h)))
    exact ⟨_, enum_get e6, .inr ⟨T, _, _, e1, e2, e3, rfl, .cons (.int _) (.cons e7 .nil)⟩⟩
theorem zip_len (xs ys : List D) : (zipL xs ys).length = min xs.length ys.length := by unfold zipL; rw [List.length_zipWith]
theorem zip_get {xs ys : List D} {i : Nat} {d e : D} (h : xs[i]? = some d) (h2 : ys[i]? = some e) : (zipL xs ys)[i]? = some (.tup [d, e]) := by
  unfold zipL
  rw [List.getElem?_zipWith, h, h2]
theorem walkD_zip (h : F a = some (.lst vs)) (r : Reps K F xs vs) (h2 : F b = some (.lst us)) (r2 : Reps K F ys us) : WalkD K F (Itz K a b) (zipL xs ys) where
  go i H' hF hi := by
    rw [zip_len, r.length, r2.length] at hi
    exact (walk_zip rfl).goes i H' hi ⟨sq_of (hF _ _ h), sq_of (hF _ _ h2)⟩
  stop H' hF := by
    rw [zip_len, r.length, r2.length]
    exact (walk_zip rfl).stops H' ⟨sq_of (hF _ _ h), sq_of (hF _ _ h2)⟩
  yld i H' x H'' hF hi y := by
    rw [zip_len, r.length, r2.length] at hi
    obtain ⟨T, x', y', e1, e2, e3, e4, e5⟩ := (walk_zip rfl).yields i H' x H'' hi ⟨sq_of (hF _ _ h), sq_of (hF _ _ h2)⟩ y
    obtain ⟨d, e6, e7⟩ := r.get' e4
    obtain ⟨e, e8, e9⟩ := r2.get' e5
    exact ⟨_, zip_get e6 e8, .inr ⟨T, _, _, e1, e2, e3, rfl, .cons e7 (.cons e9 .nil)⟩⟩
theorem walkD_zipT (h : F a = some (.tup vs)) (r : Reps K F xs vs) (h2 : F b = some (.tup us)) (r2 : Reps K F ys us) : WalkD K F (RZ.ItzT K a b) (zipL xs ys) where
  go i H' hF hi := by
    rw [zip_len, r.length, r2.length] at hi
    have h1 : i < vs.length := by omega
    have h3 : i < us.length := by omega
    exact ⟨vs, us, vs[i], us[i], sqt_of (hF _ _ h), sqt_of (hF _ _ h2), by simp [h1], by simp [h3]⟩
  stop H' hF := by
    rw [zip_len, r.length, r2.length]
    exact ⟨vs, us, sqt_of (hF _ _ h), sqt_of (hF _ _ h2), by omega⟩
  yld i H' x H'' hF hi y := by
    obtain ⟨T, x', y', e1, e2, e3, e4, e5⟩ := y
    obtain ⟨d, e6, e7⟩ := r.get' (e4 vs (sqt_of (hF _ _ h)))
    obtain ⟨e, e8, e9⟩ := r2.get' (e5 us (sqt_of (hF _ _ h2)))
    exact ⟨_, zip_get e6 e8, .inr ⟨T, _, _, e1, e2, e3, rfl, .cons e7 (.cons e9 .nil)⟩⟩
end
/-- a list or a tuple, walked -/
def iSeq (K : PySem.W.Frag) (tl : TE) : TI := fun σ H R => tl σ H fun x H1 => (∃ a, x = .ref a ∧ (∃ xs, SqL K H1 a xs) ∧ R (Itl K a) H1) ∨ (∃ a, x = .ref a ∧ (∃ xs, SqT K H1 a xs) ∧ R (Itt K a) H1)
theorem pi_seq {tg l : Expr} {tl : TE} (hl : PE X l tl) : PI X tg l (iSeq X.K tl) := by
  refine ⟨fun pins s σ H R I h => ?_⟩
  refine thn (hl.run pins s σ H _ I h) fun v s1 ⟨x, H1, I1, r1, q1⟩ => ?_
  rcases q1 with ⟨a, e, ⟨xs, hq⟩, q⟩ | ⟨a, e, ⟨xs, hq⟩, q⟩
  · subst e
    cases r1
    obtain ⟨its, rv, p, hz⟩ := I1.list hq
    refine wpAny_pyIter_list p.isList ?_
    refine ⟨s1.heap.objs.size, [s1.heap.objs.size], _, _, H1, rfl, I1.kept (t' := s1.toks) fun b o e => Heap.get?_push_of_some _ e, turn_list a _, ⟨_, Heap.get?_push_size _ rfl, rfl, rfl⟩, fun b hb => ?_, q⟩
    have e : b = s1.heap.objs.size := by simpa using hb
    subst e
    exact I1.fpOk (Nat.le_refl _) (I1.hok.fresh (Nat.le_refl _))
  · subst e
    cases r1
    obtain ⟨its, rv, p, hz⟩ := I1.tuple hq
    refine wpAny_pyIter_tuple (show s1.heap.IsTuple a its.toArray from p) ?_
    refine ⟨s1.heap.objs.size, [s1.heap.objs.size], _, _, H1, rfl, I1.kept (t' := s1.toks) fun b o e => Heap.get?_push_of_some _ e, turn_tuple a _, ⟨_, Heap.get?_push_size _ rfl, rfl, rfl⟩, fun b hb => ?_, q⟩
    have e : b = s1.heap.objs.size := by simpa using hb
    subst e
    exact I1.fpOk (Nat.le_refl _) (I1.hok.fresh (Nat.le_refl _))
theorem i_seq {tg l : Expr} {a : E} (ha : PE X l (tD X.K Y call a W)) : PI X tg l (tI X.K Y call (.seq a) W) := by
  refine PI.imp (pi_seq ha) fun σ H R ⟨F, φ, ρ, st, B, V, p⟩ => ?_
  rw [evI] at p
  refine one_ofF B V p fun d st1 F1 φ1 H1 v S1 B1 rv fv p1 => ?_
  cases e : frzD d with
  | none =>
    have z := p1 F1 S1 B1
    rw [e] at z
    exact z.elim
  | some d' =>
    obtain ⟨F2, S2, B2, r2, n2⟩ := frz_of e rv fv B1 S1
    have z := p1 F2 S2 B2
    rw [e] at z
    split at z
    · rename_i heq
      cases heq
      cases (show Rep X.K F2 (.lst _) v from r2) with
      | lst e q => exact .inl ⟨_, rfl, ⟨_, sq_of (B2.sub _ _ e)⟩, z.now B2 _ (walkD_list e q)⟩
    · rename_i heq
      cases heq
      obtain ⟨t, vs, rfl, e, q⟩ := r2.tup
      exact .inr ⟨_, rfl, ⟨_, sqt_of (B2.sub _ _ e)⟩, z.now B2 _ (walkD_tup e q)⟩
    · exact z.elim
theorem i_rng1 {tg z : Expr} {a : E} {p pos : Pos} (g : Good Y call G k W sc raw N X) (h2 : glbB sc "range" = true) (ha : PE X z (tD X.K Y call a W)) (hs : isStarE z = false) :
    PI X tg (.Call (.Name "range" p) [z] [] pos) (tI X.K Y call (.rng1 a) W) := by
  refine PI.imp (pi_range1 (g.gl h2) (g.prg.bi _ (by decide +kernel)) (pa_cons ha pa_nil (star_ne hs)) (star_ne hs)) fun σ H R ⟨F, φ, ρ, st, B, V, p⟩ => ?_
  rw [evI] at p
  refine one_of B V p fun d st1 F1 φ1 H1 v S1 B1 V1 rv fv p1 => ?_
  split at p1
  · split at p1
    · rename_i i hz
      obtain ⟨z1, z2⟩ := rngOk_of hz
      refine ⟨i, by rw [rv.int], z1, z2, ?_⟩
      have z := p1.now B1 _ (walkD_range 0 i)
      rw [Int.sub_zero] at z
      exact z
    · exact p1.elim
  · exact p1.elim
theorem i_rng2 {tg z w : Expr} {a b : E} {p pos : Pos} (g : Good Y call G k W sc raw N X) (h2 : glbB sc "range" = true) (ha : PE X z (tD X.K Y call a W)) (hb : PE X w (tD X.K Y call b W)) (hs : isStarE z = false) (hs2 : isStarE w = false) :
    PI X tg (.Call (.Name "range" p) [z, w] [] pos) (tI X.K Y call (.rng2 a b) W) := by
  refine PI.imp (pi_range2 (g.gl h2) (g.prg.bi _ (by decide +kernel)) (pa_cons ha (pa_cons hb pa_nil (star_ne hs2)) (star_ne hs)) (by rw [star_ne hs, star_ne hs2]; rfl) (by rw [star_ne hs2]; rfl)) fun σ H R ⟨F, φ, ρ, st, B, V, p⟩ => ?_
  rw [evI] at p
  refine one_of B V p fun d st1 F1 φ1 H1 v S1 B1 V1 rv fv p1 => one_of B1 V1 p1 fun d2 st2 F2 φ2 H2 v2 S2 B2 V2 rv2 fv2 p2 => ?_
  split at p2
  · rename_i i j
    split at p2
    · rename_i hz
      simp only [Bool.and_eq_true] at hz
      obtain ⟨z1, z2⟩ := rngOk_of hz.1
      obtain ⟨z3, z4⟩ := rngOk_of hz.2
      exact ⟨i, j, by rw [rv.int, rv2.int], ⟨z1, z2, z3, z4⟩, p2.now B2 _ (walkD_range i j)⟩
    · exact p2.elim
  · exact p2.elim
theorem isTup_of {tg : Expr} (h : isTupE tg = true) : ∃ es kk p, tg = .Tuple es kk p := by
  cases tg <;> first | exact ⟨_, _, _, rfl⟩ | cases h
theorem i_enm {tg z : Expr} {a : E} {p pos : Pos} (g : Good Y call G k W sc raw N X) (ht : isTupE tg = true) (h2 : glbB sc "enumerate" = true) (ha : PE X z (tD X.K Y call a W)) (hs : isStarE z = false) :
    PI X tg (.Call (.Name "enumerate" p) [z] [] pos) (tI X.K Y call (.enm a) W) := by
  obtain ⟨es, kk, tp, rfl⟩ := isTup_of ht
  refine PI.imp (pi_enumA (g.gl h2) (g.prg.bi _ (by decide +kernel)) (pa_cons ha pa_nil (star_ne hs)) (star_ne hs)) fun σ H R ⟨F, φ, ρ, st, B, V, p⟩ => ?_
  rw [evI] at p
  refine one_ofF B V p fun d st1 F1 φ1 H1 v S1 B1 rv fv p1 => ?_
  cases e : frzD d with
  | none =>
    have z := p1 F1 S1 B1
    rw [e] at z
    exact z.elim
  | some d' =>
    obtain ⟨F2, S2, B2, r2, n2⟩ := frz_of e rv fv B1 S1
    have z := p1 F2 S2 B2
    rw [e] at z
    split at z
    · rename_i heq
      cases heq
      cases (show Rep X.K F2 (.lst _) v from r2) with
      | lst e q => exact ⟨_, _, rfl, .inl ⟨sq_of (B2.sub _ _ e), z.now B2 _ (walkD_enum e q)⟩⟩
    · rename_i heq
      cases heq
      obtain ⟨t, vs, rfl, e, q⟩ := r2.tup
      exact ⟨_, _, rfl, .inr ⟨sqt_of (B2.sub _ _ e), z.now B2 _ (walkD_enumT e q)⟩⟩
    · exact z.elim
theorem i_zip {tg z w : Expr} {a b : E} {p pos : Pos} (g : Good Y call G k W sc raw N X) (ht : isTupE tg = true) (h2 : glbB sc "zip" = true) (ha : PE X z (tD X.K Y call a W)) (hb : PE X w (tD X.K Y call b W)) (hs : isStarE z = false) (hs2 : isStarE w = false) :
    PI X tg (.Call (.Name "zip" p) [z, w] [] pos) (tI X.K Y call (.zip a b) W) := by
  obtain ⟨es, kk, tp, rfl⟩ := isTup_of ht
  refine PI.imp (RZ.pi_zipA (g.gl h2) (g.prg.bi _ (by decide +kernel)) (pa_cons ha (pa_cons hb pa_nil (star_ne hs2)) (star_ne hs)) (star_ne hs) (star_no fun e he => by rw [List.mem_singleton.mp he]; exact hs2)) fun σ H R ⟨F, φ, ρ, st, B, V, p⟩ => ?_
  rw [evI] at p
  refine one_ofF B V p fun d st1 F1 φ1 H1 v S1 B1 rv fv p1 => ?_
  cases e : frzD d with
  | none =>
    have z := p1 F1 S1 B1
    rw [e] at z
    exact z.elim
  | some d' =>
    obtain ⟨F2, S2, B2, r2, n2⟩ := frz_of e rv fv B1 S1
    have z := p1 F2 S2 B2
    rw [e] at z
    refine one_ofF B2 (V.step S2) z fun d3 st3 F3 φ3 H3 v3 S3 B3 rv3 fv3 p3 => ?_
    cases e3 : frzD d3 with
    | none =>
      have z := p3 F3 S3 B3
      rw [e3] at z
      exact z.elim
    | some d4 =>
      obtain ⟨F4, S4, B4, r4, n4⟩ := frz_of e3 rv3 fv3 B3 S3
      have z := p3 F4 S4 B4
      rw [e3] at z
      have r2 := r2.step S4
      cases d' with
      | tup xs =>
        cases d4 with
        | tup ys =>
          obtain ⟨t, vs, rfl, e, q⟩ := r2.tup
          obtain ⟨t2, vs2, rfl, e2, q2⟩ := r4.tup
          exact ⟨_, _, _, _, rfl, .inr ⟨sqt_of (B4.sub _ _ e), sqt_of (B4.sub _ _ e2), z.now B4 _ (walkD_zipT e q e2 q2)⟩⟩
        | _ => exact z.elim
      | lst xs =>
        cases d4 with
        | lst ys =>
          cases (show Rep X.K F4 (.lst _) v from r2) with
          | lst e q =>
            cases (show Rep X.K F4 (.lst _) v3 from r4) with
            | lst e2 q2 => exact ⟨_, _, _, _, rfl, .inl ⟨sq_of (B4.sub _ _ e), sq_of (B4.sub _ _ e2), z.now B4 _ (walkD_zip e q e2 q2)⟩⟩
        | _ => exact z.elim
      | _ => exact z.elim
end
end Gb

/-! Targets; comprehensions. -/
namespace Gb
open PySem PySem.Spec PyProof.Rows L2 StX

/-! ### names set -/
section
variable {K : PySem.W.Frag} {F : Hp} {φ : List Addr} {ρ ρ' : Env} {σ : L2.St} {H : Hp} {d : D} {v : V}
theorem EnvOk.set (e : EnvOk K F φ ρ σ H) (i : Nat) (nf : ∀ xs, d ≠ .fls xs) (r : RepX K F φ H d v) (hm : ∀ xs, d = .mls xs → ∀ j ys, i ≠ j → ρ[j]? = some (some (.mls ys)) → σ[j]? ≠ some (some v)) : EnvOk K F φ (ρ.set i (some d)) (σ.set i (some v)) H := by
  refine ⟨by rw [List.length_set, List.length_set, e.len], fun j d' h => ?_, fun j1 j2 xs ys a hj h1 h2 h3 h4 => ?_⟩
  · by_cases hij : i = j
    · subst hij
      have hl : i < ρ.length := by
        have := (List.getElem?_eq_some_iff.mp h).1
        rwa [List.length_set] at this
      rw [List.getElem?_set_self hl] at h
      cases h
      exact ⟨nf, v, List.getElem?_set_self (by rw [← e.len]; exact hl), r⟩
    · rw [List.getElem?_set_ne hij] at h ⊢
      exact e.at_ j d' h
  · by_cases h5 : i = j1
    · subst h5
      have hl : i < ρ.length := by
        have := (List.getElem?_eq_some_iff.mp h1).1
        rwa [List.length_set] at this
      rw [List.getElem?_set_self hl] at h1
      rw [List.getElem?_set_ne hj] at h2 h4
      rw [List.getElem?_set_self (by rw [← e.len]; exact hl)] at h3
      cases h1
      cases h3
      exact hm _ rfl j2 ys hj h2 h4
    · rw [List.getElem?_set_ne h5] at h1 h3
      by_cases h6 : i = j2
      · subst h6
        have hl : i < ρ.length := by
          have := (List.getElem?_eq_some_iff.mp h2).1
          rwa [List.length_set] at this
        rw [List.getElem?_set_self hl] at h2
        rw [List.getElem?_set_self (by rw [← e.len]; exact hl)] at h4
        cases h2
        cases h4
        exact hm _ rfl j1 xs h5 h1 h3
      · rw [List.getElem?_set_ne h6] at h2 h4
        exact e.ne j1 j2 xs ys a hj h1 h2 h3 h4
theorem EnvOk.rep (e : EnvOk K F φ ρ σ H) (i : Nat) (r : Rep K F d v) : EnvOk K F φ (ρ.set i (some d)) (σ.set i (some v)) H :=
  e.set i r.nofls r.x fun xs h => by subst h; cases r
/-- fewer names known -/
theorem EnvOk.drop (e : EnvOk K F φ ρ σ H) (i : Nat) : EnvOk K F φ (ρ.set i none) (σ.set i none) H := by
  have g : ∀ {α : Type} {l : List (Option α)} {j : Nat} {x : α}, (l.set i none)[j]? = some (some x) → i ≠ j ∧ l[j]? = some (some x) := fun {α l j x} h => by
    by_cases hij : i = j
    · subst hij
      by_cases hl : i < l.length
      · rw [List.getElem?_set_self hl] at h; cases h
      · rw [List.getElem?_eq_none (by rw [List.length_set]; omega)] at h; cases h
    · rw [List.getElem?_set_ne hij] at h; exact ⟨hij, h⟩
  refine ⟨by rw [List.length_set, List.length_set, e.len], fun j d' h => ?_, fun j1 j2 xs ys a hj h1 h2 h3 h4 => e.ne j1 j2 xs ys a hj (g h1).2 (g h2).2 (g h3).2 (g h4).2⟩
  obtain ⟨h1, h2⟩ := g h
  obtain ⟨n, v, h3, h4⟩ := e.at_ j d' h2
  exact ⟨n, v, by rw [List.getElem?_set_ne h1]; exact h3, h4⟩
theorem EnvOk.wipe (e : EnvOk K F φ ρ σ H) : ∀ own : List Nat, EnvOk K F φ (wipeE ρ own) (L2.wipe σ own) H
  | [] => e
  | v :: vs => (e.wipe vs).drop v
theorem put1_rep {i : Nat} {m : Bool} (r : Rep K F d v) (h : put1 i m d ρ = some ρ') : ρ' = ρ.set i (some d) := by
  unfold put1 at h
  cases m with
  | true =>
    cases d <;> first | (cases h; rfl) | cases r
  | false =>
    cases d <;> first | (cases h; rfl) | cases r
/-- the slots set, from the left -/
def setV : List (Nat × Bool) → List V → L2.St → L2.St
  | (i, _) :: is, v :: vs, σ => setV is vs (σ.set i (some v))
  | _, _, σ => σ
theorem putN_rep : ∀ {is : List (Nat × Bool)} {ds : List D} {vs : List V} {ρ ρ' : Env} {σ : L2.St}, Reps K F ds vs → EnvOk K F φ ρ σ H → putN is ds ρ = some ρ' → is.length = vs.length ∧ EnvOk K F φ ρ' (setV is vs σ) H
  | [], [], _, ρ, ρ', σ, .nil, e, h => by cases h; exact ⟨rfl, e⟩
  | [], d :: ds, _, ρ, ρ', σ, .cons r rs, e, h => by cases h
  | (i, m) :: is, [], _, ρ, ρ', σ, .nil, e, h => by cases h
  | (i, m) :: is, d :: ds, _, ρ, ρ', σ, .cons r rs, e, h => by
    unfold putN at h
    obtain ⟨ρ1, h1, h2⟩ := Option.bind_eq_some_iff.mp h
    have h3 := put1_rep r h1
    subst h3
    obtain ⟨h4, h5⟩ := putN_rep rs (e.rep i r) h2
    exact ⟨by rw [List.length_cons, List.length_cons, h4], h5⟩
theorem wipe_set_out {x : Option V} {i : Nat} : ∀ {vs : List Nat} {σ : L2.St}, i ∉ vs → L2.wipe (σ.set i x) vs = (L2.wipe σ vs).set i x
  | [], σ, _ => rfl
  | v :: vs, σ, h => by
    simp only [List.mem_cons, not_or] at h
    unfold L2.wipe
    rw [wipe_set_out h.2, List.set_comm _ _ h.1]
theorem wipe_set {x : Option V} {i : Nat} : ∀ {vs : List Nat} {σ : L2.St}, i ∈ vs → L2.wipe (σ.set i x) vs = L2.wipe σ vs
  | [], σ, h => by cases h
  | v :: vs, σ, h => by
    unfold L2.wipe
    by_cases h1 : i ∈ vs
    · rw [wipe_set h1]
    · rcases List.mem_cons.mp h with h2 | h2
      · subst h2
        rw [wipe_set_out h1, List.set_set]
      · exact absurd h2 h1
theorem wipe_setV : ∀ {is : List (Nat × Bool)} {us : List V} {vs : List Nat} {σ : L2.St}, (∀ i ∈ is.map (·.1), i ∈ vs) → L2.wipe (setV is us σ) vs = L2.wipe σ vs
  | [], us, vs, σ, _ => by cases us <;> rfl
  | (i, m) :: is, [], vs, σ, _ => rfl
  | (i, m) :: is, u :: us, vs, σ, h => by
    unfold setV
    rw [wipe_setV fun j hj => h j (List.mem_cons_of_mem _ hj), wipe_set (h i List.mem_cons_self)]
theorem wipe_wipe : ∀ {vs : List Nat} {σ : L2.St}, L2.wipe (L2.wipe σ vs) vs = L2.wipe σ vs := by
  have h : ∀ (us vs : List Nat) (σ : L2.St), (∀ i ∈ us, i ∈ vs) → L2.wipe (L2.wipe σ us) vs = L2.wipe σ vs := by
    intro us
    induction us with
    | nil => intro vs σ _; rfl
    | cons u us ih =>
      intro vs σ h
      show L2.wipe ((L2.wipe σ us).set u none) vs = _
      rw [wipe_set (h u List.mem_cons_self), ih vs σ fun i hi => h i (List.mem_cons_of_mem _ hi)]
  exact fun {vs σ} => h vs vs σ fun _ z => z
end

/-! ### targets -/
section
variable {Y : ExT} {call : CallF} {G : Glob} {k : Nat} {W : XK} {sc raw : Scope} {N : List Str} {X : L2.Cx}
def gT (K : PySem.W.Frag) (t : T) : TG :=
  match t with
  | .nm i _ => gName i
  | .tp is => fun v σ H Q => ∃ a xs, v = .ref a ∧ (SqT K H a xs ∨ SqL K H a xs) ∧ xs.length = is.length ∧ Q (setV is xs σ) H
def gNames (is : List (Nat × Bool)) : TGs := fun vs σ H Q => vs.length = is.length ∧ Q (setV is vs σ) H
theorem cel_of {sc : Scope} {x : Str} (h : celB sc x = true) : sc.names.lookup x = some .cell := by
  unfold celB at h
  split at h <;> first | assumption | cases h
theorem sto_of (g : Good Y call G k W sc raw N X) {i : Nat} {x : Str} (h : stoB sc raw N i x = true) : X.N[i]? = some x ∧ Loc X.env.scope x ∧ (X.fn x = true ∨ X.env.scope.names.lookup x = some .local) := by
  unfold stoB at h
  simp only [Bool.and_eq_true] at h
  obtain ⟨⟨h1, h2⟩, h3⟩ := h
  refine ⟨by rw [g.names]; exact slot_of h1, by rw [g.scope]; exact loc_of h2, ?_⟩
  rcases Bool.or_eq_true_iff.mp h3 with z | z
  · exact .inr (by rw [g.scope]; exact lcl_of z)
  · exact .inl (g.fnr x (cel_of z))
theorem pgs_names (g : Good Y call G k W sc raw N X) : ∀ {is : List (Nat × Bool)} {es : List Expr}, tgsB N sc raw is es = true → PGs X es (gNames is) ∧ (assignEach es X.env).length = is.length ∧ (assignEach es X.env).findIdx? (·.1) = none
  | [], [], _ => ⟨⟨fun pins s σ H vs us Q I r h => pgs_nil.run pins s σ H vs us Q I r ⟨List.length_eq_zero_iff.mp h.1, by cases vs <;> exact h.2⟩⟩, rfl, rfl⟩
  | [], e :: es, h => by cases e <;> cases h
  | t :: ts, [], h => by cases h
  | (i, m) :: is, e :: es, h => by
    unfold tgsB at h
    split at h <;> try (first | contradiction | cases h)
    rename_i heq1 heq2
    obtain ⟨e1, rfl⟩ := List.cons.inj heq1
    obtain ⟨rfl, rfl⟩ := List.cons.inj heq2
    cases e1
    simp only [Bool.and_eq_true] at h
    obtain ⟨h1, h2, h3⟩ := sto_of g h.1
    obtain ⟨i1, i2, i3⟩ := pgs_names g h.2
    refine ⟨⟨fun pins s σ H vs us Q I r hq => (pgs_cons (pg_name (by rw [g.names]; exact g.nd) h1 h2 h3) i1).run pins s σ H vs us Q I r ?_⟩, ?_, ?_⟩
    · obtain ⟨q1, q2⟩ := hq
      cases vs with
      | nil => cases q1
      | cons v vs => exact ⟨v, vs, rfl, Nat.succ.inj q1, q2⟩
    · show (assignEach _ X.env).length + 1 = _
      rw [i2]
      rfl
    · show List.findIdx? (·.1) ((false, _) :: assignEach _ X.env) = none
      rw [List.findIdx?_cons, i3]
      rfl
theorem PG.or {tg : Expr} {a b : TG} (h1 : PG X tg a) (h2 : PG X tg b) : PG X tg (fun v σ H Q => a v σ H Q ∨ b v σ H Q) :=
  ⟨fun pins s σ H v u Q I r h => by rcases h with h | h <;> first | exact h1.run pins s σ H v u Q I r h | exact h2.run pins s σ H v u Q I r h⟩
theorem PG.imp {tg : Expr} {a b : TG} (h1 : PG X tg a) (i : ∀ v σ H Q, b v σ H Q → a v σ H Q) : PG X tg b :=
  ⟨fun pins s σ H v u Q I r h => h1.run pins s σ H v u Q I r (i v σ H Q h)⟩
theorem pg_t (g : Good Y call G k W sc raw N X) {t : T} {tg : Expr} (h : chkT N sc raw t tg = true) : PG X tg (gT X.K t) := by
  unfold chkT at h
  split at h
  · obtain ⟨h1, h2, h3⟩ := sto_of g h
    exact pg_name (by rw [g.names]; exact g.nd) h1 h2 h3
  · obtain ⟨i1, i2, i3⟩ := pgs_names g h
    refine PG.imp (PG.or (pg_tup g.calm i1 i2 i3) (pg_unl g.calm i1 i2 i3)) fun v σ H Q ⟨a, xs, e, hq, hl, q⟩ => ?_
    rcases hq with hq | hq
    · exact .inl ⟨a, xs, e, hq, hl, hl, q⟩
    · exact .inr ⟨a, xs, e, hq, hl, hl, q⟩
  · cases h
/-- what is walked is put -/
theorem put_rep {K : PySem.W.Frag} {F : Hp} {φ : List Addr} {st : Store} {ρ ρ' : Env} {σ : L2.St} {H : Hp} {d : D} {v : V} {t : T} (B : Base K F φ st H) (V : EnvOk K F φ ρ σ H) (r : Rep K F d v) (h : putT t d ρ = some ρ') :
    ∃ σ', EnvOk K F φ ρ' σ' H ∧ (∀ vs : List Nat, (∀ i ∈ tSlots t, i ∈ vs) → L2.wipe σ' vs = L2.wipe σ vs) ∧ ∀ Q : L2.St → Hp → Prop, Q σ' H → gT K t v σ H Q := by
  cases t with
  | nm i m =>
    cases put1_rep r h
    exact ⟨_, V.rep i r, fun vs hv => wipe_set (hv i List.mem_cons_self), fun Q q => q⟩
  | tp is =>
    unfold putT at h
    cases r with
    | tup e rs =>
      obtain ⟨h1, h2⟩ := putN_rep rs V h
      exact ⟨_, h2, fun vs hv => wipe_setV hv, fun Q q => ⟨_, _, rfl, .inl (sqt_of (B.sub _ _ e)), h1.symm, q⟩⟩
    | lst e rs =>
      obtain ⟨h1, h2⟩ := putN_rep rs V h
      exact ⟨_, h2, fun vs hv => wipe_setV hv, fun Q q => ⟨_, _, rfl, .inr (sq_of (B.sub _ _ e)), h1.symm, q⟩⟩
    | _ => cases h
end
end Gb

/-! Comprehensions. -/
namespace Gb
open PySem PySem.Spec PyProof.Rows L2 StX

section
variable {K : PySem.W.Frag} {F F' F1 : Hp} {φ φ' φ1 : List Addr} {H H' H1 : Hp} {st : Store} {p : Addr} {o : HO}
/-- a list that is the caller's no more is written -/
theorem Step.write (s : Step F φ H F' φ' H') (hn : H p = none) : Step F φ H F' φ' (upd H' p o) :=
  ⟨fun a u e n => by rw [upd_ne (ne_of_none e hn)]; exact s.keep a u e n, fun a h => by rw [upd_ne (show a ≠ p by rintro rfl; exact h hn)]; exact s.dom a h, s.ff, s.new, s.box⟩
theorem Base.write (B : Base K F φ st H) (hf : F p = none) (hn : p ∉ φ) : Base K F φ st (upd H p o) :=
  ⟨fun a u e => by rw [upd_ne (ne_of_none e hf)]; exact B.sub a u e, B.len, B.nd, fun n a xs h1 h2 => by
    obtain ⟨vs, e, r, f⟩ := B.box n a xs h1 h2
    have na : a ≠ p := by rintro rfl; exact hn (List.mem_of_getElem? h1)
    exact ⟨vs, by rw [upd_ne na]; exact e, r, f⟩⟩
theorem Post.bind0 {Y : ExT} {W : XK} {α β : Type} {o : Out α} {f : α → Store → Out β} {R : RT β} (p : Post K Y W F φ H (o.bind f) R) : Post K Y W F φ H o (fun a st1 _ _ _ => Post K Y W F φ H (f a st1) R) := by
  cases o with
  | ok a st => exact fun F' φ' H' s b => p
  | ex x st => exact p
  | bad => exact p
theorem noEx_post {Y : ExT} {W : XK} {α : Type} {o : Out α} {R : RT α} (p : Post K Y W F φ H (noEx o) R) : Post K Y E0 F φ H o R := by
  cases o with
  | ok a st => exact p
  | ex x st => exact p.elim
  | bad => exact p.elim
end

section
variable {Y : ExT} {call : CallF} {G : Glob} {k : Nat} {W : XK} {sc raw : Scope} {N : List Str} {X : L2.Cx}
theorem Good.blk (g : Good Y call G k W sc raw N X) (s : Shared) (H : Hp) (C : Addr) (cl : List (Str × Addr)) (fp : List Addr) (scope : Scope) :
    Good Y call G k E0 (relS scope sc) scope N (X.blk s H scope (compEnvC scope cl C X.env) fp) where
  prg := g.prg
  scope := by rw [← g.scope]; rfl
  names := g.names
  nd := g.nd
  calm := g.calm
  room := g.room
  fnr := fun x h => by
    show (scope.names.lookup x == some .cell) = true
    rw [h]; rfl
  pass := passL
def isYes : E → Bool
  | .con (.bl true) => true
  | _ => false
/-- the filter of a comprehension -/
def tIf (K : PySem.W.Frag) (Y : ExT) (call : CallF) (c : E) (W : XK) (no : Bool) : TT := if no then tYes else tT K Y call c W
/-- a turn's part -/
def turnF (call : CallF) (own : List Nat) (t : T) (c e : E) (ρ : Env) : D → Store → Out (Option D) := fun d st => match putT t d (wipeE ρ own) with
      | some ρ' => (evE call c ρ' st).bind fun b st => match truD b with
        | some true => (evE call e ρ' st).bind fun x st => lift ((purD x).map some) st
        | some false => .ok none st
        | none => .bad
      | none => .bad
theorem lc_read {own : List Nat} {t : T} {it c e : E} {no : Bool} (hno : no = true → isYes c = true) (ho : ∀ i ∈ tSlots t, i ∈ own) {σ : L2.St} {H : Hp} {Q : VK} (h : tD X.K Y call (.comp own t it c e) W σ H Q) :
    tLc (tI X.K Y call it W) (gT X.K t) (tIf X.K Y call c E0 no) (tD X.K Y call e E0) own σ H Q := by
  obtain ⟨F, φ, ρ, st, B, V, p⟩ := h
  rw [evE] at p
  refine ⟨F, φ, ρ, st, B, V, p.bind.mono fun ds st1 F1 φ1 H1 S1 B1 p1 J wk D hD => ?_⟩
  have V1 := (V.step S1).wipe own
  have hDF : F1 D = none := B1.fnone hD
  have hDφ : D ∉ φ1 := B1.nin hD
  let R1 : RT (List Gb.D) := fun xs st F φ H' => Post X.K Y W F φ H' (.ok (.fls xs) st) (RQ X.K H Q)
  have p1 : Post X.K Y W F1 φ1 H1 (compL (turnF call own t c e ρ) ds [] st1) R1 := p1.bind
  let Pv : Nat → Hp → Prop := fun i H' => ∃ F2 φ2 st2 acc accV, Step F1 φ1 H1 F2 φ2 H' ∧ Base X.K F2 φ2 st2 H' ∧ H' D = some (.lst accV) ∧ Reps X.K F2 acc accV ∧ F2 D = none ∧ D ∉ φ2 ∧
    Post X.K Y W F1 φ1 H1 (compL (turnF call own t c e ρ) (ds.drop i) acc st2) R1
  refine ⟨fun i m H' => m = ds.length - i ∧ i ≤ ds.length ∧ Pv i H', ⟨ds.length, by simp, Nat.zero_le _, F1, φ1, st1, [], [], .laid hD, B1.laid hD, upd_same, .nil, hDF, hDφ, p1⟩, ?_⟩
  rintro i m H2 ⟨rfl, hi, F2, φ2, st2, acc, accV, S2, B2, hDl, ra, hF2, hφ2, p2⟩
  by_cases hlt : i < ds.length
  · refine .inr ⟨wk.go i H2 (fun a o h => B2.sub a o (S2.ff a o h)) hlt, Pv (i + 1), fun H' p' => ⟨ds.length - (i + 1), by omega, rfl, hlt, p'⟩, fun x H3 y => ?_⟩
    obtain ⟨d, hd, hx⟩ := wk.yld i H2 x H3 (fun a o h => B2.sub a o (S2.ff a o h)) hlt y
    -- the item lies in what is frozen
    have item : ∃ F3, Step F2 φ2 H2 F3 φ2 H3 ∧ Base X.K F3 φ2 st2 H3 ∧ Rep X.K F3 d x := by
      rcases hx with ⟨rfl, r⟩ | ⟨T, vs, xs, rfl, hT, rfl, rfl, r⟩
      · exact ⟨F2, .refl, B2, r.mono S2.ff⟩
      · exact ⟨_, .laidF B2 hT, B2.laidF hT, .tup upd_same (r.mono fun a o h => sub_updF (B2.fnone hT) a o (S2.ff a o h))⟩
    obtain ⟨F3, S3, B3, r3⟩ := item
    have hdrop : ds.drop i = d :: ds.drop (i + 1) := by
      rw [List.drop_eq_getElem_cons hlt]
      rw [List.getElem?_eq_getElem hlt] at hd
      cases hd
      rfl
    rw [hdrop, compL] at p2
    have p3 := (noEx_post p2.bind0).step (S2.trans S3)
    have hD2 : H2 D ≠ none := by rw [hDl]; simp
    have hDl3 : H3 D = some (.lst accV) := S3.keep D _ hDl hφ2
    have hD3 : H3 D ≠ none := by rw [hDl3]; simp
    have hF3 : F3 D = none := S3.new D hD2 hF2
    unfold turnF at p3
    cases e1 : putT t d (wipeE ρ own) with
    | none => rw [e1] at p3; exact p3.elim
    | some ρ' =>
      rw [e1] at p3
      dsimp only at p3
      have V3 : EnvOk X.K F3 φ2 (wipeE ρ own) (L2.wipe σ own) H3 := V1.step (S2.trans S3)
      obtain ⟨σ', V4, hw, hg⟩ := put_rep B3 V3 r3 e1
      refine hg _ ⟨by rw [hw own ho, wipe_wipe], ?_⟩
      have S23 := S2.trans S3
      -- behind the filter
      have fin : ∀ b st4 F4 φ4 H4, Step F3 φ2 H3 F4 φ4 H4 → Base X.K F4 φ4 st4 H4 →
          Post X.K Y E0 F4 φ4 H4 (match some b with | some true => (evE call e ρ' st4).bind fun x st => lift ((purD x).map some) st | some false => .ok none st4 | none => .bad : Out (Option Gb.D))
            (fun a st1 _ _ _ => Post X.K Y W F1 φ1 H1 (match a with | some x => if acc.length < sizeLine then compL (turnF call own t c e ρ) (ds.drop (i + 1)) (acc ++ [x]) st1 else .bad | none => compL (turnF call own t c e ρ) (ds.drop (i + 1)) acc st1) R1) →
          if b = true then tD X.K Y call e E0 σ' H4 (fun y H4 => ∃ acc, H4 D = some (.lst acc) ∧ acc.length < sizeLine ∧ Pv (i + 1) (upd H4 D (.lst (acc ++ [y])))) else Pv (i + 1) H4 := fun b st4 F4 φ4 H4 S4 B4 p4 => by
        have hDl4 : H4 D = some (.lst accV) := S4.keep D _ hDl3 hφ2
        cases b with
        | false =>
          rw [if_neg (by decide)]
          have p5 := p4.now B4
          exact ⟨F4, φ4, st4, acc, accV, S23.trans S4, B4, hDl4, ra.mono fun a o h => S4.ff a o (S3.ff a o h), S4.new D hD3 hF3, S4.nin hD3 hφ2, p5⟩
        | true =>
          rw [if_pos rfl]
          refine one_ofF B4 (V4.step S4) p4 fun d5 st5 F5 φ5 H5 y5 S5 B5 r5 f5 p5 => ?_
          cases e5 : purD d5 with
          | none =>
            have z := p5 F5 S5 B5
            rw [e5] at z
            exact z.elim
          | some x5 =>
            obtain ⟨F6, S6, B6, r6⟩ := pur_of e5 r5 f5 B5 S5
            have z := p5 F6 S6 B6
            rw [e5] at z
            have z1 := z.now B6
            have hD4 : H4 D ≠ none := by rw [hDl4]; simp
            have hφ4 : D ∉ φ4 := S4.nin hD3 hφ2
            have hDl5 : H5 D = some (.lst accV) := S6.keep D _ hDl4 hφ4
            have hF6 : F6 D = none := S6.new D hD4 (S4.new D hD3 hF3)
            have hφ6 : D ∉ φ5 := S6.nin hD4 hφ4
            by_cases hz : acc.length < sizeLine
            · have z2 : Post X.K Y W F1 φ1 H1 (compL (turnF call own t c e ρ) (ds.drop (i + 1)) (acc ++ [x5]) st5) R1 := by
                have z3 := z1
                dsimp only at z3
                rw [if_pos hz] at z3
                exact z3
              have rl : acc.length = accV.length := ra.length
              refine ⟨accV, hDl5, by rw [← rl]; exact hz, F6, φ5, st5, acc ++ [x5], accV ++ [y5], (S23.trans (S4.trans S6)).write hD, B6.write hF6 hφ6, upd_same,
                (ra.mono fun a o h => S6.ff a o (S4.ff a o (S3.ff a o h))).append (.cons r6 .nil), hF6, hφ6, z2⟩
            · dsimp only at z1
              rw [if_neg hz] at z1
              exact z1.elim
      cases no with
      | true =>
        have hc : isYes c = true := hno rfl
        unfold isYes at hc
        split at hc
        · rw [show evE call (.con (.bl true)) ρ' st2 = .ok (.bl true) st2 from by rw [evE]] at p3
          exact fin true st2 F3 φ2 H3 .refl B3 p3
        · cases hc
      | false =>
        refine tt_bind B3 V4 p3 (fun d st e => by rw [e]) fun d4 b st4 F4 φ4 H4 _ e4 S4 B4 V5 p4 => ?_
        rw [e4] at p4
        exact fin b st4 F4 φ4 H4 S4 B4 p4
  · have e : i = ds.length := by omega
    subst e
    refine .inl ⟨wk.stop H2 fun a o h => B2.sub a o (S2.ff a o h), ?_⟩
    rw [List.drop_length, compL] at p2
    exact (p2 _ _ _ S2 B2).now B2 (.ref D) ⟨D, accV, rfl, hDl, ra, hF2, hφ2⟩ fun a e => by cases e; exact S1.unmade hD
theorem pts_if {c : E} {no : Bool} {ifs : List Expr} (h : if no = true then ifs = [] else ∃ x, ifs = [x] ∧ PT X x (tT X.K Y call c W)) : PTs X ifs (tIf X.K Y call c W no) := by
  cases no with
  | true =>
    rw [if_pos rfl] at h
    subst h
    exact pts_nil
  | false =>
    rw [if_neg (by decide)] at h
    obtain ⟨x, rfl, h⟩ := h
    exact pts_one h
theorem own_map {own : List Nat} {N : List Str} : (own.map fun i => (N.getD i "", i)).map (·.2) = own := by
  rw [List.map_map]
  exact List.map_id' own
theorem s_comp {own : List Nat} {t : T} {it c e : E} {no : Bool} {elt tg iter : Expr} {ifs : List Expr} {scope : Scope} {pos : Pos} (g : Good Y call G k W sc raw N X) (hi : PI X tg iter (tI X.K Y call it W))
    (hb : blkC N sc scope (own.map fun i => (N.getD i "", i)) = true) (hs : isSetE iter = false) (ht : chkT N (relS scope sc) scope t tg = true) (hno : no = true → isYes c = true) (ho : ∀ i ∈ tSlots t, i ∈ own)
    (hc : ∀ X', Good Y call G k E0 (relS scope sc) scope N X' → if no = true then ifs = [] else ∃ x, ifs = [x] ∧ PT X' x (tT X'.K Y call c E0)) (he : ∀ X', Good Y call G k E0 (relS scope sc) scope N X' → PE X' elt (tD X'.K Y call e E0)) :
    PE X (.ListComp elt [⟨tg, iter, ifs, 0⟩] scope pos) (tD X.K Y call (.comp own t it c e) W) := by
  refine PE.imp (pe_lc (wi := tI X.K Y call it W) (g := gT X.K t) (tt := tIf X.K Y call c E0 no) (te := tD X.K Y call e E0) (own := own.map fun i => (N.getD i "", i)) g.calm (by rw [g.names]; exact g.nd) hi (by rw [g.names, g.scope]; exact blkOk_by hb)
    (fun s H C cl fp => pg_t (g.blk s H C cl fp scope) ht) (fun s H C cl fp => pts_if (hc _ (g.blk s H C cl fp scope))) (fun s H C cl fp => he _ (g.blk s H C cl fp scope)) (fun x => set_ne hs)) fun σ H Q h => ?_
  rw [own_map]
  exact lc_read hno ho h
theorem s_setComp {own : List Nat} {t : T} {it c e : E} {no : Bool} {elt tg iter : Expr} {ifs : List Expr} {scope : Scope} {pos spos py : Pos} {i : Nat} {y : Str} (g : Good Y call G k W sc raw N X) (hi : PI X tg iter (tI X.K Y call it W))
    (hb : blkC N sc scope (own.map fun i => (N.getD i "", i)) = true) (hs : isSetE iter = false) (ht : chkT N (relS scope sc) scope t tg = true) (hno : no = true → isYes c = true) (ho : ∀ i ∈ tSlots t, i ∈ own)
    (hc : ∀ X', Good Y call G k E0 (relS scope sc) scope N X' → if no = true then ifs = [] else ∃ x, ifs = [x] ∧ PT X' x (tT X'.K Y call c E0)) (he : ∀ X', Good Y call G k E0 (relS scope sc) scope N X' → PE X' elt (tD X'.K Y call e E0))
    (hy : slotB N i y = true) (hl : lclB sc y = true) (hk : X.env.scope.kind = .function) (hp : (py.line == pos.line) = true) (ha : (scope.names.any fun (n, k) => n == y && (k == .local || k == .cell)) = false) :
    PS X (.Assign [.Name y py] (.ListComp elt [⟨tg, iter, ifs, 0⟩] scope pos) spos) (tAsg (tD X.K Y call (.comp own t it c e) W) (gName i)) := by
  refine PS.imp (ps_setLc (wi := tI X.K Y call it W) (g := gT X.K t) (tt := tIf X.K Y call c E0 no) (te := tD X.K Y call e E0) (own := own.map fun i => (N.getD i "", i)) g.calm (by rw [g.names]; exact g.nd) (by rw [g.names]; exact slot_of hy) (by rw [g.scope]; exact lcl_of hl)
    (sw_true hk (by rw [g.scope]; exact lcl_of hl) hp ha) hi (by rw [g.names, g.scope]; exact blkOk_by hb)
    (fun s H C cl fp => pg_t (g.blk s H C cl fp scope) ht) (fun s H C cl fp => pts_if (hc _ (g.blk s H C cl fp scope))) (fun s H C cl fp => he _ (g.blk s H C cl fp scope)) (fun x => set_ne hs)) fun D σ H h => ?_
  rw [own_map]
  exact lc_read hno ho h
end
end Gb

/-! Every checked expression. -/
namespace Gb
open PySem PySem.Spec PyProof.Rows L2 StX

section
variable {Y : ExT} {call : CallF} {G : Glob} {k : Nat} {W : XK} {sc raw : Scope} {N : List Str} {X : L2.Cx}

/-- its test is its value's truth -/
def plainT : Expr → Bool
  | .UnaryOp .Not _ _ => false
  | .BoolOp .. => false
  | .IfExp .. => false
  | .Compare .. => false
  | _ => true
theorem plain_tru {x : Expr} {env : PySem.Env} (h : plainT x = true) : ∀ whole, isTrue x env whole = (do let v ← whole; standAt x.pos; holding [v] (truthy v)) := by
  intro whole
  cases x with
  | UnaryOp op e p => cases op <;> first | rfl | cases h
  | BoolOp => cases h
  | IfExp => cases h
  | Compare => cases h
  | _ => rfl
theorem t_ite {a b c : E} {x y z : Expr} {pos : Pos} (hc : PT X z (tT X.K Y call c W)) (ha : PT X x (tT X.K Y call a W)) (hb : PT X y (tT X.K Y call b W)) : PT X (.IfExp z x y pos) (tT X.K Y call (.ite c a b) W) := by
  refine ⟨fun pins s σ H Q I ⟨F, φ, ρ, st, B, V, p⟩ => ?_⟩
  rw [evE] at p
  show wpAny _ _ (do if ← isTrue z X.env (eval z X.env) then isTrue x X.env (eval x X.env) else isTrue y X.env (eval y X.env)) _ _ s
  have q : tT X.K Y call c W σ H (fun t H1 => if t = true then tT X.K Y call a W σ H1 Q else tT X.K Y call b W σ H1 Q) := by
    have p0 : Post X.K Y W F φ H ((evE call c ρ st).bind fun x st => (match truD x with | some true => evE call a ρ st | some false => evE call b ρ st | none => .bad : Out D).bind fun d st => lift (truD d) st) (fun b _ _ _ H' => Q b H') := by
      cases he : evE call c ρ st with
      | bad => rw [he] at p; exact p
      | ex x st1 => rw [he] at p; exact p
      | ok d st1 => rw [he] at p; exact p
    refine tt_bind B V p0 (fun d st e => by rw [e]; rfl) fun d t st1 F1 φ1 H1 _ e S1 B1 V1 p1 => ?_
    rw [e] at p1
    cases t with
    | true => rw [if_pos rfl]; exact ⟨F1, φ1, ρ, st1, B1, V1, p1⟩
    | false => rw [if_neg (by decide)]; exact ⟨F1, φ1, ρ, st1, B1, V1, p1⟩
  refine wpAny_bind (thn (hc.run pins s σ H _ I q) fun t s1 ⟨H1, I1, q1⟩ => ?_)
  cases t with
  | true => exact ha.run pins s1 σ H1 Q I1 q1
  | false => exact hb.run pins s1 σ H1 Q I1 q1
theorem t_chain {op op' : COp} {a b c : E} {x y z : Expr} {pos : Pos} (g : Good Y call G k W sc raw N X) (ha : PE X x (tD X.K Y call a W)) (hb : PE X y (tD X.K Y call b W)) (hc : PE X z (tD X.K Y call c W)) (hm : isSetE z = false) :
    PT X (.Compare x [copOf op, copOf op'] [y, z] pos) (tT X.K Y call (.chain op op' a b c) W) := by
  refine PT.imp (pt_chain (g_cmp (Y := Y) (E := W) op g.room.units) (g_cmp (Y := Y) (E := W) op' g.room.units) ha hb hc (show behindInMarks (copOf op') z = false from mark_ne hm)) fun σ H Q ⟨F, φ, ρ, st, B, V, p⟩ => ?_
  rw [evE] at p
  have p0 : Post X.K Y W F φ H ((evE call a ρ st).bind fun x st => (evE call b ρ st).bind fun y st => (match cmpD op x y with
      | some true => (evE call c ρ st).bind fun z st => lift ((cmpD op' y z).map D.bl) st
      | some false => .ok (.bl false) st
      | none => .bad : Out D).bind fun d st => lift (truD d) st) (fun b _ _ _ H' => Q b H') := by
    cases he : evE call a ρ st with
    | bad => rw [he] at p; exact p
    | ex x st1 => rw [he] at p; exact p
    | ok d st1 =>
      rw [he] at p
      have p1 : Post X.K Y W F φ H (((evE call b ρ st1).bind fun y st => (match cmpD op d y with
        | some true => (evE call c ρ st).bind fun z st => lift ((cmpD op' y z).map D.bl) st
        | some false => .ok (.bl false) st
        | none => .bad : Out D)).bind fun d st => lift (truD d) st) (fun b _ _ _ H' => Q b H') := p
      show Post X.K Y W F φ H ((evE call b ρ st1).bind fun y st => (match cmpD op d y with
        | some true => (evE call c ρ st).bind fun z st => lift ((cmpD op' y z).map D.bl) st
        | some false => .ok (.bl false) st
        | none => .bad : Out D).bind fun d st => lift (truD d) st) _
      cases he2 : evE call b ρ st1 with
      | bad => rw [he2] at p1; exact p1
      | ex x st1 => rw [he2] at p1; exact p1
      | ok d st1 => rw [he2] at p1; exact p1
  refine one_of B V p0 fun d st1 F1 φ1 H1 v S1 B1 V1 rv fv p1 => one_of B1 V1 p1 fun d2 st2 F2 φ2 H2 v2 S2 B2 V2 rv2 fv2 p2 => ?_
  refine ⟨F2, φ2, st2, d, d2, B2, rv.step S2, rv2, ?_⟩
  show Post X.K Y W F2 φ2 H2 (lift ((cmpD op d d2).map D.bl) st2) _
  cases e : cmpD op d d2 with
  | none => rw [e] at p2; exact p2.elim
  | some t =>
    rw [e] at p2
    refine fun F' φ' H' S3 B3 v rv3 _ => ⟨t, RepX.bl rv3, ?_⟩
    have p3 := p2.step S3
    cases t with
    | true =>
      rw [if_pos rfl]
      have p4 : Post X.K Y W F' φ' H' ((evE call c ρ st2).bind fun z st => (lift ((cmpD op' d2 z).map D.bl) st).bind fun d st => lift (truD d) st) (fun b _ _ _ H' => Q b H') := by
        dsimp only at p3
        cases he : evE call c ρ st2 with
        | bad => rw [he] at p3; exact p3
        | ex x st1 => rw [he] at p3; exact p3
        | ok d st1 => rw [he] at p3; exact p3
      refine one_of B3 (V2.step S3) p4 fun d3 st3 F3 φ3 H3 v3 S4 B4 V4 rv4 fv4 p5 => ?_
      exact ⟨F3, φ3, st3, d2, d3, B4, rv2.step (S3.trans S4), rv4, test_bl p5⟩
    | false =>
      rw [if_neg (by decide)]
      exact ⟨false, rfl, p3.now B3⟩

/-! ### lists -/
def lstE : E → Bool
  | .nil => true
  | .cons .. => true
  | .star .. => true
  | _ => false
def itE : E → Bool
  | .rng1 _ => true
  | .rng2 .. => true
  | .enm _ => true
  | .zip .. => true
  | .seq _ => true
  | _ => false
theorem chkA_no {e : E} (h : lstE e = false) {xs : List Expr} : chkA G N sc raw e xs = false := by
  cases e <;> first | cases h; done | (cases xs <;> rfl)
theorem chkB_no {e : E} (h : lstE e = false) {xs : List Expr} : chkB G N sc raw e xs = false := by
  cases e <;> first | cases h; done | (cases xs <;> rfl)
theorem chkS_no {e : E} (h : lstE e = false) {xs : List Expr} : chkS G N sc raw e xs = false := by
  cases e <;> first | cases h; done | (cases xs <;> rfl)
theorem chkK_no {e : E} (h : lstE e = false) {xs : List Keyword} : chkK G N sc raw e xs = false := by
  cases e <;> first | cases h; done | (cases xs <;> rfl)
theorem chkI_no {e : E} (h : itE e = false) {tg x : Expr} : chkI G N sc raw e tg x = false := by
  cases e <;> first | cases h; done | rfl

structure Snd (Y : ExT) (call : CallF) (G : Glob) (k : Nat) (e : E) : Prop where
  E : ∀ {W : XK} {sc raw : Scope} {N : List Str} {X : L2.Cx} {x : Expr}, Good Y call G k W sc raw N X → chkE G N sc raw e x = true → PE X x (tD X.K Y call e W)
  T : ∀ {W : XK} {sc raw : Scope} {N : List Str} {X : L2.Cx} {x : Expr}, Good Y call G k W sc raw N X → chkE G N sc raw e x = true → PT X x (tT X.K Y call e W)
  A : ∀ {W : XK} {sc raw : Scope} {N : List Str} {X : L2.Cx} {xs : List Expr}, Good Y call G k W sc raw N X → chkA G N sc raw e xs = true → PA X xs (tA X.K Y call e W)
  B : ∀ {W : XK} {sc raw : Scope} {N : List Str} {X : L2.Cx} {xs : List Expr}, Good Y call G k W sc raw N X → chkB G N sc raw e xs = true → PA X xs (tBs X.K Y call e W)
  S : ∀ {W : XK} {sc raw : Scope} {N : List Str} {X : L2.Cx} {xs : List Expr}, Good Y call G k W sc raw N X → chkS G N sc raw e xs = true → PA X xs (tSs X.K Y call e W)
  K : ∀ {W : XK} {sc raw : Scope} {N : List Str} {X : L2.Cx} {xs : List Keyword}, Good Y call G k W sc raw N X → chkK G N sc raw e xs = true → PK X xs (tA X.K Y call e W)
  I : ∀ {W : XK} {sc raw : Scope} {N : List Str} {X : L2.Cx} {tg x : Expr}, Good Y call G k W sc raw N X → chkI G N sc raw e tg x = true → PI X tg x (tI X.K Y call e W)

/-- a value's text -/
theorem Snd.val {e : Gb.E} (hl : lstE e = false) (hi : itE e = false) (h : ∀ {W : XK} {sc raw : Scope} {N : List Str} {X : L2.Cx} {x : Expr}, Good Y call G k W sc raw N X → chkE G N sc raw e x = true → PE X x (tD X.K Y call e W) ∧ PT X x (tT X.K Y call e W)) : Snd Y call G k e where
  E g c := (h g c).1
  T g c := (h g c).2
  A g c := by rw [chkA_no hl] at c; cases c
  B g c := by rw [chkB_no hl] at c; cases c
  S g c := by rw [chkS_no hl] at c; cases c
  K g c := by rw [chkK_no hl] at c; cases c
  I g c := by rw [chkI_no hi] at c; cases c
theorem Snd.valP {e : Gb.E} (hl : lstE e = false) (hi : itE e = false) (h : ∀ {W : XK} {sc raw : Scope} {N : List Str} {X : L2.Cx} {x : Expr}, Good Y call G k W sc raw N X → chkE G N sc raw e x = true → PE X x (tD X.K Y call e W) ∧ plainT x = true) : Snd Y call G k e :=
  .val hl hi fun g c => ⟨(h g c).1, PE.test (h g c).1 (plain_tru (h g c).2)⟩
theorem nostar {es : E} : ∀ {xs : List Expr}, chkA G N sc raw es xs = true → ∀ e ∈ xs, isStarE e = false := by
  intro xs
  induction xs generalizing es with
  | nil => intro _ e h; cases h
  | cons x xs ih =>
    intro h e he
    unfold chkA at h
    split at h <;> try (first | contradiction | cases h)
    rename_i heq
    obtain ⟨rfl, rfl⟩ := List.cons.inj heq
    simp only [Bool.and_eq_true, Bool.not_eq_true'] at h
    rcases List.mem_cons.mp he with rfl | he
    · exact h.1.1
    · exact ih h.2 e he
theorem nostarB {es : E} : ∀ {xs : List Expr}, chkB G N sc raw es xs = true → ∀ e ∈ xs, isStarE e = false := by
  intro xs
  induction xs generalizing es with
  | nil => intro _ e h; cases h
  | cons x xs ih =>
    intro h e he
    unfold chkB at h
    split at h <;> try (first | contradiction | cases h)
    rename_i heq
    obtain ⟨rfl, rfl⟩ := List.cons.inj heq
    simp only [Bool.and_eq_true, Bool.not_eq_true'] at h
    rcases List.mem_cons.mp he with rfl | he
    · exact h.1.1
    · exact ih h.2 e he
theorem chkA_nil {es : E} (h : chkA G N sc raw es [] = true) : es = .nil := by
  cases es <;> first | rfl | cases h

theorem tys1 {ts : List Ty} {z : Expr} (h : tysB sc ts [z] = true) : ∃ t p, ts = [t] ∧ z = .Name (tyNm t) p ∧ glbB sc (tyNm t) = true := by
  unfold tysB at h
  split at h <;> try (first | contradiction | cases h)
  rename_i t ts x p es heq
  cases heq
  simp only [Bool.and_eq_true, beq_iff_eq] at h
  obtain ⟨⟨rfl, h2⟩, h3⟩ := h
  cases ts with
  | nil => exact ⟨t, _, rfl, rfl, h2⟩
  | cons => cases h3
theorem snd : ∀ e : E, Snd Y call G k e
  | .var i => .valP rfl rfl fun g c => ⟨s_var g c, by
      unfold chkE at c
      split at c <;> first | rfl | cases c⟩
  | .con d => .valP rfl rfl fun g c => ⟨s_con c, by
      unfold chkE conB at c
      split at c <;> first | rfl | cases c⟩
  | .glob x d => .valP rfl rfl fun g c => by
      unfold chkE at c
      split at c
      · simp only [Bool.and_eq_true, beq_iff_eq] at c
        obtain ⟨⟨⟨rfl, c1⟩, c2⟩, c3⟩ := c
        exact ⟨s_globI g c1 c2 (List.contains_iff_mem.mp c3), rfl⟩
      · simp only [Bool.and_eq_true, beq_iff_eq] at c
        obtain ⟨⟨⟨rfl, c1⟩, c2⟩, c3⟩ := c
        exact ⟨s_globS g c1 c2 (List.contains_iff_mem.mp c3), rfl⟩
      · cases c
  | .bin op a b => .valP rfl rfl fun g c => by
      unfold chkE at c
      split at c
      · simp only [Bool.and_eq_true, beq_iff_eq] at c
        obtain ⟨⟨rfl, c1⟩, c2⟩ := c
        exact ⟨s_bin ((snd a).E g c1) ((snd b).E g c2), rfl⟩
      · cases c
  | .neg a => .valP rfl rfl fun g c => by
      unfold chkE at c
      split at c
      · exact ⟨s_neg ((snd a).E g c), rfl⟩
      · cases c
  | .not a => .val rfl rfl fun g c => by
      unfold chkE at c
      split at c
      · exact ⟨s_not ((snd a).E g c), t_not ((snd a).T g c)⟩
      · cases c
  | .and a b => .val rfl rfl fun g c => by
      unfold chkE at c
      split at c
      · rename_i rest _
        simp only [Bool.and_eq_true] at c
        obtain ⟨c1, c2⟩ := c
        cases rest with
        | nil => exact ⟨s_and ((snd a).E g c1) (pe_one ((snd b).E g c2)), t_and ((snd a).T g c1) (pw_and1 ((snd b).T g c2)).pt⟩
        | cons z zs => exact ⟨s_and ((snd a).E g c1) ((snd b).E g c2), t_and ((snd a).T g c1) ((snd b).T g c2)⟩
      · cases c
  | .or a b => .val rfl rfl fun g c => by
      unfold chkE at c
      split at c
      · rename_i rest _
        simp only [Bool.and_eq_true] at c
        obtain ⟨c1, c2⟩ := c
        cases rest with
        | nil => exact ⟨s_or ((snd a).E g c1) (pe_one ((snd b).E g c2)), t_or ((snd a).T g c1) (pw_or1 ((snd b).T g c2)).pt⟩
        | cons z zs => exact ⟨s_or ((snd a).E g c1) ((snd b).E g c2), t_or ((snd a).T g c1) ((snd b).T g c2)⟩
      · cases c
  | .cmp op a b => .val rfl rfl fun g c => by
      unfold chkE at c
      split at c
      · simp only [Bool.and_eq_true, beq_iff_eq, Bool.not_eq_true'] at c
        obtain ⟨⟨⟨rfl, c0⟩, c1⟩, c2⟩ := c
        exact ⟨s_cmp g ((snd a).E g c1) ((snd b).E g c2) c0, t_cmp g ((snd a).E g c1) ((snd b).E g c2) c0⟩
      · cases c
  | .chain op op' a b c => .val rfl rfl fun g h => by
      unfold chkE at h
      split at h
      · simp only [Bool.and_eq_true, beq_iff_eq, Bool.not_eq_true'] at h
        obtain ⟨⟨⟨⟨⟨rfl, rfl⟩, c0⟩, c1⟩, c2⟩, c3⟩ := h
        exact ⟨s_chain g ((snd a).E g c1) ((snd b).E g c2) ((snd c).E g c3) c0, t_chain g ((snd a).E g c1) ((snd b).E g c2) ((snd c).E g c3) c0⟩
      · cases h
  | .ite c a b => .val rfl rfl fun g h => by
      unfold chkE at h
      split at h
      · simp only [Bool.and_eq_true] at h
        obtain ⟨⟨c1, c2⟩, c3⟩ := h
        exact ⟨s_ite ((snd c).T g c1) ((snd a).E g c2) ((snd b).E g c3), t_ite ((snd c).T g c1) ((snd a).T g c2) ((snd b).T g c3)⟩
      · cases h
  | .call f es => .valP rfl rfl fun g c => by
      unfold chkE at c
      split at c
      · simp only [Bool.and_eq_true] at c
        obtain ⟨⟨⟨c1, c2⟩, c3⟩, c4⟩ := c
        cases hf : G.fn f with
        | none => rw [hf] at c1; cases c1
        | some q =>
          obtain ⟨y, ps⟩ := q
          rw [hf] at c1
          simp only [beq_iff_eq] at c1
          subst c1
          exact ⟨s_call g hf c2 c3 ((snd es).A g c4) (nostar c4) fun e => by subst e; exact chkA_nil c4, rfl⟩
      · cases c
  | .callK f perm es => .valP rfl rfl fun g c => by
      unfold chkE at c
      split at c
      · simp only [Bool.and_eq_true] at c
        obtain ⟨⟨⟨⟨c1, c2⟩, c3⟩, c4⟩, c5⟩ := c
        cases hf : G.fn f with
        | none => rw [hf] at c1; cases c1
        | some q =>
          obtain ⟨y, ps⟩ := q
          rw [hf] at c1
          simp only [beq_iff_eq] at c1
          subst c1
          exact ⟨s_callK g hf c2 c3 c4 ((snd es).K g c5) c5, rfl⟩
      · cases c
  | .bi b es => .valP rfl rfl fun g c => by
      unfold chkE at c
      split at c
      · simp only [Bool.and_eq_true, beq_iff_eq] at c
        obtain ⟨⟨⟨⟨rfl, rfl⟩, c1⟩, c2⟩, c3⟩ := c
        exact ⟨s_setI g c1 c2 ((snd es).B g c3) (nostarB c3 _ List.mem_cons_self), rfl⟩
      · cases c
      · cases c
      · rename_i x p as pos n1 n2 n3
        simp only [Bool.and_eq_true, beq_iff_eq, Bool.not_eq_true'] at c
        obtain ⟨⟨⟨rfl, c1⟩, c2⟩, c3⟩ := c
        cases as with
        | nil => cases c3
        | cons y ys => exact ⟨s_bi g ⟨n2, n3⟩ c1 ((snd es).B g c2) (nostarB c2), rfl⟩
      · cases c
  | .isi a ts => .valP rfl rfl fun g c => by
      unfold chkE at c
      simp only [Bool.and_eq_true, decide_eq_true_eq] at c
      obtain ⟨c0, c⟩ := c
      split at c
      · simp only [Bool.and_eq_true, beq_iff_eq, Bool.not_eq_true'] at c
        obtain ⟨⟨⟨⟨rfl, c1⟩, c2⟩, c3⟩, c4⟩ := c
        split at c4
        · exact ⟨s_isiT g c1 ((snd a).E g c3) c2 c4 c0, rfl⟩
        · obtain ⟨t, p, rfl, rfl, c5⟩ := tys1 c4
          exact ⟨s_isi1 g c1 ((snd a).E g c3) c2 c5, rfl⟩
      · cases c
  | .tup es => .valP rfl rfl fun g c => by
      unfold chkE at c
      split at c
      · exact ⟨s_tup ((snd es).S g c), rfl⟩
      · cases c
  | .lst es => .valP rfl rfl fun g c => by
      unfold chkE at c
      split at c
      · exact ⟨s_lst ((snd es).S g c), rfl⟩
      · cases c
  | .nil => {
      E := fun g c => by unfold chkE at c; cases c
      T := fun g c => by unfold chkE at c; cases c
      A := fun {_ _ _ _ _ xs} g c => by cases xs with | nil => exact a_nil | cons => cases c
      B := fun {_ _ _ _ _ xs} g c => by cases xs with | nil => exact b_nil | cons => cases c
      S := fun {_ _ _ _ _ xs} g c => by cases xs with | nil => exact d_nil | cons => cases c
      K := fun {_ _ _ _ _ xs} g c => by cases xs with | nil => exact k_nil | cons => cases c
      I := fun g c => by rw [chkI_no rfl] at c; cases c }
  | .cons e es => {
      E := fun g c => by unfold chkE at c; cases c
      T := fun g c => by unfold chkE at c; cases c
      A := fun {_ _ _ _ _ xs} g c => by
        cases xs with
        | nil => cases c
        | cons x xs =>
          rw [chkA] at c
          simp only [Bool.and_eq_true, Bool.not_eq_true'] at c
          exact a_cons ((snd e).E g c.1.2) ((snd es).A g c.2) c.1.1
      B := fun {_ _ _ _ _ xs} g c => by
        cases xs with
        | nil => cases c
        | cons x xs =>
          rw [chkB] at c
          simp only [Bool.and_eq_true, Bool.not_eq_true'] at c
          exact b_cons ((snd e).E g c.1.2) ((snd es).B g c.2) c.1.1
      S := fun {_ _ _ _ _ xs} g c => by
        cases xs with
        | nil => cases c
        | cons x xs =>
          rw [chkS] at c
          simp only [Bool.and_eq_true, Bool.not_eq_true'] at c
          exact d_cons ((snd e).E g c.1.2) ((snd es).S g c.2) c.1.1
      K := fun {_ _ _ _ _ xs} g c => by
        cases xs with
        | nil => cases c
        | cons x xs =>
          obtain ⟨nm, x, p⟩ := x
          cases nm with
          | none => cases c
          | some nm =>
            rw [chkK] at c
            simp only [Bool.and_eq_true] at c
            exact k_cons ((snd e).E g c.1) ((snd es).K g c.2)
      I := fun g c => by rw [chkI_no rfl] at c; cases c }
  | .star e es => {
      E := fun g c => by unfold chkE at c; cases c
      T := fun g c => by unfold chkE at c; cases c
      A := fun {_ _ _ _ _ xs} g c => by cases xs <;> cases c
      B := fun {_ _ _ _ _ xs} g c => by cases xs <;> cases c
      S := fun {_ _ _ _ _ xs} g c => by
        unfold chkS at c
        split at c <;> try (first | contradiction | cases c)
        rename_i heq
        cases heq
        simp only [Bool.and_eq_true] at c
        exact d_star ((snd e).E g c.1) ((snd es).S g c.2)
      K := fun {_ _ _ _ _ xs} g c => by cases xs <;> cases c
      I := fun g c => by rw [chkI_no rfl] at c; cases c }
  | .idx a i => .valP rfl rfl fun g c => by
      unfold chkE at c
      split at c
      · simp only [Bool.and_eq_true, Bool.not_eq_true'] at c
        exact ⟨s_idx ((snd a).E g c.1.2) ((snd i).E g c.2) c.1.1, rfl⟩
      · cases c
  | .slc a lo hi => .valP rfl rfl fun g c => by
      unfold chkE at c
      split at c
      · rename_i x l h p1 p2
        simp only [Bool.and_eq_true] at c
        obtain ⟨⟨c1, c2⟩, c3⟩ := c
        refine ⟨s_slc ((snd a).E g c1) ?_ ?_, rfl⟩
        · cases l with
          | none => exact po_nil c2
          | some l =>
            simp only [Bool.and_eq_true, Bool.not_eq_true'] at c2
            exact po_val c2.1 ((snd lo).E g c2.2)
        · cases h with
          | none => exact po_nil c3
          | some l =>
            simp only [Bool.and_eq_true, Bool.not_eq_true'] at c3
            exact po_val c3.1 ((snd hi).E g c3.2)
      · cases c
  | .comp own t it c e => .valP rfl rfl fun g h => by
      unfold chkE at h
      split at h
      · rename_i elt tg iter ifs a scope pos
        simp only [Bool.and_eq_true, beq_iff_eq, Bool.not_eq_true'] at h
        obtain ⟨⟨⟨⟨⟨⟨⟨rfl, c1⟩, c2⟩, c3⟩, c4⟩, c5⟩, c6⟩, c7⟩ := h
        refine ⟨?_, rfl⟩
        have ho : ∀ i ∈ tSlots t, i ∈ own := fun i hi => by
          have := List.all_eq_true.mp c7 i hi
          simpa using this
        cases ifs with
        | nil =>
          refine s_comp (no := true) g ((snd it).I g c2) c3 c1 c4 (fun _ => ?_) ho (fun X' g' => rfl) fun X' g' => (snd e).E g' c6
          unfold isYes
          exact c5
        | cons x xs =>
          cases xs with
          | nil => exact s_comp (no := false) g ((snd it).I g c2) c3 c1 c4 (fun h => nomatch h) ho (fun X' g' => ⟨x, rfl, (snd c).T g' c5⟩) fun X' g' => (snd e).E g' c6
          | cons y ys => cases c5
      · cases h
  | .comp2 .. => .valP rfl rfl fun g c => by
      unfold chkE at c
      cases c
  | .rng1 a => {
      E := fun g c => by unfold chkE at c; cases c
      T := fun g c => by unfold chkE at c; cases c
      A := fun g c => by rw [chkA_no rfl] at c; cases c
      B := fun g c => by rw [chkB_no rfl] at c; cases c
      S := fun g c => by rw [chkS_no rfl] at c; cases c
      K := fun g c => by rw [chkK_no rfl] at c; cases c
      I := fun g c => by
        unfold chkI at c
        split at c
        · simp only [Bool.and_eq_true, beq_iff_eq, Bool.not_eq_true'] at c
          obtain ⟨⟨⟨rfl, c1⟩, c2⟩, c3⟩ := c
          exact i_rng1 g c1 ((snd a).E g c3) c2
        · cases c }
  | .rng2 a b => {
      E := fun g c => by unfold chkE at c; cases c
      T := fun g c => by unfold chkE at c; cases c
      A := fun g c => by rw [chkA_no rfl] at c; cases c
      B := fun g c => by rw [chkB_no rfl] at c; cases c
      S := fun g c => by rw [chkS_no rfl] at c; cases c
      K := fun g c => by rw [chkK_no rfl] at c; cases c
      I := fun g c => by
        unfold chkI at c
        split at c
        · simp only [Bool.and_eq_true, beq_iff_eq, Bool.not_eq_true'] at c
          obtain ⟨⟨⟨⟨⟨rfl, c1⟩, c2⟩, c3⟩, c4⟩, c5⟩ := c
          exact i_rng2 g c1 ((snd a).E g c4) ((snd b).E g c5) c2 c3
        · cases c }
  | .enm a => {
      E := fun g c => by unfold chkE at c; cases c
      T := fun g c => by unfold chkE at c; cases c
      A := fun g c => by rw [chkA_no rfl] at c; cases c
      B := fun g c => by rw [chkB_no rfl] at c; cases c
      S := fun g c => by rw [chkS_no rfl] at c; cases c
      K := fun g c => by rw [chkK_no rfl] at c; cases c
      I := fun g c => by
        unfold chkI at c
        split at c
        · simp only [Bool.and_eq_true, beq_iff_eq, Bool.not_eq_true'] at c
          obtain ⟨⟨⟨⟨c0, rfl⟩, c1⟩, c2⟩, c3⟩ := c
          exact i_enm g c0 c1 ((snd a).E g c3) c2
        · cases c }
  | .zip a b => {
      E := fun g c => by unfold chkE at c; cases c
      T := fun g c => by unfold chkE at c; cases c
      A := fun g c => by rw [chkA_no rfl] at c; cases c
      B := fun g c => by rw [chkB_no rfl] at c; cases c
      S := fun g c => by rw [chkS_no rfl] at c; cases c
      K := fun g c => by rw [chkK_no rfl] at c; cases c
      I := fun g c => by
        unfold chkI at c
        split at c
        · simp only [Bool.and_eq_true, beq_iff_eq, Bool.not_eq_true'] at c
          obtain ⟨⟨⟨⟨⟨⟨c0, rfl⟩, c1⟩, c2⟩, c3⟩, c4⟩, c5⟩ := c
          exact i_zip g c0 c1 ((snd a).E g c4) ((snd b).E g c5) c2 c3
        · cases c }
  | .seq a => {
      E := fun g c => by unfold chkE at c; cases c
      T := fun g c => by unfold chkE at c; cases c
      A := fun g c => by rw [chkA_no rfl] at c; cases c
      B := fun g c => by rw [chkB_no rfl] at c; cases c
      S := fun g c => by rw [chkS_no rfl] at c; cases c
      K := fun g c => by rw [chkK_no rfl] at c; cases c
      I := fun g c => by
        unfold chkI at c
        exact i_seq ((snd a).E g c) }
  | .lrng1 a => .valP rfl rfl fun g c => by
      unfold chkE at c
      split at c
      · simp only [Bool.and_eq_true, beq_iff_eq, Bool.not_eq_true'] at c
        obtain ⟨⟨⟨⟨⟨rfl, rfl⟩, c1⟩, c2⟩, c3⟩, c4⟩ := c
        exact ⟨s_lrng1 g c1 c2 ((snd a).E g c4) c3, rfl⟩
      · cases c
  | .lrng2 a b => .valP rfl rfl fun g c => by
      unfold chkE at c
      split at c
      · simp only [Bool.and_eq_true, beq_iff_eq, Bool.not_eq_true'] at c
        obtain ⟨⟨⟨⟨⟨⟨⟨rfl, rfl⟩, c1⟩, c2⟩, c3⟩, c4⟩, c5⟩, c6⟩ := c
        exact ⟨s_lrng2 g c1 c2 ((snd a).E g c5) ((snd b).E g c6) c3 c4, rfl⟩
      · cases c
  | .rev a => .valP rfl rfl fun g c => by
      unfold chkE at c
      split at c
      · exact ⟨s_rev ((snd a).E g c), rfl⟩
      · cases c
  | .callL fs i es => .valP rfl rfl fun g c => by
      unfold chkE at c
      split at c
      · simp only [Bool.and_eq_true, Bool.not_eq_true', decide_eq_true_eq] at c
        obtain ⟨⟨⟨⟨c1, c2⟩, c3⟩, c4⟩, c5⟩ := c
        exact ⟨s_callL g c1 c2 c3 ((snd i).E g c4) ((snd es).A g c5) (nostar c5), rfl⟩
      · cases c
end
end Gb

/-! Statements. -/
namespace Gb
open PySem PySem.Spec PyProof.Rows L2 StX

/-- where a body stands: F0 φ0 H0 at the def's entry; L: what is frozen for the loops around -/
structure St0 (K : PySem.W.Frag) (F0 : Hp) (φ0 : List Addr) (H0 : Hp) (L : Hp) (F : Hp) (φ : List Addr) (ρ : Env) (st : Store) (σ : L2.St) (H : Hp) : Prop where
  step : Step F0 φ0 H0 F φ H
  base : Base K F φ st H
  env : EnvOk K F φ ρ σ H
  own : ∀ (i : Nat) (xs : List D) (a : Addr), ρ[i]? = some (some (.mls xs)) → σ[i]? = some (some (.ref a)) → H0 a = none
  low : ∀ a o, L a = some o → F a = some o

def isM : D → Bool
  | .mls _ => true
  | .fls _ => true
  | _ => false
def PostS (K : PySem.W.Frag) (Y : ExT) (W : XK) (F0 : Hp) (φ0 : List Addr) (H0 : Hp) (L : Hp) (o : SO) (D : Ends) : Prop :=
  match o with
  | .nx ρ st => ∀ F φ σ H, St0 K F0 φ0 H0 L F φ ρ st σ H → D.nx σ H
  | .bk ρ st => ∀ F φ σ H, St0 K F0 φ0 H0 L F φ ρ st σ H → D.bk σ H
  | .rt d st => ∀ F φ H v, Step F0 φ0 H0 F φ H → Base K F φ st H → RepX K F φ H d v → (isM d = true → ∀ a, v = .ref a → H0 a = none) → D.rt v H
  | .ex x st => ∀ F φ H cls d, Step F0 φ0 H0 F φ H → Base K F φ st H → RepEx K Y F H x cls d → W cls d H
  | .bad => False
def tS (K : PySem.W.Frag) (Y : ExT) (call : CallF) (n : Nat) (s : S) (W : XK) (F0 : Hp) (φ0 : List Addr) (H0 : Hp) (L : Hp) : TS := fun D σ H =>
  ∃ F φ ρ st, St0 K F0 φ0 H0 L F φ ρ st σ H ∧ PostS K Y W F0 φ0 H0 L (exS call n s ρ st) D

section
variable {K : PySem.W.Frag} {Y : ExT} {W : XK} {F0 : Hp} {φ0 : List Addr} {H0 L L' F F1 F' : Hp} {φ φ1 φ' : List Addr} {H H1 H' : Hp} {ρ ρ' : Env} {σ : L2.St} {st st1 st' : Store} {d : D} {v : V} {α : Type} {D' : Ends}
theorem St0.weak (s : St0 K F0 φ0 H0 L' F φ ρ st σ H) (h : ∀ a o, L a = some o → L' a = some o) : St0 K F0 φ0 H0 L F φ ρ st σ H :=
  ⟨s.step, s.base, s.env, s.own, fun a o e => s.low a o (h a o e)⟩
theorem St0.go (s : St0 K F0 φ0 H0 L F φ ρ st σ H) (S : Step F φ H F' φ' H') (B : Base K F' φ' st' H') : St0 K F0 φ0 H0 L F' φ' ρ st' σ H' :=
  ⟨s.step.trans S, B, s.env.step S, s.own, fun a o e => S.ff a o (s.low a o e)⟩
/-- a value has come, then .. -/
theorem so_post {o : Out α} {f : α → Store → SO} (S : Step F0 φ0 H0 F φ H) (p : PostS K Y W F0 φ0 H0 L (o.so f) D') : Post K Y W F φ H o (fun a st _ _ _ => PostS K Y W F0 φ0 H0 L (f a st) D') := by
  cases o with
  | ok a st => exact fun _ _ _ _ _ => p
  | ex x st => exact fun F' φ' H' cls d s b => p F' φ' H' cls d (S.trans s) b
  | bad => exact p
theorem soE_some {o : Option Env} (p : PostS K Y W F0 φ0 H0 L (soE o st) D') : ∃ ρ', o = some ρ' ∧ PostS K Y W F0 φ0 H0 L (.nx ρ' st) D' := by
  cases o with
  | none => exact p.elim
  | some ρ => exact ⟨ρ, rfl, p⟩
theorem put1_of {i : Nat} {m : Bool} (s : St0 K F0 φ0 H0 L F φ ρ st σ H) (r : RepX K F φ H d v) (nm : ∀ xs, d ≠ .mls xs)
    (hf : ∀ xs, d = .fls xs → ∀ a, v = .ref a → H0 a = none ∧ ∀ (j : Nat) (ys : List D), ρ[j]? = some (some (.mls ys)) → σ[j]? ≠ some (some (.ref a))) (h : put1 i m d ρ = some ρ') :
    ∃ F', St0 K F0 φ0 H0 L F' φ ρ' st (σ.set i (some v)) H ∧ (∀ a o, F a = some o → F' a = some o) ∧ ∀ a, (∀ xs, d = .fls xs → v ≠ .ref a) → F a = none → F' a = none := by
  have other : (∀ xs, d ≠ .fls xs) → ρ' = ρ.set i (some d) → ∃ F', St0 K F0 φ0 H0 L F' φ ρ' st (σ.set i (some v)) H ∧ (∀ a o, F a = some o → F' a = some o) ∧ ∀ a, (∀ xs, d = .fls xs → v ≠ .ref a) → F a = none → F' a = none := fun nf e => by
    subst e
    refine ⟨F, ⟨s.step, s.base, s.env.set i nf r fun xs e => absurd e (nm xs), fun j xs a h1 h2 => ?_, s.low⟩, fun _ _ e => e, fun _ _ e => e⟩
    by_cases hij : i = j
    · subst hij
      have hl : i < ρ.length := by
        have := (List.getElem?_eq_some_iff.mp h1).1
        rwa [List.length_set] at this
      rw [List.getElem?_set_self hl] at h1
      cases h1
      exact absurd rfl (nm xs)
    · rw [List.getElem?_set_ne hij] at h1 h2
      exact s.own j xs a h1 h2
  unfold put1 at h
  cases m with
  | true =>
    cases d with
    | fls xs =>
      cases h
      obtain ⟨a, vs, rfl, e2, e3, e4, e5⟩ := r
      obtain ⟨h1, h2⟩ := hf xs rfl a rfl
      refine ⟨F, ⟨s.step, s.base, s.env.set i (fun _ h => nomatch h) ⟨a, vs, rfl, e2, e3, e4, e5⟩ fun ys e j zs hj hz => h2 j zs hz, fun j ys b h3 h4 => ?_, s.low⟩, fun _ _ e => e, fun _ _ e => e⟩
      by_cases hij : i = j
      · subst hij
        have hl : i < ρ.length := by
          have := (List.getElem?_eq_some_iff.mp h3).1
          rwa [List.length_set] at this
        rw [List.getElem?_set_self (by rw [← s.env.len]; exact hl)] at h4
        cases h4
        exact h1
      · rw [List.getElem?_set_ne hij] at h3 h4
        exact s.own j ys b h3 h4
    | mls xs => cases h
    | _ => cases h; exact other (fun _ h => nomatch h) rfl
  | false =>
    cases d with
    | fls xs =>
      cases h
      obtain ⟨a, vs, rfl, e2, e3, e4, e5⟩ := r
      obtain ⟨h1, h2⟩ := hf xs rfl a rfl
      have hsub := sub_updF (o := HO.lst vs) e4
      -- what the names know stays
      have V2 : EnvOk K (upd F a (.lst vs)) φ ρ σ H := by
        refine ⟨s.env.len, fun j d hj => ?_, s.env.ne⟩
        obtain ⟨n, u, hu, ru⟩ := s.env.at_ j d hj
        refine ⟨n, u, hu, ?_⟩
        cases d with
        | mls ys =>
          obtain ⟨b, us, rfl, q2, q3, q4, q5⟩ := ru
          have hab : b ≠ a := by rintro rfl; exact h2 j ys hj hu
          exact ⟨b, us, rfl, q2, q3.mono hsub, by rw [upd_ne hab]; exact q4, q5⟩
        | fls ys => exact absurd rfl (n ys)
        | box m => exact ru
        | _ => exact Rep.mono hsub ru
      refine ⟨upd F a (.lst vs), ⟨s.step.frz e4 h1, s.base.frz e4 e2 e5, V2.rep i (.lst upd_same (e3.mono hsub)), fun j ys b h3 h4 => ?_, fun b o e => hsub b o (s.low b o e)⟩, hsub, fun b hb e => ?_⟩
      · by_cases hij : i = j
        · subst hij
          have hl : i < ρ.length := by
            have := (List.getElem?_eq_some_iff.mp h3).1
            rwa [List.length_set] at this
          rw [List.getElem?_set_self hl] at h3
          cases h3
        · rw [List.getElem?_set_ne hij] at h3 h4
          exact s.own j ys b h3 h4
      · rw [upd_ne (show b ≠ a by rintro rfl; exact hb xs rfl rfl)]
        exact e
    | mls xs => cases h
    | _ => cases h; exact other (fun _ h => nomatch h) rfl
/-- values that are stored together -/
def ParOk (K : PySem.W.Frag) (F : Hp) (φ : List Addr) (H : Hp) (bad : Addr → Prop) : List D → List V → Prop
  | [], [] => True
  | d :: ds, v :: vs => RepX K F φ H d v ∧ (∀ xs, d ≠ .mls xs) ∧ (∀ xs, d = .fls xs → ∀ a, v = .ref a → ¬ bad a) ∧ ParOk K F φ H (fun b => bad b ∨ ((∃ xs, d = .fls xs) ∧ v = .ref b)) ds vs
  | _, _ => False
theorem ParOk.mono {bad bad' : Addr → Prop} : ∀ {ds : List D} {vs : List V}, ParOk K F φ H bad ds vs → (∀ d v a xs, d ∈ ds → d = .fls xs → v ∈ vs → v = .ref a → bad' a → bad a) → ParOk K F φ H bad' ds vs
  | [], [], _, _ => trivial
  | [], _ :: _, h, _ => h.elim
  | _ :: _, [], h, _ => h.elim
  | d :: ds, v :: vs, ⟨h1, h2, h3, h4⟩, h => ⟨h1, h2, fun xs e a ev b => h3 xs e a ev (h d v a xs List.mem_cons_self e List.mem_cons_self ev b), h4.mono fun d' v' a xs m1 e m2 ev b => b.imp (h d' v' a xs (List.mem_cons_of_mem _ m1) e (List.mem_cons_of_mem _ m2) ev) id⟩
theorem ParOk.len {bad : Addr → Prop} : ∀ {ds : List D} {vs : List V}, ParOk K F φ H bad ds vs → ds.length = vs.length
  | [], [], _ => rfl
  | [], _ :: _, h => h.elim
  | _ :: _, [], h => h.elim
  | d :: ds, v :: vs, ⟨_, _, _, h4⟩ => congrArg (· + 1) h4.len
theorem ParOk.frz {bad : Addr → Prop} (hs : ∀ a o, F a = some o → F' a = some o) (hn : ∀ a, ¬ bad a → F a = none → F' a = none) : ∀ {ds : List D} {vs : List V}, ParOk K F φ H bad ds vs → ParOk K F' φ H bad ds vs
  | [], [], _ => trivial
  | [], _ :: _, h => h.elim
  | _ :: _, [], h => h.elim
  | d :: ds, v :: vs, ⟨h1, h2, h3, h4⟩ => by
    refine ⟨?_, h2, h3, h4.frz hs fun a b e => hn a (fun z => b (.inl z)) e⟩
    cases d with
    | mls xs => exact absurd rfl (h2 xs)
    | fls xs =>
      obtain ⟨a, us, rfl, q2, q3, q4, q5⟩ := h1
      exact ⟨a, us, rfl, q2, q3.mono hs, hn a (h3 xs rfl a rfl) q4, q5⟩
    | box m => exact h1
    | _ => exact Rep.mono hs h1
theorem ParOk.reps {bad : Addr → Prop} : ∀ {ds : List D} {vs : List V}, Reps K F ds vs → ParOk K F φ H bad ds vs
  | _, _, .nil => trivial
  | _, _, .cons r rs => by
    refine ⟨r.x, fun xs e => ?_, fun xs e => ?_, ParOk.reps rs⟩
    · subst e; cases r
    · subst e; cases r
theorem putN_of : ∀ {is : List (Nat × Bool)} {ds : List D} {vs : List V} {bad : Addr → Prop} {F : Hp} {ρ ρ' : Env} {σ : L2.St}, St0 K F0 φ0 H0 L F φ ρ st σ H → ParOk K F φ H bad ds vs → (∀ a, H0 a ≠ none → bad a) →
    (∀ (j : Nat) (ys : List D) (a : Addr), ρ[j]? = some (some (.mls ys)) → σ[j]? = some (some (.ref a)) → bad a) → putN is ds ρ = some ρ' →
    vs.length = is.length ∧ ∃ F', St0 K F0 φ0 H0 L F' φ ρ' st (setV is vs σ) H
  | [], [], [], bad, F, ρ, ρ', σ, s, _, _, _, h => by cases h; exact ⟨rfl, F, s⟩
  | [], [], _ :: _, bad, F, ρ, ρ', σ, s, h', _, _, _ => h'.elim
  | [], _ :: _, _, bad, F, ρ, ρ', σ, s, _, _, _, h => by cases h
  | (i, m) :: is, [], _, bad, F, ρ, ρ', σ, s, _, _, _, h => by cases h
  | (i, m) :: is, _ :: _, [], bad, F, ρ, ρ', σ, s, h', _, _, _ => h'.elim
  | (i, m) :: is, d :: ds, v :: vs, bad, F, ρ, ρ', σ, s, ⟨h1, h2, h3, h4⟩, hb, hm, h => by
    unfold putN at h
    obtain ⟨ρ1, e1, e2⟩ := Option.bind_eq_some_iff.mp h
    obtain ⟨F1, s1, hs, hn⟩ := put1_of s h1 h2 (fun xs e a ev => ⟨Classical.byContradiction fun z => h3 xs e a ev (hb a z), fun j ys hj hz => h3 xs e a ev (hm j ys a hj hz)⟩) e1
    have h5 := h4.frz (F' := F1) hs fun a z e => hn a (fun xs e1 e2 => z (.inr ⟨⟨xs, e1⟩, e2⟩)) e
    have hm2 : ∀ (j : Nat) (ys : List D) (a : Addr), ρ1[j]? = some (some (.mls ys)) → (σ.set i (some v))[j]? = some (some (.ref a)) → bad a ∨ ((∃ xs, d = .fls xs) ∧ v = .ref a) := by
      intro j ys a hj hz
      by_cases hij : i = j
      · subst hij
        unfold put1 at e1
        have hl : ∀ x : Option D, (ρ.set i x)[i]? = some (some (.mls ys)) → x = some (.mls ys) := fun x hx => by
          by_cases hl : i < ρ.length
          · rw [List.getElem?_set_self hl] at hx
            exact Option.some.inj hx
          · rw [List.getElem?_eq_none (by rw [List.length_set]; omega)] at hx; cases hx
        have hl2 : i < ρ.length := by
          have := (List.getElem?_eq_some_iff.mp hj).1
          have e : ρ1.length = ρ.length := by
            cases m <;> cases d <;> first | (cases e1; rw [List.length_set]; done) | cases e1
          rwa [e] at this
        rw [List.getElem?_set_self (by rw [← s.env.len]; exact hl2)] at hz
        cases hz
        cases m with
        | true =>
          cases d with
          | fls xs => exact .inr ⟨⟨xs, rfl⟩, rfl⟩
          | mls xs => cases e1
          | _ => cases e1; cases hl _ hj
        | false =>
          cases d with
          | mls xs => cases e1
          | _ => cases e1; cases hl _ hj
      · have e : ρ1[j]? = ρ[j]? := by
          unfold put1 at e1
          cases m <;> cases d <;> first | (cases e1; rw [List.getElem?_set_ne hij]; done) | cases e1
        rw [e] at hj
        rw [List.getElem?_set_ne hij] at hz
        exact .inl (hm j ys a hj hz)
    obtain ⟨h6, F2, s2⟩ := putN_of s1 h5 (fun a z => .inl (hb a z)) hm2 e2
    exact ⟨by rw [List.length_cons, List.length_cons, h6], F2, s2⟩
end
end Gb

/-! Statements: stores of several names. -/
namespace Gb
open PySem PySem.Spec PyProof.Rows L2 StX

theorem starAny : ∀ {xs : List Expr}, (∀ e ∈ xs, isStarE e = false) → xs.any isStarE = false
  | [], _ => rfl
  | x :: xs, h => by
    rw [List.any_cons, starAny fun e he => h e (List.mem_cons_of_mem _ he), h x List.mem_cons_self]
    rfl
theorem parSw_ok {env : PySem.Env} {ts vs : List Expr} {kt k2 : Nat} {pt pt2 : Pos} {r : Option (List Str)} (hk : env.scope.kind = .function) (hs : ∀ e ∈ vs, isStarE e = false) (h : parSw env.scope ts vs = some r) :
    swappedStores [.Tuple ts kt pt] (.Tuple vs k2 pt2) env = pure r := by
  have hb : env.blockKind = .function := by unfold Env.blockKind; rw [hk]; rfl
  unfold parSw at h
  unfold swappedStores
  dsimp only
  rw [hb, show (ScopeKind.function != ScopeKind.function) = false from rfl, Bool.or_false]
  change (if (!(ts.length == 2 || ts.length == 3) || vs.length != ts.length) = true then pure none else if (vs.any isStarE) = true then pure none
    else if ((parNames env.scope ts).length != ts.length || (parNames env.scope ts).eraseDups.length != (parNames env.scope ts).length) = true then pure none
    else if vs.all (foldedForSure 8) = true then pure none
    else if vs.all (constantsAlone 8) = true then _ else pure (some (parNames env.scope ts))) = pure r
  rw [starAny hs]
  split at h
  · rename_i c
    rw [if_pos c]
    cases h
    rfl
  · rename_i c
    rw [if_neg c, if_neg (by decide)]
    split at h
    · rename_i c
      rw [if_pos c]
      cases h
      rfl
    · rename_i c
      rw [if_neg c]
      split at h
      · rename_i c
        rw [if_pos c]
        cases h
        rfl
      · rename_i c
        rw [if_neg c]
        split at h
        · cases h
        · rename_i c
          rw [if_neg c]
          cases h
          rfl

section
variable {Y : ExT} {call : CallF} {G : Glob} {k : Nat} {W : XK} {sc raw : Scope} {N : List Str} {X : L2.Cx} {n : Nat}
structure GoodS (Y : ExT) (call : CallF) (G : Glob) (k : Nat) (W : XK) (sc : Scope) (N : List Str) (X : L2.Cx) : Prop extends Good Y call G k W sc sc N X where
  kind : sc.kind = .function
  po : PassesOwn (model X.prog X.w) X.A X.env X.xe
  tk : Takes X (fun cls d _ H => W cls d H)
  stk : X.stack = X.env :: X.outer
  frm : X.env.frame = some X.env.locals

/-! ### a, b, .. = x, y, .. -/
def tParN (is : List (Nat × Bool)) (ta : TA) : TS := fun D σ H => ta σ H fun vs H1 => vs.length = is.length ∧ D.nx (setV is vs σ) H1
theorem ps_parT {is : List (Nat × Bool)} {tgs xs : List Expr} {ta : TA} {kt k2 : Nat} {pt pt2 pos : Pos} (g : Good Y call G k W sc raw N X) (ht : tgsB N sc raw is tgs = true) (hl : tgs.length < 100) (ha : PA X xs ta)
    (hw : swappedStores [.Tuple tgs kt pt] (.Tuple xs k2 pt2) X.env = pure none) : PS X (.Assign [.Tuple tgs kt pt] (.Tuple xs k2 pt2) pos) (tParN is ta) := by
  refine ⟨fun pins s σ H D I h => ?_⟩
  obtain ⟨i1, i2, i3⟩ := pgs_names g ht
  have hlen : is.length = tgs.length := by
    have e : (assignEach tgs X.env).length = tgs.length := by
      have : ∀ l : List Expr, (assignEach l X.env).length = l.length := by
        intro l
        induction l with
        | nil => rfl
        | cons x l ih => cases x <;> exact congrArg (· + 1) ih
      exact this tgs
    rw [← i2, e]
  refine wpAny_Assign_stores (Tuple_ (thn (ha.run _ pins s σ H _ I h) fun us s1 ⟨vs, H1, I1, r1, q1, q2⟩ => ?_)) rfl hw
  have hul : us.length = is.length := by rw [← r1.length]; exact q1
  refine wpAny_newObj_type ?_ (by show us.toArray.size ≤ sizeLine; rw [List.size_toArray, hul, hlen]; exact Nat.le_trans (Nat.le_of_lt hl) (by decide))
  have I2 : Inv X pins σ H1 { s1 with heap := s1.heap.push { cls := .type "tuple", data := .seq us.toArray } } := I1.kept (t' := s1.toks) fun b o e => Heap.get?_push_of_some _ e
  show wpAny _ _ (assign (.Tuple tgs kt pt) X.env (.ref s1.heap.objs.size)) _ _ _
  refine assign_Tuple_tuple (I.ok.hd g.calm) (IsTup.new s1.heap us.toArray) (by rw [i2, List.size_toArray, hul]) i3 fun h' hx => ?_
  have I3 := I2.kept (h' := h') (t' := s1.toks) fun b o e => hx b o (Nat.ne_of_lt (Heap.lt_size e)) e
  exact thn (i1.run pins _ σ H1 vs us _ I3 (by simpa using r1) ⟨q1, q2⟩) fun _ _ q => q
theorem isLcl_of {t : Expr} (h : isLcl sc t = true) : ∃ x p, t = .Name x p ∧ lclB sc x = true := by
  unfold isLcl at h
  split at h
  · exact ⟨_, _, rfl, h⟩
  · cases h
theorem nodup_of : ∀ {l : List Str}, nodupB l = true → l.Nodup
  | [], _ => .nil
  | x :: xs, h => by
    unfold nodupB at h
    simp only [Bool.and_eq_true, Bool.not_eq_true'] at h
    refine List.nodup_cons.mpr ⟨fun z => ?_, nodup_of h.2⟩
    have h1 := h.1
    rw [List.contains_iff_mem.mpr z] at h1
    cases h1
theorem len2 {α : Type} {l : List α} (h : l.length = 2) : ∃ a b, l = [a, b] := by
  match l, h with
  | [a, b], _ => exact ⟨a, b, rfl⟩
theorem len3 {α : Type} {l : List α} (h : l.length = 3) : ∃ a b c, l = [a, b, c] := by
  match l, h with
  | [a, b, c], _ => exact ⟨a, b, c, rfl⟩
theorem tgs_len : ∀ {is : List (Nat × Bool)} {tgs : List Expr}, tgsB N sc raw is tgs = true → is.length = tgs.length
  | [], [], _ => rfl
  | [], e :: es, h => by cases e <;> cases h
  | (i, m) :: is, [], h => by cases h
  | (i, m) :: is, e :: es, h => by
    cases e with
    | Name x p =>
      simp only [tgsB, Bool.and_eq_true] at h
      exact congrArg (· + 1) (tgs_len h.2)
    | _ => cases h
theorem ps_parS {is : List (Nat × Bool)} {tgs xs : List Expr} {ta : TA} {kt k2 : Nat} {pt pt2 pos : Pos} (g : Good Y call G k W sc raw N X) (ht : tgsB N sc raw is tgs = true) (ha : PA X xs ta) (hxl : tgs.length = xs.length)
    (hw : swappedStores [.Tuple tgs kt pt] (.Tuple xs k2 pt2) X.env = pure (some (tgs.map nameOf))) (hnd : (tgs.map nameOf).Nodup) (hall : tgs.all (isLcl sc) = true) (h23 : tgs.length = 2 ∨ tgs.length = 3)
    (hm : ∀ σ H Q Q', (∀ vs H, Q vs H → Q' vs H) → ta σ H Q → ta σ H Q') :
    PS X (.Assign [.Tuple tgs kt pt] (.Tuple xs k2 pt2) pos) (tParN is ta) := by
  have hN : X.N.Nodup := by rw [g.names]; exact g.nd
  have lcl : ∀ {x}, lclB sc x = true → X.env.scope.names.lookup x = some .local := fun {x} h => by rw [g.scope]; exact lcl_of h
  have sl : ∀ {i : Nat} {x : Str}, stoB sc raw N i x = true → X.N[i]? = some x := fun h => (sto_of g h).1
  have ne : ∀ {i j : Nat} {x y : Str}, X.N[i]? = some x → X.N[j]? = some y → x ≠ y → i ≠ j := fun h1 h2 h3 e => by subst e; rw [h1] at h2; cases h2; exact h3 rfl
  have hil := tgs_len ht
  rcases h23 with h2 | h2
  · obtain ⟨t1, t2, rfl⟩ := len2 h2
    obtain ⟨a, b, rfl⟩ := len2 (hxl ▸ h2)
    obtain ⟨⟨i, m1⟩, ⟨j, m2⟩, rfl⟩ := len2 (hil.trans h2)
    simp only [List.all_cons, List.all_nil, Bool.and_eq_true] at hall
    obtain ⟨x, px, rfl, hx⟩ := isLcl_of hall.1
    obtain ⟨y, py, rfl, hy⟩ := isLcl_of hall.2.1
    simp only [tgsB, Bool.and_eq_true] at ht
    have hxy : x ≠ y := by
      have := (List.nodup_cons.mp hnd).1
      exact fun e => this (by subst e; exact List.mem_cons_self)
    refine PS.imp (ps_par g.calm hN (sl ht.1) (sl ht.2.1) (ne (sl ht.1) (sl ht.2.1) hxy) (lcl hx) (lcl hy) ha hw) fun D σ H h => hm σ H _ _ (fun vs H1 ⟨q1, q2⟩ => ?_) h
    obtain ⟨v, w, rfl⟩ := len2 q1
    exact ⟨v, w, rfl, q2⟩
  · obtain ⟨t1, t2, t3, rfl⟩ := len3 h2
    obtain ⟨a, b, c, rfl⟩ := len3 (hxl ▸ h2)
    obtain ⟨⟨i, m1⟩, ⟨j, m2⟩, ⟨l, m3⟩, rfl⟩ := len3 (hil.trans h2)
    simp only [List.all_cons, List.all_nil, Bool.and_eq_true] at hall
    obtain ⟨x, px, rfl, hx⟩ := isLcl_of hall.1
    obtain ⟨y, py, rfl, hy⟩ := isLcl_of hall.2.1
    obtain ⟨z, pz, rfl, hz⟩ := isLcl_of hall.2.2.1
    simp only [tgsB, Bool.and_eq_true] at ht
    have n1 := (List.nodup_cons.mp hnd).1
    have n2 := (List.nodup_cons.mp (List.nodup_cons.mp hnd).2).1
    have hxy : x ≠ y := fun e => n1 (by subst e; exact List.mem_cons_self)
    have hxz : x ≠ z := fun e => n1 (by subst e; exact List.mem_cons_of_mem _ List.mem_cons_self)
    have hyz : y ≠ z := fun e => n2 (by subst e; exact List.mem_cons_self)
    refine PS.imp (ps_par3 g.calm hN (sl ht.1) (sl ht.2.1) (sl ht.2.2.1) (ne (sl ht.1) (sl ht.2.1) hxy) (ne (sl ht.1) (sl ht.2.2.1) hxz) (ne (sl ht.2.1) (sl ht.2.2.1) hyz) (lcl hx) (lcl hy) (lcl hz) ha hw) fun D σ H h => hm σ H _ _ (fun vs H1 ⟨q1, q2⟩ => ?_) h
    obtain ⟨u, v, w, rfl⟩ := len3 q1
    exact ⟨u, v, w, rfl, q2⟩
/-- the values of a written tuple that is taken apart at once -/
def tPs (K : PySem.W.Frag) (Y : ExT) (call : CallF) (c : E) (W : XK) : TA := fun σ H Q => ∃ F φ ρ st, Base K F φ st H ∧ EnvOk K F φ ρ σ H ∧ Post K Y W F φ H (evsP call c ρ st) (fun ds _ F' φ' H' => ∀ vs, ParOk K F' φ' H' (fun a => H a ≠ none) ds vs → Q vs H')
theorem tPs_mono {K : PySem.W.Frag} {c : E} (σ : L2.St) (H : Hp) (Q Q' : List V → Hp → Prop) (h : ∀ vs H, Q vs H → Q' vs H) (t : tPs K Y call c W σ H Q) : tPs K Y call c W σ H Q' := by
  obtain ⟨F, φ, ρ, st, B, V, p⟩ := t
  exact ⟨F, φ, ρ, st, B, V, p.mono fun ds st1 F1 φ1 H1 S1 B1 q vs pv => h _ _ (q vs pv)⟩
theorem p_nil : PA X [] (tPs X.K Y call .nil W) := PA.imp pa_nil fun σ H Q ⟨F, φ, ρ, st, B, V, p⟩ => by
  rw [evsP] at p
  exact p.now B [] trivial
theorem p_cons {a r : E} {x : Expr} {xs : List Expr} (ha : PE X x (tD X.K Y call a W)) (hr : PA X xs (tPs X.K Y call r W)) (hs : isStarE x = false) : PA X (x :: xs) (tPs X.K Y call (.cons a r) W) := by
  refine PA.imp (pa_cons ha hr (star_ne hs)) fun σ H Q ⟨F, φ, ρ, st, B, V, p⟩ => ?_
  rw [evsP] at p
  refine one_of B V p fun d st1 F1 φ1 H1 v S1 B1 V1 rv fv p1 => ?_
  have go : (∀ xs, d ≠ .mls xs) → Post X.K Y W F1 φ1 H1 ((evsP call r ρ st1).bind fun ds st => .ok (d :: ds) st) (fun ds _ F' φ' H' => ∀ vs, ParOk X.K F' φ' H' (fun a => H a ≠ none) ds vs → Q vs H') →
      tPs X.K Y call r W σ H1 (fun vs H2 => Q (v :: vs) H2) := fun nm p2 => ⟨F1, φ1, ρ, st1, B1, V1, p2.bind.mono fun ds st3 F3 φ3 H3 S3 B3 q vs pv => q.now B3 (v :: vs) ⟨rv.step S3, nm, fun xs e a ev => ?_, pv.mono fun d' v' a xs _ _ _ ev h => ?_⟩⟩
  · cases d with
    | mls xs => exact p1.elim
    | _ => exact go (fun _ h => nomatch h) p1
  · subst e
    subst ev
    intro z
    exact z (fv a rfl)
  · rcases h with h | ⟨⟨ys, e⟩, e2⟩
    · exact S1.dom a h
    · subst e
      subst e2
      obtain ⟨b, us, e3, e4, _⟩ := rv
      cases e3
      rw [e4]
      simp
theorem snd_P : ∀ {es : E} {xs : List Expr}, Good Y call G k W sc raw N X → chkA G N sc raw es xs = true → PA X xs (tPs X.K Y call es W)
  | .nil, [], g, _ => p_nil
  | .nil, _ :: _, g, h => by cases h
  | .cons e es, [], g, h => by cases h
  | .cons e es, x :: xs, g, h => by
    rw [chkA] at h
    simp only [Bool.and_eq_true, Bool.not_eq_true'] at h
    exact p_cons ((snd e).E g h.1.2) (snd_P g h.2) h.1.1
  | .star _ _, xs, g, h => by cases xs <;> cases h
  | .var _, xs, g, h => by cases xs <;> cases h
  | .con _, xs, g, h => by cases xs <;> cases h
  | .glob .., xs, g, h => by cases xs <;> cases h
  | .bin .., xs, g, h => by cases xs <;> cases h
  | .neg _, xs, g, h => by cases xs <;> cases h
  | .not _, xs, g, h => by cases xs <;> cases h
  | .and .., xs, g, h => by cases xs <;> cases h
  | .or .., xs, g, h => by cases xs <;> cases h
  | .cmp .., xs, g, h => by cases xs <;> cases h
  | .chain .., xs, g, h => by cases xs <;> cases h
  | .ite .., xs, g, h => by cases xs <;> cases h
  | .call .., xs, g, h => by cases xs <;> cases h
  | .callK .., xs, g, h => by cases xs <;> cases h
  | .bi .., xs, g, h => by cases xs <;> cases h
  | .isi .., xs, g, h => by cases xs <;> cases h
  | .tup _, xs, g, h => by cases xs <;> cases h
  | .lst _, xs, g, h => by cases xs <;> cases h
  | .idx .., xs, g, h => by cases xs <;> cases h
  | .slc .., xs, g, h => by cases xs <;> cases h
  | .comp .., xs, g, h => by cases xs <;> cases h
  | .comp2 .., xs, g, h => by cases xs <;> cases h
  | .rng1 _, xs, g, h => by cases xs <;> cases h
  | .rng2 .., xs, g, h => by cases xs <;> cases h
  | .enm _, xs, g, h => by cases xs <;> cases h
  | .zip .., xs, g, h => by cases xs <;> cases h
  | .seq _, xs, g, h => by cases xs <;> cases h
  | .lrng1 _, xs, g, h => by cases xs <;> cases h
  | .lrng2 .., xs, g, h => by cases xs <;> cases h
  | .rev _, xs, g, h => by cases xs <;> cases h
  | .callL .., xs, g, h => by cases xs <;> cases h
theorem ps_parB {is : List (Nat × Bool)} {tgs xs : List Expr} {es : E} {kt k2 : Nat} {pt pt2 pos : Pos} (g : Good Y call G k W sc raw N X) (hk : sc.kind = .function) (ht : tgsB N sc raw is tgs = true) (ha : chkA G N sc raw es xs = true) (hxl : tgs.length = xs.length) (hp : parB sc tgs xs = true) :
    PS X (.Assign [.Tuple tgs kt pt] (.Tuple xs k2 pt2) pos) (tParN is (tPs X.K Y call es W)) := by
  unfold parB at hp
  simp only [Bool.and_eq_true, decide_eq_true_eq] at hp
  obtain ⟨h1, h2⟩ := hp
  have hk' : X.env.scope.kind = .function := by rw [g.scope]; exact hk
  cases e : parSw sc tgs xs with
  | none => rw [e] at h2; cases h2
  | some r =>
    rw [e] at h2
    have hw := parSw_ok (kt := kt) (k2 := k2) (pt := pt) (pt2 := pt2) hk' (nostar ha) (by rw [g.scope]; exact e)
    cases r with
    | none => exact ps_parT g ht h1 (snd_P g ha) hw
    | some names =>
      simp only [Bool.and_eq_true, beq_iff_eq, Bool.or_eq_true] at h2
      obtain ⟨⟨⟨h3, h4⟩, h5⟩, h6⟩ := h2
      subst h4
      exact ps_parS g ht (snd_P g ha) hxl hw (nodup_of h5) h3 h6 tPs_mono
end
end Gb

/-! Statements. -/
namespace Gb
open PySem PySem.Spec PyProof.Rows L2 StX

section
variable {K : PySem.W.Frag} {Y : ExT} {W : XK} {F0 : Hp} {φ0 : List Addr} {H0 L L' F F1 F' : Hp} {φ φ1 φ' : List Addr} {H H1 H' : Hp} {ρ ρ' : Env} {σ : L2.St} {st st1 st' : Store} {d : D} {v : V}
/-- a name's list is written -/
theorem St0.mut {i : Nat} {a : Addr} {xs xs' : List D} {vs vs' : List V} (s : St0 K F0 φ0 H0 L F φ ρ st σ H) (hi : ρ[i]? = some (some (.mls xs))) (hv : σ[i]? = some (some (.ref a))) (hH : H a = some (.lst vs)) (hF : F a = none) (hn : a ∉ φ) (r : Reps K F xs' vs') :
    St0 K F0 φ0 H0 L F φ (ρ.set i (some (.mls xs'))) st σ (upd H a (.lst vs')) := by
  refine ⟨s.step.write (s.own i xs a hi hv), s.base.write hF hn, ⟨by rw [List.length_set, s.env.len], fun j d h => ?_, fun j1 j2 ys zs b hj h1 h2 h3 h4 => ?_⟩, fun j ys b h1 h2 => ?_, s.low⟩
  · by_cases hij : i = j
    · subst hij
      have hl := (List.getElem?_eq_some_iff.mp hi).1
      rw [List.getElem?_set_self hl] at h
      cases h
      exact ⟨(fun _ h => nomatch h), .ref a, hv, ⟨a, vs', rfl, upd_same, r, hF, hn⟩⟩
    · rw [List.getElem?_set_ne hij] at h
      obtain ⟨n, u, hu, ru⟩ := s.env.at_ j d h
      refine ⟨n, u, hu, ?_⟩
      cases d with
      | mls ys =>
        obtain ⟨b, us, rfl, q2, q3, q4, q5⟩ := ru
        have hab : b ≠ a := by
          rintro rfl
          exact s.env.ne i j xs ys b hij hi h hv hu
        exact ⟨b, us, rfl, by rw [upd_ne hab]; exact q2, q3, q4, q5⟩
      | fls ys => exact absurd rfl (n ys)
      | box m => exact ru
      | _ => exact ru
  · have g : ∀ {j : Nat} {ys : List D}, (ρ.set i (some (.mls xs')))[j]? = some (some (.mls ys)) → ∃ ys', ρ[j]? = some (some (.mls ys')) := fun {j ys} h => by
      by_cases hij : i = j
      · subst hij; exact ⟨xs, hi⟩
      · rw [List.getElem?_set_ne hij] at h; exact ⟨_, h⟩
    obtain ⟨_, g1⟩ := g h1
    obtain ⟨_, g2⟩ := g h2
    exact s.env.ne j1 j2 _ _ b hj g1 g2 h3 h4
  · by_cases hij : i = j
    · subst hij; exact s.own i xs b hi h2
    · rw [List.getElem?_set_ne hij] at h1; exact s.own j ys b h1 h2
/-- a box is written -/
theorem St0.box {n : Nat} {a : Addr} {xs xs' : List D} {vs' : List V} (s : St0 K F0 φ0 H0 L F φ ρ st σ H) (hn : φ[n]? = some a) (hs : st[n]? = some xs) (r : Reps K F xs' vs') :
    St0 K F0 φ0 H0 L F φ ρ (st.set n xs') σ (upd H a (.lst vs')) := by
  have ha : a ∈ φ := List.mem_of_getElem? hn
  have hF := s.base.fr ha
  refine ⟨⟨fun x o e hx => ?_, fun x hx => ?_, s.step.ff, s.step.new, s.step.box⟩, ⟨fun x o e => ?_, by rw [List.length_set]; exact s.base.len, s.base.nd, fun m b ys h1 h2 => ?_⟩, ⟨s.env.len, fun j d h => ?_, s.env.ne⟩, s.own, s.low⟩
  · have hxa : x ≠ a := by
      rintro rfl
      obtain ⟨ψ, e1, e2⟩ := s.step.box
      rw [e1] at ha
      rcases List.mem_append.mp ha with z | z
      · exact hx z
      · rw [e2 x z] at e; cases e
    rw [upd_ne hxa]
    exact s.step.keep x o e hx
  · by_cases hxa : x = a
    · subst hxa; rw [upd_same]; simp
    · rw [upd_ne hxa]; exact s.step.dom x hx
  · rw [upd_ne (ne_of_none e hF)]; exact s.base.sub x o e
  · by_cases hmn : n = m
    · subst hmn
      have hl := (List.getElem?_eq_some_iff.mp hs).1
      rw [List.getElem?_set_self hl] at h2
      cases h2
      rw [hn] at h1
      cases h1
      exact ⟨vs', upd_same, r, hF⟩
    · rw [List.getElem?_set_ne hmn] at h2
      obtain ⟨us, e1, e2, e3⟩ := s.base.box m b ys h1 h2
      have hba : b ≠ a := by
        rintro rfl
        exact hmn ((List.getElem?_inj (List.getElem?_eq_some_iff.mp hn).1 s.base.nd).mp (hn.trans h1.symm))
      exact ⟨us, by rw [upd_ne hba]; exact e1, e2, e3⟩
  · obtain ⟨nf, u, hu, ru⟩ := s.env.at_ j d h
    refine ⟨nf, u, hu, ?_⟩
    cases d with
    | mls ys =>
      obtain ⟨b, us, rfl, q2, q3, q4, q5⟩ := ru
      have hba : b ≠ a := by rintro rfl; exact q5 ha
      exact ⟨b, us, rfl, by rw [upd_ne hba]; exact q2, q3, q4, q5⟩
    | fls ys => exact absurd rfl (nf ys)
    | box m => exact ru
    | _ => exact ru
/-- a name's list is changed no more -/
theorem St0.frz {i : Nat} {xs : List D} (s : St0 K F0 φ0 H0 L F φ ρ st σ H) (hi : ρ[i]? = some (some (.mls xs))) : ∃ F', St0 K F0 φ0 H0 L F' φ (ρ.set i (some (.lst xs))) st σ H := by
  obtain ⟨_, v, hv, a, vs, rfl, e2, e3, e4, e5⟩ := s.env.at_ i _ hi
  have hsub := sub_updF (o := HO.lst vs) e4
  have hl := (List.getElem?_eq_some_iff.mp hi).1
  refine ⟨upd F a (.lst vs), ⟨s.step.frz e4 (s.own i xs a hi hv), s.base.frz e4 e2 e5, ⟨by rw [List.length_set, s.env.len], fun j d h => ?_, fun j1 j2 ys zs b hj h1 h2 h3 h4 => ?_⟩, fun j ys b h1 h2 => ?_, fun b o e => hsub b o (s.low b o e)⟩⟩
  · by_cases hij : i = j
    · subst hij
      rw [List.getElem?_set_self hl] at h
      cases h
      exact ⟨(fun _ h => nomatch h), .ref a, hv, (Rep.lst upd_same (e3.mono hsub) : Rep K _ (.lst xs) (.ref a)).x⟩
    · rw [List.getElem?_set_ne hij] at h
      obtain ⟨n, u, hu, ru⟩ := s.env.at_ j d h
      refine ⟨n, u, hu, ?_⟩
      cases d with
      | mls ys =>
        obtain ⟨b, us, rfl, q2, q3, q4, q5⟩ := ru
        have hab : b ≠ a := by
          rintro rfl
          exact s.env.ne i j xs ys b hij hi h hv hu
        exact ⟨b, us, rfl, q2, q3.mono hsub, by rw [upd_ne hab]; exact q4, q5⟩
      | fls ys => exact absurd rfl (n ys)
      | box m => exact ru
      | _ => exact Rep.mono hsub ru
  · have g : ∀ {j : Nat} {ys : List D}, (ρ.set i (some (.lst xs)))[j]? = some (some (.mls ys)) → ρ[j]? = some (some (.mls ys)) := fun {j ys} h => by
      by_cases hij : i = j
      · subst hij
        rw [List.getElem?_set_self hl] at h
        cases h
      · rw [List.getElem?_set_ne hij] at h; exact h
    exact s.env.ne j1 j2 _ _ b hj (g h1) (g h2) h3 h4
  · by_cases hij : i = j
    · subst hij
      rw [List.getElem?_set_self hl] at h1
      cases h1
    · rw [List.getElem?_set_ne hij] at h1; exact s.own j ys b h1 h2
end

section
variable {Y : ExT} {call : CallF} {G : Glob} {k : Nat} {W : XK} {sc raw : Scope} {N : List Str} {X : L2.Cx} {n : Nat} {F0 : Hp} {φ0 : List Addr} {H0 L : Hp}

/-- the value of a statement's expression -/
theorem so_val {K : PySem.W.Frag} {F : Hp} {φ : List Addr} {ρ : Env} {st : Store} {σ : L2.St} {H : Hp} {c : E} {f : D → Store → SO} {D' : Ends} {Q : VK} (s : St0 K F0 φ0 H0 L F φ ρ st σ H) (p : PostS K Y W F0 φ0 H0 L ((evE call c ρ st).so f) D')
    (h : ∀ d st1 F1 φ1 H1 v, Step F φ H F1 φ1 H1 → St0 K F0 φ0 H0 L F1 φ1 ρ st1 σ H1 → RepX K F1 φ1 H1 d v → Fresh H d v → PostS K Y W F0 φ0 H0 L (f d st1) D' → Q v H1) : tD K Y call c W σ H Q :=
  ⟨F, φ, ρ, st, s.base, s.env, (so_post s.step p).mono fun d st1 F1 φ1 H1 S1 B1 p1 v rv fv => h d st1 F1 φ1 H1 v S1 (s.go S1 B1) rv fv p1⟩
theorem fls_of {K : PySem.W.Frag} {F F1 : Hp} {φ φ1 : List Addr} {ρ : Env} {st st1 : Store} {σ : L2.St} {H H1 : Hp} {d : D} {v : V} (s : St0 K F0 φ0 H0 L F φ ρ st σ H) (fv : Fresh H d v) :
    ∀ xs, d = .fls xs → ∀ a, v = .ref a → H0 a = none ∧ ∀ (j : Nat) (ys : List D), ρ[j]? = some (some (.mls ys)) → σ[j]? ≠ some (some (.ref a)) := fun xs e a ev => by
  subst e
  have hn := fv a ev
  refine ⟨s.step.unmade hn, fun j ys hj hz => ?_⟩
  obtain ⟨_, u, hu, b, us, e1, e2, _⟩ := s.env.at_ j _ hj
  rw [hz] at hu
  cases hu
  cases e1
  rw [hn] at e2
  cases e2
theorem r_asg {i : Nat} {m : Bool} {e : E} {D' : Ends} {σ : L2.St} {H : Hp} (h : tS X.K Y call n (.asg (.nm i m) e) W F0 φ0 H0 L D' σ H) : tAsg (tD X.K Y call e W) (gName i) D' σ H := by
  obtain ⟨F, φ, ρ, st, s, p⟩ := h
  rw [exS] at p
  refine so_val s p fun d st1 F1 φ1 H1 v S1 s1 rv fv p1 => ?_
  obtain ⟨ρ', e1, p2⟩ := soE_some p1
  have nm : ∀ xs, d ≠ .mls xs := fun xs z => by
    subst z
    cases m <;> cases e1
  obtain ⟨F2, s2, _⟩ := put1_of s1 rv nm (fls_of (F1 := F1) (φ1 := φ1) (st1 := st1) (H1 := H1) s fv) e1
  exact p2 _ _ _ _ s2
theorem r_asgT {is : List (Nat × Bool)} {e : E} {D' : Ends} {σ : L2.St} {H : Hp} (h : tS X.K Y call n (.asg (.tp is) e) W F0 φ0 H0 L D' σ H) : tAsg (tD X.K Y call e W) (gT X.K (.tp is)) D' σ H := by
  obtain ⟨F, φ, ρ, st, s, p⟩ := h
  rw [exS] at p
  refine so_val s p fun d st1 F1 φ1 H1 v S1 s1 rv fv p1 => ?_
  obtain ⟨ρ', e1, p2⟩ := soE_some p1
  have fin : ∀ {ds : List D} {vs : List V}, Reps X.K F1 ds vs → putN is ds ρ = some ρ' → vs.length = is.length ∧ D'.nx (setV is vs σ) H1 := fun {ds vs} rs e2 => by
    obtain ⟨h1, F2, s2⟩ := putN_of (bad := fun a => H1 a ≠ none) s1 (.reps rs) (fun a z => s1.step.dom a z) (fun j ys a hj hz => by
      obtain ⟨_, u, hu, b, us, e1, e2, _⟩ := s1.env.at_ j _ hj
      rw [hz] at hu
      cases hu
      cases e1
      rw [e2]
      simp) e2
    exact ⟨h1, p2 _ _ _ _ s2⟩
  cases d with
  | tup ds =>
    obtain ⟨a, vs, rfl, ea, rs⟩ := rv.tup
    obtain ⟨h1, h2⟩ := fin rs e1
    exact ⟨a, vs, rfl, .inl (sqt_of (s1.base.sub _ _ ea)), h1, h2⟩
  | lst ds =>
    cases (show Rep X.K F1 (.lst ds) v from rv) with
    | lst ea rs =>
      obtain ⟨h1, h2⟩ := fin rs e1
      exact ⟨_, _, rfl, .inr (sq_of (s1.base.sub _ _ ea)), h1, h2⟩
  | _ => cases e1
theorem r_par {is : List (Nat × Bool)} {es : E} {D' : Ends} {σ : L2.St} {H : Hp} (h : tS X.K Y call n (.par is es) W F0 φ0 H0 L D' σ H) : tParN is (tPs X.K Y call es W) D' σ H := by
  obtain ⟨F, φ, ρ, st, s, p⟩ := h
  rw [exS] at p
  refine ⟨F, φ, ρ, st, s.base, s.env, (so_post s.step p).mono fun ds st1 F1 φ1 H1 S1 B1 p1 vs pv => ?_⟩
  obtain ⟨ρ', e1, p2⟩ := soE_some p1
  obtain ⟨h1, F2, s2⟩ := putN_of (s.go S1 B1) pv (fun a z => s.step.dom a z) (fun j ys a hj hz => by
    obtain ⟨_, u, hu, b, us, e1, e2, _⟩ := s.env.at_ j _ hj
    rw [hz] at hu
    cases hu
    cases e1
    rw [e2]
    simp) e1
  exact ⟨h1, p2 _ _ _ _ s2⟩
theorem r_expr {e : E} {D' : Ends} {σ : L2.St} {H : Hp} (h : tS X.K Y call n (.expr e) W F0 φ0 H0 L D' σ H) : tDrop (tD X.K Y call e W) D' σ H := by
  obtain ⟨F, φ, ρ, st, s, p⟩ := h
  rw [exS] at p
  exact so_val s p fun d st1 F1 φ1 H1 v S1 s1 rv fv p1 => p1 _ _ _ _ s1
theorem r_ret {e : E} {D' : Ends} {σ : L2.St} {H : Hp} (h : tS X.K Y call n (.ret e) W F0 φ0 H0 L D' σ H) : tRet (tD X.K Y call e W) D' σ H := by
  obtain ⟨F, φ, ρ, st, s, p⟩ := h
  rw [exS] at p
  refine so_val s p fun d st1 F1 φ1 H1 v S1 s1 rv fv p1 => ?_
  have go : (∀ xs, d ≠ .mls xs) → PostS X.K Y W F0 φ0 H0 L (.rt d st1) D' → D'.rt v H1 := fun nm p2 => p2 F1 φ1 H1 v s1.step s1.base rv fun hm a ev => by
    cases d with
    | fls xs => exact s.step.unmade (fv a ev)
    | mls xs => exact absurd rfl (nm xs)
    | _ => cases hm
  cases d with
  | mls xs => exact p1.elim
  | _ => exact go (fun _ h => nomatch h) p1
theorem r_sub {i : Nat} {ix e : E} {D' : Ends} {σ : L2.St} {H : Hp} (h : tS X.K Y call n (.sub i ix e) W F0 φ0 H0 L D' σ H) : tAsg (tD X.K Y call e W) (gSub (tVar i) (tD X.K Y call ix W) rSetL) D' σ H := by
  obtain ⟨F, φ, ρ, st, s, p⟩ := h
  rw [exS] at p
  refine ⟨F, φ, ρ, st, s.base, s.env, (so_post s.step p).monoF fun d st1 F1 φ1 H1 S1 B1 p1 v rv fv => ?_⟩
  cases e1 : purD d with
  | none => have z := p1 F1 φ1 H1 S1 B1; rw [e1] at z; exact z.elim
  | some d' =>
    obtain ⟨F2, S2, B2, r2⟩ := pur_of e1 rv fv B1 S1
    have z := p1 F2 φ1 H1 S2 B2
    rw [e1] at z
    have s2 := s.go S2 B2
    dsimp only at z
    by_cases hs : isS ρ i = true
    · rw [if_pos hs] at z
      -- the object
      have hv : ∃ u, σ[i]? = some (some u) := by
        unfold isS at hs
        split at hs
        · rename_i e2
          obtain ⟨_, u, hu, _⟩ := s2.env.at_ i _ e2
          exact ⟨u, hu⟩
        · rename_i e2
          obtain ⟨_, u, hu, _⟩ := s2.env.at_ i _ e2
          exact ⟨u, hu⟩
        · cases hs
      obtain ⟨u, hu⟩ := hv
      refine ⟨u, hu, so_val s2 z fun kd st3 F3 φ3 H3 kv S3 s3 rk fk p3 => ?_⟩
      have r3 := r2.mono S3.ff
      unfold subM at p3
      split at p3
      · rename_i xs e2
        obtain ⟨_, u', hu', a, vs, rfl, q2, q3, q4, q5⟩ := s3.env.at_ i _ e2
        rw [hu] at hu'
        cases hu'
        split at p3
        · rename_i j e3
          unfold idxOf at e3
          split at e3
          · rename_i k
            refine ⟨a, vs, k, j, rfl, rk.int, q2, by rw [← q3.length]; exact e3, ?_⟩
            exact p3 _ _ _ _ (s3.mut e2 hu q2 q4 q5 (q3.set r3 j))
          · cases e3
        · exact p3.elim
      · rename_i m e2
        obtain ⟨_, u', hu', a, rfl, hm⟩ := s3.env.at_ i _ e2
        rw [hu] at hu'
        cases hu'
        split at p3
        · rename_i xs e4
          split at p3
          · rename_i j e3
            unfold idxOf at e3
            split at e3
            · rename_i k
              obtain ⟨vs, q2, q3, _⟩ := s3.base.box m a xs hm e4
              refine ⟨a, vs, k, j, rfl, rk.int, q2, by rw [← q3.length]; exact e3, ?_⟩
              exact p3 _ _ _ _ (s3.box hm e4 (q3.set r3 j))
            · cases e3
          · exact p3.elim
        · exact p3.elim
      · exact p3.elim
    · rw [if_neg hs] at z
      exact z.elim
theorem getM_of {ρ : Env} {i : Nat} {xs : List D} (h : getM ρ i = some xs) : ρ[i]? = some (some (.mls xs)) := by
  unfold getM at h
  split at h
  · rename_i e
    cases h
    exact e
  · cases h
theorem r_app {i : Nat} {e : E} {D' : Ends} {σ : L2.St} {H : Hp} (h : tS X.K Y call n (.app i e) W F0 φ0 H0 L D' σ H) : tDrop (tBM X.K "list" rAppend (tVar i) (tCons (tD X.K Y call e W) tNil)) D' σ H := by
  obtain ⟨F, φ, ρ, st, s, p⟩ := h
  rw [exS] at p
  cases eg : getM ρ i with
  | none => rw [eg] at p; exact p.elim
  | some xs =>
    rw [eg] at p
    have e2 := getM_of eg
    obtain ⟨_, u, hu, a, vs, rfl, q2, q3, q4, q5⟩ := s.env.at_ i _ e2
    refine ⟨.ref a, hu, .inl ⟨rfl, vs, sq_of q2⟩, F, φ, ρ, st, s.base, s.env, (so_post s.step p).monoF fun d st1 F1 φ1 H1 S1 B1 p1 v rv fv => ?_⟩
    cases e1 : purD d with
    | none => have z := p1 F1 φ1 H1 S1 B1; rw [e1] at z; exact z.elim
    | some d' =>
      obtain ⟨F2, S2, B2, r2⟩ := pur_of e1 rv fv B1 S1
      have z := p1 F2 φ1 H1 S2 B2
      rw [e1] at z
      have s2 := s.go S2 B2
      dsimp only at z
      split at z
      · rename_i hl
        obtain ⟨_, u', hu', a', vs', e3, t2, t3, t4, t5⟩ := s2.env.at_ i _ e2
        subst e3
        rw [hu] at hu'
        cases hu'
        exact ⟨a, vs', v, rfl, rfl, t2, by rw [← t3.length]; exact hl, z _ _ _ _ (s2.mut e2 hu t2 t4 t5 (t3.append (.cons r2 .nil)))⟩
      · exact z.elim
theorem r_ext {i : Nat} {e : E} {D' : Ends} {σ : L2.St} {H : Hp} (h : tS X.K Y call n (.ext i e) W F0 φ0 H0 L D' σ H) : tDrop (tBM X.K "list" rExtend (tVar i) (tCons (tD X.K Y call e W) tNil)) D' σ H := by
  obtain ⟨F, φ, ρ, st, s, p⟩ := h
  rw [exS] at p
  cases eg : getM ρ i with
  | none => rw [eg] at p; exact p.elim
  | some xs =>
    rw [eg] at p
    have e2 := getM_of eg
    obtain ⟨_, u, hu, a, vs, rfl, q2, q3, q4, q5⟩ := s.env.at_ i _ e2
    refine ⟨.ref a, hu, .inl ⟨rfl, vs, sq_of q2⟩, F, φ, ρ, st, s.base, s.env, (so_post s.step p).monoF fun d st1 F1 φ1 H1 S1 B1 p1 v rv fv => ?_⟩
    cases e1 : frzD d with
    | none => have z := p1 F1 φ1 H1 S1 B1; rw [e1] at z; exact z.elim
    | some d' =>
      obtain ⟨F2, S2, B2, r2, _⟩ := frz_of e1 rv fv B1 S1
      have z := p1 F2 φ1 H1 S2 B2
      rw [e1] at z
      have s2 := s.go S2 B2
      split at z
      · rename_i heq
        cases heq
        split at z
        · rename_i ds _ hl
          cases (show Rep X.K F2 (.lst ds) v from r2) with
          | lst ea rs =>
            obtain ⟨_, u', hu', a', vs', e3, t2, t3, t4, t5⟩ := s2.env.at_ i _ e2
            subst e3
            rw [hu] at hu'
            cases hu'
            exact ⟨a, _, vs', _, rfl, rfl, t2, B2.sub _ _ ea, by rw [← t3.length, ← rs.length]; exact hl, z _ _ _ _ (s2.mut e2 hu t2 t4 t5 (t3.append rs))⟩
        · exact z.elim
      · exact z.elim
theorem r_ite {c : E} {a b : S} {D' : Ends} {σ : L2.St} {H : Hp} (h : tS X.K Y call n (.ite c a b) W F0 φ0 H0 L D' σ H) : tIfS (tT X.K Y call c W) (tS X.K Y call n a W F0 φ0 H0 L) (tS X.K Y call n b W F0 φ0 H0 L) D' σ H := by
  obtain ⟨F, φ, ρ, st, s, p⟩ := h
  rw [exS] at p
  refine ⟨F, φ, ρ, st, s.base, s.env, ?_⟩
  cases he : evE call c ρ st with
  | bad => rw [he] at p; exact p.elim
  | ex x st1 => rw [he] at p; exact fun F' φ' H' cls d S B r => p F' φ' H' cls d (s.step.trans S) B r
  | ok d st1 =>
    rw [he] at p
    have p1 : PostS X.K Y W F0 φ0 H0 L (match truD d with | some true => exS call n a ρ st1 | some false => exS call n b ρ st1 | none => .bad) D' := p
    show Post X.K Y W F φ H (lift (truD d) st1) _
    cases ht : truD d with
    | none => rw [ht] at p1; exact p1.elim
    | some t =>
      rw [ht] at p1
      intro F1 φ1 H1 S1 B1
      cases t with
      | true => rw [if_pos rfl]; exact ⟨F1, φ1, ρ, st1, s.go S1 B1, p1⟩
      | false => rw [if_neg (by decide)]; exact ⟨F1, φ1, ρ, st1, s.go S1 B1, p1⟩
theorem r_whl {c : E} {b : S} {D' : Ends} {σ : L2.St} {H : Hp} (h : tS X.K Y call n (.whl c b) W F0 φ0 H0 L D' σ H) : tWhile (tT X.K Y call c W) (tS X.K Y call n b W F0 φ0 H0 L) D' σ H := by
  obtain ⟨F, φ, ρ, st, s, p⟩ := h
  rw [exS] at p
  let cf : Env → Store → Out Bool := fun ρ st => (evE call c ρ st).bind fun d st => lift (truD d) st
  let bf : Env → Store → SO := fun ρ st => exS call n b ρ st
  let Wf : Nat → L2.St → Hp → Prop := fun m σ H => ∃ F φ ρ st, St0 X.K F0 φ0 H0 L F φ ρ st σ H ∧ PostS X.K Y W F0 φ0 H0 L (whlL cf bf m ρ st) D'
  refine ⟨Wf, ⟨n, F, φ, ρ, st, s, p⟩, ?_⟩
  rintro m σ1 H1 ⟨F1, φ1, ρ1, st1, s1, p1⟩
  cases m with
  | zero => exact p1.elim
  | succ m =>
    rw [whlL] at p1
    refine ⟨F1, φ1, ρ1, st1, s1.base, s1.env, (so_post s1.step p1).mono fun t st2 F2 φ2 H2 S2 B2 p2 => ?_⟩
    have s2 := s1.go S2 B2
    cases t with
    | false =>
      show if false = true then _ else _
      rw [if_neg (by decide)] at p2 ⊢
      exact p2 _ _ _ _ s2
    | true =>
      show if true = true then _ else _
      rw [if_pos rfl] at p2 ⊢
      refine ⟨Wf m, fun σ' H' w => ⟨m, Nat.lt_succ_self _, w⟩, F2, φ2, ρ1, st2, s2, ?_⟩
      show PostS X.K Y W F0 φ0 H0 L (bf ρ1 st2) _
      cases hb : bf ρ1 st2 with
      | nx ρ3 st3 => rw [hb] at p2; exact fun F3 φ3 σ3 H3 s3 => ⟨F3, φ3, ρ3, st3, s3, p2⟩
      | bk ρ3 st3 => rw [hb] at p2; exact p2
      | rt d st3 => rw [hb] at p2; exact p2
      | ex x st3 => rw [hb] at p2; exact p2
      | bad => rw [hb] at p2; exact p2
/-- what is walked is put -/
theorem put_st {K : PySem.W.Frag} {F : Hp} {φ : List Addr} {st : Store} {ρ ρ' : Env} {σ : L2.St} {H : Hp} {d : D} {v : V} {t : T} (s : St0 K F0 φ0 H0 L F φ ρ st σ H) (r : Rep K F d v) (h : putT t d ρ = some ρ') :
    ∃ σ' F', St0 K F0 φ0 H0 L F' φ ρ' st σ' H ∧ ∀ Q : L2.St → Hp → Prop, Q σ' H → gT K t v σ H Q := by
  cases t with
  | nm i m =>
    obtain ⟨F2, s2, _⟩ := put1_of s r.x (fun xs e => by subst e; cases r) (fun xs e => by subst e; cases r) h
    exact ⟨_, F2, s2, fun Q q => q⟩
  | tp is =>
    have fin : ∀ {ds : List D} {vs : List V}, Reps K F ds vs → putN is ds ρ = some ρ' → vs.length = is.length ∧ ∃ F', St0 K F0 φ0 H0 L F' φ ρ' st (setV is vs σ) H := fun {ds vs} rs e2 =>
      putN_of (bad := fun a => H a ≠ none) s (.reps rs) (fun a z => s.step.dom a z) (fun j ys a hj hz => by
        obtain ⟨_, u, hu, b, us, e1, e2, _⟩ := s.env.at_ j _ hj
        rw [hz] at hu
        cases hu
        cases e1
        rw [e2]
        simp) e2
    cases r with
    | tup e rs =>
      obtain ⟨h1, F2, s2⟩ := fin rs h
      exact ⟨_, F2, s2, fun Q q => ⟨_, _, rfl, .inl (sqt_of (s.base.sub _ _ e)), h1, q⟩⟩
    | lst e rs =>
      obtain ⟨h1, F2, s2⟩ := fin rs h
      exact ⟨_, F2, s2, fun Q q => ⟨_, _, rfl, .inr (sq_of (s.base.sub _ _ e)), h1, q⟩⟩
    | _ => cases h
/-- a statement's reading -/
def tX (K : PySem.W.Frag) (Y : ExT) (call : CallF) (n : Nat) (s : S) (W : XK) : TS := fun D σ H => ∃ F0 φ0 H0 L, tS K Y call n s W F0 φ0 H0 L D σ H
theorem r_for {t : T} {it : E} {b : S} {D' : Ends} {σ : L2.St} {H : Hp} (h : tX X.K Y call n (.for t it b) W D' σ H) : tFor (tI X.K Y call it W) (gT X.K t) (tX X.K Y call n b W) D' σ H := by
  obtain ⟨F0, φ0, H0, L, F, φ, ρ, st, s, p⟩ := h
  rw [exS] at p
  refine ⟨F, φ, ρ, st, s.base, s.env, (so_post s.step p).mono fun ds st1 F1 φ1 H1 S1 B1 p1 J wk => ?_⟩
  have s1 := s.go S1 B1
  have hLF : ∀ a o, L a = some o → F1 a = some o := s1.low
  let bf : D → Env → Store → SO := fun d ρ st => (soE (putT t d ρ) st).then fun ρ st => exS call n b ρ st
  let Pv : Nat → L2.St → Hp → Prop := fun i σ H => ∃ F φ ρ st, St0 X.K F0 φ0 H0 F1 F φ ρ st σ H ∧ PostS X.K Y W F0 φ0 H0 L (forL bf (ds.drop i) ρ st) D'
  refine ⟨fun i m σ H => m = ds.length - i ∧ i ≤ ds.length ∧ Pv i σ H, ⟨ds.length, by simp, Nat.zero_le _, F1, φ1, ρ, st1, ⟨s1.step, s1.base, s1.env, s1.own, fun _ _ e => e⟩, p1⟩, ?_⟩
  rintro i m σ2 H2 ⟨rfl, hi, F2, φ2, ρ2, st2, s2, p2⟩
  have hsub : ∀ a o, F1 a = some o → H2 a = some o := fun a o e => s2.base.sub a o (s2.low a o e)
  by_cases hlt : i < ds.length
  · refine .inr ⟨wk.go i H2 hsub hlt, Pv (i + 1), fun σ' H' p' => ⟨ds.length - (i + 1), by omega, rfl, hlt, p'⟩, fun x H3 y => ?_⟩
    obtain ⟨d, hd, hx⟩ := wk.yld i H2 x H3 hsub hlt y
    have item : ∃ F3, Step F2 φ2 H2 F3 φ2 H3 ∧ Base X.K F3 φ2 st2 H3 ∧ Rep X.K F3 d x := by
      rcases hx with ⟨rfl, r⟩ | ⟨T, vs, xs, rfl, hT, rfl, rfl, r⟩
      · exact ⟨F2, .refl, s2.base, r.mono s2.low⟩
      · exact ⟨_, .laidF s2.base hT, s2.base.laidF hT, .tup upd_same (r.mono fun a o h => sub_updF (s2.base.fnone hT) a o (s2.low a o h))⟩
    obtain ⟨F3, S3, B3, r3⟩ := item
    have s3 := s2.go S3 B3
    have hdrop : ds.drop i = d :: ds.drop (i + 1) := by
      rw [List.drop_eq_getElem_cons hlt]
      rw [List.getElem?_eq_getElem hlt] at hd
      cases hd
      rfl
    rw [hdrop, forL] at p2
    cases e1 : putT t d ρ2 with
    | none =>
      have z : bf d ρ2 st2 = .bad := by
        show (soE (putT t d ρ2) st2).then _ = _
        rw [e1]
        rfl
      rw [z] at p2
      exact p2.elim
    | some ρ' =>
      have z : bf d ρ2 st2 = exS call n b ρ' st2 := by
        show (soE (putT t d ρ2) st2).then _ = _
        rw [e1]
        rfl
      rw [z] at p2
      obtain ⟨σ', F4, s4, hg⟩ := put_st s3 r3 e1
      refine hg _ ⟨F0, φ0, H0, F1, F4, φ2, ρ', st2, s4, ?_⟩
      cases hb : exS call n b ρ' st2 with
      | nx ρ3 st3 => rw [hb] at p2; exact fun F3 φ3 σ3 H3 s3 => ⟨F3, φ3, ρ3, st3, s3, p2⟩
      | bk ρ3 st3 => rw [hb] at p2; exact fun F3 φ3 σ3 H3 s3 => p2 F3 φ3 σ3 H3 (s3.weak hLF)
      | rt d st3 => rw [hb] at p2; exact p2
      | ex x st3 => rw [hb] at p2; exact p2
      | bad => rw [hb] at p2; exact p2
  · have e : i = ds.length := by omega
    subst e
    refine .inl ⟨wk.stop H2 hsub, ?_⟩
    rw [List.drop_length, forL] at p2
    exact p2 _ _ _ _ (s2.weak hLF)
end
end Gb

/-! raise of an own error; a caught error used behind its suite. -/
namespace Gb
open PySem PySem.Spec PyProof.Rows L2

section
variable {Y : ExT} {call : CallF} {G : Glob} {k : Nat} {W : XK} {sc raw : Scope} {N : List Str} {X : L2.Cx} {n : Nat} {F0 : Hp} {φ0 : List Addr} {H0 L : Hp}
theorem r_rais {c : Nat} {e : E} {C : Addr} {fld : Str} (YC : Y c = some (C, some fld)) {D' : Ends} {σ : L2.St} {H : Hp} (h : tS X.K Y call n (.rais c e) W F0 φ0 H0 L D' σ H) :
    tMkO C (spIni C fld) [] (tCons (tD X.K Y call e W) tNil) σ H fun cls d H' => W cls d H' := by
  obtain ⟨F, φ, ρ, st, s, p⟩ := h
  rw [exS] at p
  refine so_val s p fun d st1 F1 φ1 H1 v S1 s1 rv fv p1 => ?_
  cases e1 : purD d with
  | none => rw [e1] at p1; exact p1.elim
  | some d' =>
    rw [e1] at p1
    obtain ⟨F2, S2, B2, r2⟩ := pur_of e1 rv fv s1.base S1
    refine ⟨by simp, fun a ha => ⟨a, v, rfl, upd_same, fun dx hdx hne => ⟨rfl, dx, [(fld, v)], upd_same, ?_, ?_, ?_⟩⟩⟩
    · rw [upd_ne hne, upd_same]
    · rw [upd_ne hne] at hdx
      exact hdx
    · rw [upd_ne hne] at hdx
      have e2 : upd (del (upd (upd (upd H1 a (exo a C none)) dx (exd dx [(fld, v)])) a (exo a C (some dx))) a) dx (.xd [(fld, v)]) = upd H1 dx (.xd [(fld, v)]) := by
        funext b
        by_cases hb : b = dx
        · subst hb; rw [upd_same, upd_same]
        · rw [upd_ne hb, upd_ne hb]
          by_cases hba : b = a
          · subst hba; rw [del_same, ha]
          · rw [del_ne hba, upd_ne hba, upd_ne hb, upd_ne hba]
      rw [e2]
      exact p1 F2 φ1 _ _ _ ((s.step.trans S2).trans (.laid hdx)) (B2.laid hdx) ⟨C, some fld, YC, rfl, dx, v, rfl, upd_same, r2⟩
end

/-! ### the caught error -/
section
variable {X : Cx} {a C : Addr} {oe : Obj} {cls : Value} {d : Option Addr}
theorem pe_xfK {e : Expr} {te : TE} {pos : Pos} {n : Str} (hp : (a, oe) ∈ X.pn) (T : XfC X.K C) (hno : PySem.W.findIn X.K (.ref C) n = some none)
    (hz : Zc cls d oe) (hf : ∃ vs, oe.data = .fields vs) (he : PE X e te) (hb : attributeBase e n X.env (eval e X.env) = eval e X.env := by rfl) :
    PE X (.Attribute e n pos) (tXf a cls d C n te) := by
  refine ⟨fun pins s σ H Q I h => ?_⟩
  refine attr_of hb (thn (he.run pins s σ H _ I h) fun u s1 hh => ?_)
  obtain ⟨x, H1, I1, rx, ex, ec, dd, fs, v, ed, ea, l, q⟩ := hh
  subst ex
  obtain rfl : u = Value.ref a := rx
  subst ec
  subst ed
  obtain ⟨ha, _⟩ := I1.pin (a, oe) (List.mem_append_left _ hp)
  obtain ⟨vs, hd⟩ := hf
  have hx : ObjOk X.prog X.w H1 s1.heap dd (.xd fs) := I1.hok dd _ ea
  obtain ⟨mA, hns, hr⟩ := hx
  obtain ⟨od, ho, hl⟩ := lookIn_ns hns
  obtain ⟨u, hu, ru⟩ := RelO.some_of (v := v) (o := mA n) (by rw [← l]; exact hr n)
  have J : PySem.W.InstAt s1.heap a oe C (some od) := ⟨ha, hz.1, by unfold PySem.W.notCls; rw [hd] <;> rfl, by rw [hz.2]; exact ho⟩
  exact HandSPX.exc_get I1.kIn J T.ga T.gg T.exC (PySem.W.findObj_own T.hdC hno rfl (by rw [hl, hu])) (handed_of ru) ⟨v, H1, I1.tok _, ru, q⟩
end
end Gb
namespace PySem.W
open PySem PySem.Spec PySem.Calls PyProof.Rows
section
variable {prog : Program} {w : World} {A : Around} {E : Value → Shared → Prop} {s : Shared} {K : Frag} {x D : Addr} {ox : Obj} {od : Option Obj}
theorem gb_findObj_data {C : Addr} {name : Str} {a g : Value} (hc : (clsIn K C).isSome = true) (ha : findIn K (.ref C) name = some (some a)) (hg : specialIn K a "__get__" = some (some g)) (ht : takesIn K a = some true) : findObj K C od name = some (.bind g a) := by
  obtain ⟨cd, hc⟩ := Option.isSome_iff_exists.mp hc
  unfold findObj
  rw [hc, Option.bind_some, ha, Option.bind_some]
  simp [hg, ht]
theorem gb_class {Q : Option Value → Shared → Prop} (hga : findIn K (.ref D) "__getattribute__" = some (some (.builtin "BaseException.__getattribute__"))) (hgt : findIn K (.ref D) "__getattr__" = some none) (hsub : subIn K (.ref D) (.type "BaseException") = some true)
    (hdct : hasDictIn K D = true) (ha : findIn K (.ref D) "__class__" = some (some (.builtin "object.__class__")))
    (hn : specialIn K (.builtin "object.__class__") "__get__" = some (some (.builtin "getset_descriptor.__get__"))) (htk : takesIn K (.builtin "object.__class__") = some true) (hm : mroIn K D (.type "object") = some true)
    (X : K.In s.heap) (I : InstAt s.heap x ox D od) (h : Q (some (.ref D)) { s with toks := s.toks + 1 }) : wpAny (model prog w) A (getAttr? (.ref x) "__class__") Q E s := by
  have hf : findObj K D od "__class__" = some (.bind (.builtin "getset_descriptor.__get__") (.builtin "object.__class__")) := gb_findObj_data (by obtain ⟨cd, hc, _⟩ := any_some hdct; rw [hc]; rfl) ha hn htk
  obtain ⟨hp, g, d, t, os⟩ := s
  have L0 := I.type (M := model prog w)
  have L1 := looks_findIn (M := model prog w) X hga
  have L2 := looks_findIn (M := model prog w) X hgt
  have L3 := looks_find (M := model prog w) X I hf
  have sub : Looks (model prog w) hp (isInstance (.ref x) (.type "BaseException")) true := L0.andThen (looks_subIn X hsub)
  have hx0 : (false && onTheHeap (Value.builtin "BaseException.__getattribute__")) = false := rfl
  have hx2 : (Value.builtin "BaseException.__getattribute__" == Value.builtin "object.__getattribute__") = false := by decide +kernel
  have hx1 : (onTheHeap (Value.ref D) && Value.builtin "BaseException.__getattribute__" == Value.builtin "object.__getattribute__") = false := by rw [hx2]; rfl
  unfold getAttr? getAttrBy? getAttrBy
  refine wpAny_bind (wpAny_mkText (wpAny_bind (wpAny_attempt (wpAny_holding (wpAny_bind (L0.at (wpAny_bind (L1.at ?_))))))))
  show wpAny _ _ (if (onTheHeap (Value.ref D) && Value.builtin "BaseException.__getattribute__" == Value.builtin "object.__getattribute__") = true then _ else _) _ _ _
  rw [hx1, if_neg Bool.false_ne_true]
  unfold getAttrByItsOwn hookBefore
  refine wpAny_bind ?_
  rw [if_pos (show onTheHeap (Value.ref D) = true from rfl)]
  refine L2.at ?_
  refine wpAny_bind (wpAny_attempt (wpAny_holding ?_))
  unfold callGetattribute
  rw [hx0, if_neg Bool.false_ne_true]
  unfold boundAndCalled
  rw [PySem.F.excAttr_ValueError.ga.bind (.ref x)]
  refine wpAny_bind (wpAny_pure ?_)
  show wpAny _ _ (call (.builtin "BaseException.__getattribute__") [.ref x, .str "__class__" t]) _ _ _
  refine wpAny_call (codeAny_call_builtin PySem.F.excAttr_ValueError.ga.plain PySem.F.entry_bexc_ga ?_)
  refine @check_slot (model prog w) _ _ ⟨hp, g, d, t + 1, os⟩ "BaseException.__getattribute__" "BaseException" "__getattribute__" (.ref x) [.str "__class__" t] [] _ (by decide +kernel) (by decide +kernel) sub (PySem.F.args_bexc_ga (.ref x) (.str "__class__" t)) ?_
  unfold Builtin.«object.__getattribute__»
  refine wpAny_bind (wpAny_of_eq (a := ((Value.ref x : Value), [Value.str "__class__" t])) (by first | rfl | (simp only [slotArgs]; rfl)) ?_)
  refine wpAny_bind (wpAny_pure (wpAny_bind (L0.at (wpAny_bind (L3.at ?_)))))
  show wpAny _ _ (holding [Value.builtin "object.__class__"] (call (.builtin "getset_descriptor.__get__") [.builtin "object.__class__", .ref x, .ref D]) >>= ret) _ _ _
  refine wpAny_bind (wpAny_holding (wpAny_call (class_get (s := ⟨hp, g, d, t + 1, os⟩) (ox := ox) (od := od) X I hm ?_)))
  refine wpAny_pure ?_
  show wpAny _ _ (handedOut (.ref D)) _ _ _
  rw [handedOut_of (v := .ref D) rfl]
  first
    | exact wpAny_pure (wpAny_pure h)
    | exact wpAny_pure h
    | exact wpAny_pure (wpAny_bind (wpAny_pure (wpAny_pure h)))
theorem gb_kitx (hga : findIn K (.ref D) "__getattribute__" = some (some (.builtin "BaseException.__getattribute__"))) (hgt : findIn K (.ref D) "__getattr__" = some none) (hsub : subIn K (.ref D) (.type "BaseException") = some true) (hdct : hasDictIn K D = true) (ha : findIn K (.ref D) "__class__" = some (some (.builtin "object.__class__")))
    (hn : specialIn K (.builtin "object.__class__") "__get__" = some (some (.builtin "getset_descriptor.__get__"))) (htk : takesIn K (.builtin "object.__class__") = some true) (hm : mroIn K D (.type "object") = some true) :
    KitX K (.ref x) (.ref D) (fun h => ∃ od, InstAt h x ox D od) where
  ty := fun _ _ _ ⟨_, I⟩ => I.type
  it := fun _ _ X _ => by
    obtain ⟨cdD, hcD, _⟩ := any_some hdct
    unfold clsIn at hcD
    split at hcD
    · rename_i c' d' cd' sl' ho
      intro A' Q' E' s' k q
      unfold isType loadHead
      exact wpAny_bind (wpAny_loadPart (k _ _ (X _ _ ho)) (wpAny_pure q))
    · cases hcD
  ne := (handS_kitx_exc (x := x) (ox := ox) hga hgt hsub hdct ha hn htk hm).ne
  ca := fun X ⟨_, I⟩ k => gb_class hga hgt hsub hdct ha hn htk hm X I k
end
end PySem.W
namespace Gb
open PySem PySem.Spec PyProof.Rows L2
/-- isinstance(e, c), e the caught exception, d its dict -/
def rIsK (K : PySem.W.Frag) (D a : Addr) (d : Option Addr) : List V → Hp → VK → Prop := fun xs H Q => ∃ (c : V) (cv : Value) (b : Bool) (dd : Addr) (fs : List (Str × V)), xs = [.ref a, c] ∧ (∀ u, RelV c u → u = cv) ∧ PySem.W.kitOne K (.ref D) cv = some b ∧ d = some dd ∧ H dd = some (.xd fs) ∧ Q (.bl b) H
theorem call_isK {X : Cx} {a D : Addr} {oe : Obj} {d : Option Addr} (hp : (a, oe) ∈ X.pn) (C : ExcC X.K D) (hz : Zc (.ref D) d oe) (hf : ∃ vs, oe.data = .fields vs) : CallR X (.builtin "isinstance") (rIsK X.K D a d) := by
  intro pins s σ H xs us Q I r h
  obtain ⟨c, cv, b, dd, fs, rfl, hcv, e, ed, ea, q⟩ := h
  subst ed
  cases r with
  | cons rx rr =>
    cases rr with
    | cons rt rr =>
      cases rr
      cases rx
      have ec := hcv _ rt
      subst ec
      obtain ⟨hget, _⟩ := I.pin (a, oe) (List.mem_append_left _ hp)
      obtain ⟨vs, hv⟩ := hf
      have hx : ObjOk X.prog X.w H s.heap dd (.xd fs) := I.hok dd _ ea
      obtain ⟨mA, hns, _⟩ := hx
      obtain ⟨od, ho, _⟩ := lookIn_ns hns
      have J : PySem.W.InstAt s.heap a oe D (some od) := ⟨hget, hz.1, by unfold PySem.W.notCls; rw [hv] <;> rfl, by rw [hz.2]; exact ho⟩
      exact PySem.W.kia_one (PySem.W.gb_kitx (ox := oe) C.hg C.hk C.hs C.hd C.ha C.hn C.ht C.hm) I.kIn ⟨_, J⟩ e (fun z => nomatch z) fun tk => ⟨.bl b, H, I.kept (t' := tk) fun _ _ z => z, rfl, q⟩
end Gb

/-! try: .. except X as n: ..: the exception stays pinned behind the suite. -/
namespace Gb
open PySem PySem.Spec PyProof.Rows L2

def only (nx : L2.St → Hp → Prop) : Ends := { nx := nx, rt := fun _ _ => False, bk := fun _ _ => False, ct := fun _ _ => False }
def wKp (K : PySem.W.Frag) (c : Value) (i : Nat) (ts : Addr → Value → Option Addr → TS) (Wout : WX) (nxE : Addr → Value → Option Addr → L2.St → Hp → Prop) : WX := fun cls d σ H =>
  ∃ b, PySem.W.exmOne K cls c = some b ∧ (b = true → ∀ a, H a = none → ts a cls d (only fun σ' H' => nxE a cls d (σ'.set i none) H') (σ.set i (some (.ref a))) H) ∧ (b = false → Wout cls d σ H)
theorem unsuiteK {X : Cx} {pins : List (Addr × Obj)} {σ : L2.St} {H : Hp} {s : Shared} {a : Addr} {q : Addr × Obj} {pn' : List (Addr × Obj)} (I : Inv (X.suite a (q :: (X.pn ++ pins))) pn' σ H s) (ok : X.Ok) : Inv X (q :: pins) σ H s :=
  ⟨ok, I.os, I.bare, I.base, I.loc, I.cell, I.free, I.freeC, fun p hp => I.pin p (List.mem_append_left _ (by
    rcases List.mem_append.mp hp with h | h
    · exact List.mem_cons_of_mem _ (List.mem_append_left _ h)
    · rcases List.mem_cons.mp h with h | h
      · exact h ▸ List.mem_cons_self
      · exact List.mem_cons_of_mem _ (List.mem_append_right _ h))), I.hok, I.len⟩
theorem unpin {X : Cx} {pins : List (Addr × Obj)} {σ : L2.St} {H : Hp} {s : Shared} {q : Addr × Obj} (I : Inv X (q :: pins) σ H s) : Inv X pins σ H s :=
  ⟨I.ok, I.os, I.bare, I.base, I.loc, I.cell, I.free, I.freeC, fun p hp => I.pin p (by
    rcases List.mem_append.mp hp with h | h
    · exact List.mem_append_left _ h
    · exact List.mem_append_right _ (List.mem_cons_of_mem _ h)), I.hok, I.len⟩

section
variable {X : Cx} {x n : Str} {c : Value} {i : Nat} {body suite : List Stmt} {b₀ : Stmt} {np pos pos' : Pos} {tb : WX → TS} {ts : Addr → Value → Option Addr → TS} {Wout : WX}
theorem try_run (hs : X.stack = X.env :: X.outer) (hf : X.env.frame = some X.env.locals) (hN : X.N.Nodup) (hi : X.N[i]? = some n) (hln : X.env.kindOf n = some .local) (hc : Names X x c) (tk : Takes X Wout)
    (hb : ∀ (W : WX) (pn : List (Addr × Obj)) (xe : Value → Shared → Prop), Takes (X.tr pn xe) W → PassesOwn (model X.prog X.w) X.A X.env xe → PSs (X.tr pn xe) body (tb W))
    (hsu : ∀ (a : Addr) (oe : Obj) (cls : Value) (d : Option Addr) (pn : List (Addr × Obj)), Zc cls d oe → (∃ vs, oe.data = .fields vs) → PSs (X.suite a ((a, oe) :: pn)) (b₀ :: suite) (ts a cls d))
    {nxE : Addr → Value → Option Addr → L2.St → Hp → Prop} {nx : L2.St → Hp → Prop} {pins : List (Addr × Obj)} {σ : L2.St} {H : Hp} {s : Shared} {Q : Flow → Shared → Prop} (I : Inv X pins σ H s)
    (h : tb (wKp X.K c i ts Wout nxE) (only nx) σ H)
    (h1 : ∀ σ' H' s', Inv X pins σ' H' s' → nx σ' H' → Q .next s')
    (h2 : ∀ a oe cls d σ' H' s', Zc cls d oe → (∃ vs, oe.data = .fields vs) → Inv X ((a, oe) :: pins) σ' H' s' → nxE a cls d σ' H' → Q .next s') :
    wpAny (model X.prog X.w) X.A (exec (.Try body [.ExceptHandler (some (.Name x np)) (some n) (b₀ :: suite) pos'] [] [] pos) X.env) Q X.xe s := by
  have ok := I.ok
  have hfr : X.A.frames = some (X.env :: X.outer) := by rw [ok.frames, hs]
  have hloc : Loc X.env.scope n := .inl hln
  refine wpAny_Try_except ?_
  refine wpAny_mono ((hb (wKp X.K c i ts Wout nxE) (X.pn ++ pins) (fun e s₁ => wpAny (model X.prog X.w) X.A (noteFrame e X.env) (fun _ s₂ => wpAny (model X.prog X.w) X.A (setFlight e none) (fun _ s₃ =>
    wpAny (model X.prog X.w) X.A (handleBy e X.env [.ExceptHandler (some (.Name x np)) (some n) (b₀ :: suite) pos']) Q X.xe s₃) X.xe s₂) X.xe s₁) (fun u s' xx => ?_) PassesOwn.looking).run [] s σ H (only nx) (I.toTry _) h) (fun f s1 hsp => ?_) (fun e s1 he => he)
  · -- the catch
    obtain ⟨a, B, sI, pins', σ', H', cls, d, rfl, J', nb, up, sky, na, os, ag, b, hb1, hyes, hno⟩ := xx
    have J : Inv X pins σ' H' sI := J'.ofTry ok
    have sky' : Sky B (X.env :: X.outer) a (Zc cls d) X.env.locals s'.heap := by rw [← hs]; exact sky
    show wpAny (model X.prog X.w) X.A (noteFrame (.ref a) X.env) _ _ _
    refine Sky.land Zc.steady hfr hf sky' fun h3 fl3 up3 => ?_
    have J3 : Inv X pins σ' H' { s' with heap := h3 } := J.landed nb fl3.1 (up.trans up3) os ag
    obtain ⟨oe3, vs3, he3, hz3, hd3⟩ := fl3.there
    have notFr : ∀ {h : Heap} {o : Obj} {vs : Array Value}, h.FunFrames B (X.env :: X.outer) → h.get? a = some o → o.data = .fields vs → a ∉ frs (X.env :: X.outer) := fun {h o vs} ff e dd hm => by
      obtain ⟨_, o', e', hnf⟩ := ff.mem hm
      rw [e] at e'; cases e'
      exact hnf _ dd
    have nfr := notFr fl3.2.2.1 he3 hd3
    have nL : a ≠ X.env.locals := fun z => nfr (List.mem_filterMap.mpr ⟨X.env, List.mem_cons_self, by rw [hf, z]⟩)
    have nF : a ∉ X.fs := fun hm => by
      obtain ⟨e, he, q⟩ := List.mem_filterMap.mp hm
      exact nfr (List.mem_filterMap.mpr ⟨e, List.mem_cons_of_mem _ he, q⟩)
    have S3 := J3.suite he3 hd3 na nL nF
    refine wpAny_handleBy_cons (codeAny_handlers_test ?_) (by intro q; cases q)
    have LT : PySem.W.Looks (model X.prog X.w) h3 (typeOf (.ref a)) cls := fun A Q E s k q => wpAny_typeOf_ref (k _ _ he3) (by rw [hz3.1]; exact q)
    have LM := PySem.W.exm_one (M := model X.prog X.w) (J3.kIn) LT hb1
    have test : ∀ {Q : Value → Shared → Prop} {E : Value → Shared → Prop}, Q c { s' with heap := h3 } → wpAny (model X.prog X.w) (X.A.mark (some (.ref a))) (eval (.Name x np) X.env) Q E { s' with heap := h3 } := fun {Q E} q => by
      obtain ⟨hg, hdbg, hm | ⟨hm, hv, hnn⟩⟩ := hc
      · exact ld_glob (X := X.suite a ((a, oe3) :: (X.pn ++ pins))) S3 hg hm q hdbg
      · exact ld_blt (X := X.suite a ((a, oe3) :: (X.pn ++ pins))) S3 hg hm hv q hnn hdbg
    refine test (LM.here ?_)
    cases b with
    | true =>
      refine codeAny_handlers_suite_as ?_
      refine HandSPX.lands_againZ fl3 fun h4 fl4 up4 => ?_
      have J4 : Inv X pins σ' H' { s' with heap := h4 } := J.landed nb fl4.1 ((up.trans up3).trans up4) os ag
      obtain ⟨oe4, vs4, he4, hz4, hd4⟩ := fl4.there
      have S4 := J4.suite he4 hd4 na nL nF
      refine store_ok (X := X.suite a ((a, oe4) :: (X.pn ++ pins))) (v := .ref a) S4 hN hi hloc rfl (fun s5 S5 => ?_) (.inr hln)
      refine wpAny_mono ((hsu a oe4 cls d (X.pn ++ pins) hz4 ⟨_, hd4⟩).run [] s5 _ H' _ S5 (hyes rfl a na)) (fun f s6 hsp => ?_) (fun _ _ z => False.elim z)
      cases f with
      | next =>
        obtain ⟨σ6, H6, S6, q6⟩ := hsp
        exact gone_ok (unsuiteK S6 ok) hN hi hln fun s7 J7 => h2 a oe4 cls d _ _ s7 hz4 ⟨_, hd4⟩ J7 q6
      | brk => obtain ⟨σ6, H6, S6, q6⟩ := hsp; exact q6.elim
      | cont => obtain ⟨σ6, H6, S6, q6⟩ := hsp; exact q6.elim
      | ret u => obtain ⟨v6, σ6, H6, S6, r6, q6⟩ := hsp; exact q6.elim
    | false =>
      show wpAny _ X.A (handleBy (.ref a) X.env []) _ _ _
      refine wpAny_handleBy_nil ?_
      obtain ⟨k1, k2, k3, oe, vs, T, oT, ts', he, hz, hd, h1, hr⟩ := id fl3
      unfold PySem.passOn
      refine wpAny_bind (wpAny_field he hd h1 ?_)
      rw [if_neg (show ¬ ((Value.ref T == Value.none) = true) from by simp)]
      have fin : wpAny (model X.prog X.w) X.A (setFlight (.ref a) X.env.frame) (fun _ s4 => wpAny (model X.prog X.w) X.A (throw (.ref a) : Sem Flow) Q X.xe s4) X.xe { s' with heap := h3 } := by
        rw [hf]
        refine HandSPX.setFlight_upZ fl3 fun h4 hh4 up4 => wpAny_throw (tk _ _ ?_)
        exact ⟨a, B, sI, pins, σ', H', cls, d, rfl, J, nb, (up.trans up3).trans up4, .inr (.inr (by rw [hs]; exact hh4)), na, os, ag, hno rfl⟩
      first
        | exact wpAny_bind (wpAny_pure (wpAny_bind fin))
        | exact wpAny_bind fin
  · cases f with
    | next =>
      obtain ⟨σ', H', J', q⟩ := hsp
      exact wpAny_execs_nil (h1 _ _ _ (J'.ofTry ok) q)
    | brk => obtain ⟨σ', H', J', q⟩ := hsp; exact q.elim
    | cont => obtain ⟨σ', H', J', q⟩ := hsp; exact q.elim
    | ret u => obtain ⟨v, σ', H', J', r, q⟩ := hsp; exact q.elim
end
end Gb

/-! try: t = e (or e) except X as n: c = n, and the return behind it. -/
namespace Gb
open PySem PySem.Spec PyProof.Rows L2

/-! ### the expression behind the catch -/
theorem pa_pre {X : Cx} {t : TA} {r : List Expr} (ht : PA X r t) : ∀ {pre : List Str} {es : List Expr}, preB pre es = some r → PA X es (fun σ H Q => t σ H fun vs H1 => Q (pre.map V.str ++ vs) H1)
  | [], es, h => by
    cases h
    exact ht
  | s :: ss, [], h => by cases h
  | s :: ss, e :: es, h => by
    unfold preB at h
    split at h
    · rename_i heq; cases heq
    · rename_i s1 ss1 s' j p es1 heq1 heq2
      cases heq1
      cases heq2
      split at h
      · rename_i hs
        rw [beq_iff_eq] at hs
        subst hs
        exact PA.imp (pa_cons pe_str (pa_pre ht h) (star_ne rfl)) fun σ H Q q => q
      · cases h
    · cases h
theorem pe_caught {X : Cx} {Y : ExT} {c : Nat} {x : Str} {a C : Addr} {fld : Str} {oe : Obj} {d : Option Addr} {ci : Nat} {ca : Str} {pre : List Str} {es : List Expr} {tv : Expr} {p1 p2 p3 p4 p5 p6 p7 p8 p9 p10 p11 : Pos} {j : Nat} (hp : (a, oe) ∈ X.pn) (U : ErrU X.K X.mg Y c x C fld)
    (hz : Zc (.ref C) d oe) (hf : ∃ vs, oe.data = .fields vs) (hN : X.N[ci]? = some ca) (hv : Vis X.env.scope ca) (hd : noDbg ca = true) (hgi : Gl X "isinstance") (mi : X.mg "isinstance" = none) (hgv : Gl X "ValueError")
    (hes : preB pre es = some [.Attribute (.Name ca p4) fld p5, .Call (.Name "isinstance" p6) [.Name ca p7, .Name "ValueError" p8] [] p9]) :
    PE X (.IfExp (.Compare (.Name ca p1) [.Is] [.Constant .none j p2] p3) tv (.List es p10) p11)
      (fun σ H Q => pre.length < 1000 ∧ σ[ci]? = some (some (.ref a)) ∧ ∃ dd v, d = some dd ∧ H dd = some (.xd [(fld, v)]) ∧ ∀ p, H p = none → Q (.ref p) (upd H p (.lst (pre.map V.str ++ [v, .bl true])))) := by
  have hdb := dbg_of hd
  have va : ∀ p, PE X (.Name ca p) (tVar ci) := fun p => pe_var hN hv hdb.1 hdb.2
  have vV : PE X (.Name "ValueError" p8) (tC (.ty "ValueError")) := pe_bltn (v := .ty "ValueError") hgv U.ve (by decide +kernel) rfl (by decide) (by decide)
  have att : PE X (.Attribute (.Name ca p4) fld p5) (tXf a (.ref C) d C fld (tVar ci)) := pe_xfK hp U.xf U.noat hz hf (va p4)
  have isi : PE X (.Call (.Name "isinstance" p6) [.Name ca p7, .Name "ValueError" p8] [] p9) (tCB (rIsK X.K C a d) (tCons (tVar ci) (tCons (tC (.ty "ValueError")) tNil))) :=
    pe_callB (call_isK hp U.is hz hf) hgi mi PyProof.Rows.boot_isinstance (pa_cons (va p7) (pa_cons vV pa_nil (star_ne rfl)) (star_ne rfl)) (by decide) (by decide) (star_ne rfl) (star_no fun e he => by rw [List.mem_singleton.mp he]; rfl)
  have lst := pe_lst (pos := p10) (pa_pre (pa_cons att (pa_cons isi pa_nil (star_ne rfl)) (star_ne rfl)) hes)
  have nev : PE X tv (fun _ _ _ => False) := ⟨fun _ _ _ _ _ _ h => h.elim⟩
  refine PE.imp (pe_ifExp (pt_cmpR op_isN (va p1) pe_non (mark_ne rfl)) nev lst) fun σ H Q ⟨hl, hs, dd, v, ed, ea, q⟩ => ?_
  refine ⟨.ref a, hs, rfl, false, by simp, ?_⟩
  dsimp only
  rw [if_neg (by decide)]
  refine ⟨.ref a, hs, rfl, rfl, dd, [(fld, v)], v, ed, ea, by simp [List.lookup], .ref a, hs, .ty "ValueError", .type "ValueError", true, dd, [(fld, v)], rfl, fun u r => r, U.kit, ed, ea, ?_, q⟩
  rw [List.length_append, List.length_map, sizeLine_eq]
  show pre.length + 2 ≤ _
  omega

/-! ### the statements -/
def bodyS (t : Option Nat) (e : E) : S := match t with
  | some t => .asg (.nm t false) e
  | none => .expr e
/-- try: t = e except (class c) as n: ci = n; return t if ci is None else [.., ci.field, True] -/
def exTry (call : CallF) (n : Nat) (t : Option Nat) (ci : Nat) (e : E) (c : Nat) (pre : List Str) (ρ : Env) (st : Store) : SO :=
  match evE call e ρ st with
  | .ex y st1 => if y.cls = c then .rt (.fls (pre.map D.str ++ [y.val, .bl true])) st1 else .bad
  | _ => (exS call n (bodyS t e) ρ st).then fun ρ st => match evE call (.cmp .isN (.var ci) (.con .non)) ρ st with
    | .ok (.bl true) st => exS call n (.ret (rvE t)) ρ st
    | _ => .bad
theorem exTry_eq {call : CallF} {n : Nat} {t : Option Nat} {ci ei : Nat} {e : E} {c : Nat} {pre : List Str} {ρ : Env} {st : Store} : exTry call n t ci e c pre ρ st = exS call n (.tryR t ci ei e c pre) ρ st := by
  rw [exS]
  unfold exTry bodyS tryN
  cases he : evE call e ρ st with
  | bad => cases t <;> simp only [exS, he] <;> rfl
  | ex y st1 => rfl
  | ok d st1 => cases t <;> simp only [exS, he, Out.so] <;> rfl
end Gb

/-! try and the return behind it: what is run is what the core text says. -/
namespace Gb
open PySem PySem.Spec PyProof.Rows L2

section
variable {Y : ExT} {call : CallF} {G : Glob} {k : Nat} {W : XK} {sc : Scope} {N : List Str} {X : L2.Cx} {n : Nat}
/-- behind the try: a value -/
theorem try_ret {t : Option Nat} {ci : Nat} {F0 : Hp} {φ0 : List Addr} {H0 L F : Hp} {φ : List Addr} {ρ : Env} {st : Store} {σ : L2.St} {H : Hp} {D' : Ends} (s : St0 X.K F0 φ0 H0 L F φ ρ st σ H)
    (p : PostS X.K Y W F0 φ0 H0 L (match evE call (.cmp .isN (.var ci) (.con .non)) ρ st with | .ok (.bl true) st => exS call n (.ret (rvE t)) ρ st | _ => .bad) D') :
    tRet (L2.tIf (tT X.K Y call (.cmp .isN (.var ci) (.con .non)) W) (tD X.K Y call (rvE t) W) fun _ _ _ => False) D' σ H := by
  refine ⟨F, φ, ρ, st, s.base, s.env, ?_⟩
  cases e : evE call (.cmp .isN (.var ci) (.con .non)) ρ st with
  | bad => rw [e] at p; exact p.elim
  | ex x st1 => rw [e] at p; exact p.elim
  | ok d st1 =>
    rw [e] at p
    cases d with
    | bl b =>
      cases b with
      | true =>
        intro F1 φ1 H1 S1 B1
        exact r_ret (n := n) ⟨F1, φ1, ρ, st1, s.go S1 B1, p⟩
      | false => exact p.elim
    | _ => exact p.elim
theorem body_split {t : Option Nat} {ci c : Nat} {e : E} {pre : List Str} {F0 : Hp} {φ0 : List Addr} {H0 L : Hp} {ρ : Env} {st : Store} {D' : Ends} {K : PySem.W.Frag}
    (p : PostS K Y W F0 φ0 H0 L (exTry call n t ci e c pre ρ st) D') :
    PostS K Y (fun cls d H => ∃ y st1 F φ, Step F0 φ0 H0 F φ H ∧ Base K F φ st1 H ∧ RepEx K Y F H y cls d ∧ y.cls = c ∧ PostS K Y W F0 φ0 H0 L (.rt (.fls (pre.map D.str ++ [y.val, .bl true])) st1) D') F0 φ0 H0 L (exS call n (bodyS t e) ρ st)
      (only fun σ' H' => ∃ F φ ρ' st', St0 K F0 φ0 H0 L F φ ρ' st' σ' H' ∧ PostS K Y W F0 φ0 H0 L (match evE call (.cmp .isN (.var ci) (.con .non)) ρ' st' with | .ok (.bl true) st => exS call n (.ret (rvE t)) ρ' st | _ => .bad) D') := by
  unfold exTry at p
  cases he : evE call e ρ st with
  | bad =>
    rw [he] at p
    cases t with
    | none => unfold bodyS at p; simp only [exS, he] at p; exact p.elim
    | some t => unfold bodyS at p; simp only [exS, he] at p; exact p.elim
  | ex y st1 =>
    rw [he] at p
    dsimp only at p
    by_cases hc : y.cls = c
    · rw [if_pos hc] at p
      have go : PostS K Y (fun cls d H => ∃ y st1 F φ, Step F0 φ0 H0 F φ H ∧ Base K F φ st1 H ∧ RepEx K Y F H y cls d ∧ y.cls = c ∧ PostS K Y W F0 φ0 H0 L (.rt (.fls (pre.map D.str ++ [y.val, .bl true])) st1) D') F0 φ0 H0 L (.ex y st1)
          (only fun σ' H' => ∃ F φ ρ' st', St0 K F0 φ0 H0 L F φ ρ' st' σ' H' ∧ PostS K Y W F0 φ0 H0 L (match evE call (.cmp .isN (.var ci) (.con .non)) ρ' st' with | .ok (.bl true) st => exS call n (.ret (rvE t)) ρ' st | _ => .bad) D') :=
        fun F φ H cls d S B R => ⟨y, st1, F, φ, S, B, R, hc, p⟩
      cases t with
      | none => unfold bodyS; simp only [exS, he]; exact go
      | some t => unfold bodyS; simp only [exS, he]; exact go
    · rw [if_neg hc] at p
      exact p.elim
  | ok d st1 =>
    rw [he] at p
    dsimp only at p
    have go : ∀ r : SO, (∀ σ H, r ≠ .bk σ H) → (∀ x st, r ≠ .ex x st) → (∀ d st, r ≠ .rt d st) → PostS K Y W F0 φ0 H0 L (r.then fun ρ st => match evE call (.cmp .isN (.var ci) (.con .non)) ρ st with | .ok (.bl true) st => exS call n (.ret (rvE t)) ρ st | _ => .bad) D' →
        PostS K Y (fun cls d H => ∃ y st1 F φ, Step F0 φ0 H0 F φ H ∧ Base K F φ st1 H ∧ RepEx K Y F H y cls d ∧ y.cls = c ∧ PostS K Y W F0 φ0 H0 L (.rt (.fls (pre.map D.str ++ [y.val, .bl true])) st1) D') F0 φ0 H0 L r
          (only fun σ' H' => ∃ F φ ρ' st', St0 K F0 φ0 H0 L F φ ρ' st' σ' H' ∧ PostS K Y W F0 φ0 H0 L (match evE call (.cmp .isN (.var ci) (.con .non)) ρ' st' with | .ok (.bl true) st => exS call n (.ret (rvE t)) ρ' st | _ => .bad) D') := by
      intro r h1 h2 h3 q
      cases r with
      | nx ρ' st' => exact fun F φ σ H s => ⟨F, φ, ρ', st', s, q⟩
      | bk σ H => exact absurd rfl (h1 σ H)
      | rt d st => exact absurd rfl (h3 d st)
      | ex x st => exact absurd rfl (h2 x st)
      | bad => exact q.elim
    refine go _ ?_ ?_ ?_ p
    all_goals
      intro a b
      cases t with
      | none => unfold bodyS; simp only [exS, he, Out.so]; intro z; cases z
      | some t =>
        unfold bodyS
        simp only [exS, he, Out.so]
        intro z
        cases e1 : putT (.nm t false) d ρ with
        | none => rw [e1] at z; cases z
        | some ρ' => rw [e1] at z; cases z

theorem strs_rep {K : PySem.W.Frag} {F : Hp} : ∀ pre : List Str, Reps K F (pre.map D.str) (pre.map V.str)
  | [] => .nil
  | s :: r => .cons (.str s) (strs_rep r)
theorem snd_try {x fld : Str} {C : Addr} {c : Nat} {t : Option Nat} {ci ei : Nat} {e : E} {pre : List Str} {l : List Stmt} (g : GoodS Y call G k W sc N X) 
    (hsnd : ∀ {W : XK} {X : L2.Cx} {b : Stmt}, GoodS Y call G k W sc N X → tryE G N sc t e b = true → PS X b (tX X.K Y call n (bodyS t e) W)) (U : ErrU X.K X.mg Y c x C fld) (h : tryB G N sc x fld t ci ei e pre l = true) :
    PSs X l (fun D σ H => ∃ F0 φ0 H0 L F φ ρ st, St0 X.K F0 φ0 H0 L F φ ρ st σ H ∧ PostS X.K Y W F0 φ0 H0 L (exTry call n t ci e c pre ρ st) D) := by
  unfold tryB at h
  split at h
  · rename_i b x' q1 nm ca q2 n2 q3 q4 q5 q6 ca2 p1 j p2 p3 tv es q7 q8 q9
    simp only [Bool.and_eq_true, beq_iff_eq, Bool.not_eq_true', decide_eq_true_eq] at h
    obtain ⟨⟨⟨⟨⟨⟨⟨⟨⟨⟨⟨⟨⟨⟨⟨⟨⟨⟨h1, h2⟩, h3⟩, h4⟩, rfl⟩, h6⟩, h7⟩, h8⟩, h9⟩, h10⟩, rfl⟩, h12⟩, h13⟩, h14⟩, rfl⟩, h16⟩, h17⟩, h18⟩, h19⟩ := h
    split at h19
    · rename_i ca3 r1 fl r2 i1 r3 ca4 r4 v1 r5 r6 hpre
      simp only [Bool.and_eq_true, beq_iff_eq] at h19
      obtain ⟨⟨⟨⟨rfl, rfl⟩, rfl⟩, rfl⟩, rfl⟩ := h19
      have hN : X.N.Nodup := by rw [g.names]; exact g.nd
      have hi : X.N[ei]? = some n2 := by rw [g.names]; exact slot_of h8
      have hci : X.N[ci]? = some ca4 := by rw [g.names]; exact slot_of h12
      have hln : X.env.scope.names.lookup n2 = some .local := by rw [g.scope]; exact lcl_of h9
      have hlc : X.env.scope.names.lookup ca4 = some .local := by rw [g.scope]; exact lcl_of h13
      have hne : ei ≠ ci := fun z => by
        rw [z, hci] at hi
        cases hi
        simp at h16
      have hv : Vis X.env.scope ca4 := .inl hlc
      have mi : X.mg "isinstance" = none := g.prg.bi _ isi_mem
      refine ⟨fun pins s σ H D' I hT => ?_⟩
      obtain ⟨F0, φ0, H0, L, F, φ, ρ, st, s0, p⟩ := hT
      let W0 : XK := fun cls d H => ∃ y st1 F φ, Step F0 φ0 H0 F φ H ∧ Base X.K F φ st1 H ∧ RepEx X.K Y F H y cls d ∧ y.cls = c ∧ PostS X.K Y W F0 φ0 H0 L (.rt (.fls (pre.map D.str ++ [y.val, .bl true])) st1) D'
      have w0 : ∀ {cls d H}, W0 cls d H → cls = .ref C ∧ ∃ dd v, d = some dd ∧ H dd = some (.xd [(fl, v)]) ∧ ∀ p, H p = none → D'.rt (.ref p) (upd H p (.lst (pre.map V.str ++ [v, .bl true]))) := fun {cls d H} ⟨y, st1, F1, φ1, S, B, ⟨C', f, hY, hc, hm⟩, hyc, pp⟩ => by
        rw [hyc, U.y] at hY
        cases hY
        obtain ⟨dd, v, rfl, e2, r⟩ := hm
        refine ⟨hc, dd, v, rfl, e2, fun q hq => pp F1 φ1 _ _ (S.trans (.laid hq)) (B.laid hq) ⟨q, _, rfl, upd_same, ?_, B.fnone hq, B.nin hq⟩ fun _ a ea => ?_⟩
        · exact Reps.append (strs_rep pre) (.cons r (.cons (.bl true) .nil))
        · cases ea
          exact S.unmade hq
      refine wpAny_execs_cons (try_run (c := .ref C) (i := ei) (Wout := fun _ _ _ _ => False)
        (tb := fun Wx D2 σ H => ∃ W1 : XK, (∀ cls d σ H, W1 cls d H → Wx cls d σ H) ∧ tX X.K Y call n (bodyS t e) W1 D2 σ H)
        (ts := fun a cls d D2 σ' H' => σ'.length = X.N.length → tAsg (tVar ei) (gName ci) D2 σ' H')
        (nxE := fun a cls d σ' H' => σ'[ci]? = some (some (.ref a)) ∧ W0 cls d H')
        (nx := fun σ' H' => ∃ F φ ρ' st', St0 X.K F0 φ0 H0 L F φ ρ' st' σ' H' ∧ PostS X.K Y W F0 φ0 H0 L (match evE call (.cmp .isN (.var ci) (.con .non)) ρ' st' with | .ok (.bl true) st => exS call n (.ret (rvE t)) ρ' st | _ => .bad) D')
        g.stk g.frm hN hi hln ⟨g.gl h6, (dbg_of h7).1, .inl U.mgx⟩ (fun u s' ⟨_, _, _, _, _, _, _, _, _, _, _, _, _, _, _, _, w⟩ => w.elim) ?_ ?_ I ?_ ?_ ?_)
      · -- the body
        intro Wx pn xe tkx po
        refine ⟨fun pins s σ H D2 I ⟨W1, hi1, hx⟩ => ?_⟩
        have g' : GoodS Y call G k W1 sc N (X.tr pn xe) := { prg := g.prg, scope := g.scope, names := g.names, nd := g.nd, calm := g.calm, room := g.room, fnr := g.fnr, pass := passes_call tkx fun cls d σ H h => hi1 cls d σ H h, kind := g.kind, po := po, tk := Takes.imp tkx fun cls d σ H h => hi1 cls d σ H h, stk := g.stk, frm := g.frm }
        exact (pss_one (hsnd g' h1)).run pins s σ H D2 I hx
      · -- the suite
        intro a oe cls d pn hz hfs
        refine pss_one ⟨fun pins s σ' H' D2 I hx => ?_⟩
        exact (ps_set (X := X.suite a ((a, oe) :: pn)) hN hci (.inl hlc) (pe_var hi (.inl hln) (dbg_of h10).1 (dbg_of h10).2) rfl (.inr hlc)).run pins s σ' H' D2 I (hx I.len)
      · -- what the body is to keep
        refine ⟨W0, fun cls d σ' H' w => ?_, F0, φ0, H0, L, F, φ, ρ, st, s0, body_split p⟩
        obtain ⟨rfl, _⟩ := w0 w
        refine ⟨true, U.exm, fun _ a ha hlen => ?_, fun z => nomatch z⟩
        rw [List.length_set] at hlen
        have h5 : ei < σ'.length := by rw [hlen]; exact (List.getElem?_eq_some_iff.mp hi).1
        have h6 : ci < σ'.length := by rw [hlen]; exact (List.getElem?_eq_some_iff.mp hci).1
        refine ⟨.ref a, List.getElem?_set_self h5, ?_⟩
        show ((((σ'.set ei (some (V.ref a))).set ci (some (V.ref a))).set ei none)[ci]? = some (some (V.ref a))) ∧ W0 (.ref C) d H'
        rw [List.getElem?_set_ne hne, List.getElem?_set_self (by simpa using h6)]
        exact ⟨rfl, w⟩
      · -- a value
        intro σ' H' s' I' ⟨F1, φ1, ρ', st', s1, p1⟩
        have nev : PE X (.List es q7) (fun _ _ _ => False) := ⟨fun _ _ _ _ _ _ h => h.elim⟩
        exact (pss_one (ps_ret (pe_ifExp ((snd _).T g.toGood h3) ((snd _).E g.toGood h2) nev))).run pins s' σ' H' D' I' (try_ret s1 p1)
      · -- the error
        intro a oe cls d σ' H' s' hz hfs I' ⟨hσ, w⟩
        obtain ⟨rfl, dd, v, ed, e2, q⟩ := w0 w
        have I2 := I'.toTry X.xe
        refine wpAny_mono ((pss_one (ps_ret (pe_caught (X := X.tr (X.pn ++ (a, oe) :: pins) X.xe) (List.mem_append_right _ List.mem_cons_self) U hz hfs hci hv h14 (g.gl h17) mi (g.gl h18) hpre))).run [] s' σ' H' D' I2 ⟨h4, hσ, dd, v, ed, e2, q⟩) (fun f s2 hsp => ?_) fun _ _ z => z
        cases f with
        | next => obtain ⟨σ6, H6, S6, q6⟩ := hsp; exact ⟨σ6, H6, unpin (S6.ofTry I.ok), q6⟩
        | brk => obtain ⟨σ6, H6, S6, q6⟩ := hsp; exact ⟨σ6, H6, unpin (S6.ofTry I.ok), q6⟩
        | cont => obtain ⟨σ6, H6, S6, q6⟩ := hsp; exact ⟨σ6, H6, unpin (S6.ofTry I.ok), q6⟩
        | ret u => obtain ⟨v6, σ6, H6, S6, r6, q6⟩ := hsp; exact ⟨v6, σ6, H6, unpin (S6.ofTry I.ok), r6, q6⟩
    · cases h19
  · cases h
end
end Gb

/-! Every checked statement. -/
namespace Gb
open PySem PySem.Spec PyProof.Rows L2 StX

section
variable {Y : ExT} {call : CallF} {G : Glob} {k : Nat} {W : XK} {sc raw : Scope} {N : List Str} {X : L2.Cx} {n : Nat}

theorem comp_of {x : Expr} (h : isCompE x = false) {t : Option Expr} {l : Nat} {env : PySem.Env} : swapsWith x t l env = pure false := by
  cases x <;> first | rfl | cases h
theorem tup_of {x : Expr} (h : isTupE x = false) {ts : List Expr} {env : PySem.Env} : swappedStores ts x env = pure none := by
  unfold swappedStores
  cases x <;> first | cases h; done | (rcases ts with _ | ⟨t, _ | ⟨t2, ts⟩⟩ <;> first | rfl | (cases t <;> rfl))
/-- a checked comprehension's text -/
theorem s_compOf {own : List Nat} {t : T} {it c e : E} {x : Expr} (g : Good Y call G k W sc raw N X) (h : chkE G N sc raw (.comp own t it c e) x = true) :
    ∃ elt tg iter ifs scope pos, x = .ListComp elt [⟨tg, iter, ifs, 0⟩] scope pos ∧ ∀ {y : Str} {py spos : Pos} {i : Nat}, slotB N i y = true → swapB sc (.Name y py) x = true → X.env.scope.kind = .function →
      PS X (.Assign [.Name y py] x spos) (tAsg (tD X.K Y call (.comp own t it c e) W) (gName i)) := by
  unfold chkE at h
  split at h
  · rename_i elt tg iter ifs a scope pos
    simp only [Bool.and_eq_true, beq_iff_eq, Bool.not_eq_true'] at h
    obtain ⟨⟨⟨⟨⟨⟨⟨rfl, c1⟩, c2⟩, c3⟩, c4⟩, c5⟩, c6⟩, c7⟩ := h
    refine ⟨elt, tg, iter, ifs, scope, pos, rfl, fun {y py spos i} hy hw hk => ?_⟩
    have ho : ∀ i ∈ tSlots t, i ∈ own := fun i hi => by
      have := List.all_eq_true.mp c7 i hi
      simpa using this
    unfold swapB at hw
    simp only [Bool.and_eq_true, Bool.not_eq_true'] at hw
    obtain ⟨⟨w1, w2⟩, w3⟩ := hw
    cases ifs with
    | nil =>
      refine s_setComp (no := true) g ((snd it).I g c2) c3 c1 c4 (fun _ => ?_) ho (fun X' g' => rfl) (fun X' g' => (snd e).E g' c6) hy w1 hk w2 w3
      unfold isYes
      exact c5
    | cons x xs =>
      cases xs with
      | nil => exact s_setComp (no := false) g ((snd it).I g c2) c3 c1 c4 (fun h => nomatch h) ho (fun X' g' => ⟨x, rfl, (snd c).T g' c5⟩) (fun X' g' => (snd e).E g' c6) hy w1 hk w2 w3
      | cons y ys => cases c5
  · cases h
theorem chk_comp {e : E} {x : Expr} (h : chkE G N sc raw e x = true) (hc : isCompE x = true) : ∃ own t it c el, e = .comp own t it c el := by
  cases x <;> first | cases hc; done | skip
  all_goals
    cases e with
    | comp own t it c el => exact ⟨_, _, _, _, _, rfl⟩
    | con d => cases d <;> cases h
    | glob x d => cases d <;> cases h
    | bi b es => cases b <;> cases h
    | isi a ts => exact (nomatch (Bool.and_eq_true_iff.mp h).2)
    | _ => cases h
theorem lclB_eq {x : Str} : lclB sc x = (sc.names.lookup x == some .local) := by
  unfold lclB
  cases h : sc.names.lookup x with
  | none => rfl
  | some k => cases k <;> rfl
theorem s_asg {i : Nat} {m : Bool} {e : E} {tg x : Expr} {spos : Pos} (g : GoodS Y call G k W sc N X) (ht : chkT N sc sc (.nm i m) tg = true) (h : chkE G N sc sc e x = true) :
    PS X (.Assign [tg] x spos) (tX X.K Y call n (.asg (.nm i m) e) W) := by
  unfold chkT at ht
  split at ht
  · rename_i i' m' y py heq
    cases heq
    have hk : X.env.scope.kind = .function := by rw [g.scope]; exact g.kind
    obtain ⟨h1, h2, h3⟩ := sto_of g.toGood ht
    have plain : swapsWith x (some (.Name y py)) spos.line X.env = pure false → PS X (.Assign [.Name y py] x spos) (tX X.K Y call n (.asg (.nm i m) e) W) := fun hs =>
      PS.imp (ps_set (by rw [g.names]; exact g.nd) h1 h2 ((snd e).E g.toGood h) hs h3) fun D σ H ⟨F0, φ0, H0, L, q⟩ => r_asg q
    by_cases hc : isCompE x = true
    · obtain ⟨own, t, it, c, el, rfl⟩ := chk_comp h hc
      obtain ⟨elt, tg, iter, ifs, scope, pos, rfl, hset⟩ := s_compOf g.toGood h
      by_cases hw : swapB sc (.Name y py) (.ListComp elt [⟨tg, iter, ifs, 0⟩] scope pos) = true
      · refine PS.imp (hset (i := i) ?_ hw hk) fun D σ H ⟨F0, φ0, H0, L, q⟩ => r_asg q
        unfold stoB at ht
        simp only [Bool.and_eq_true] at ht
        exact ht.1.1
      · refine plain ?_
        have hb : X.env.blockKind = .function := by unfold Env.blockKind; rw [hk]; rfl
        have e : swapsWith (.ListComp elt [⟨tg, iter, ifs, 0⟩] scope pos) (some (.Name y py)) spos.line X.env = pure (X.env.blockKind == .function && X.env.kindOf y == some .local && py.line == pos.line && !(scope.names.any fun (n, k) => n == y && (k == .local || k == .cell))) := rfl
        rw [e, hb]
        congr 1
        have e2 : X.env.kindOf y = sc.names.lookup y := by rw [← g.scope]; rfl
        rw [e2, ← lclB_eq]
        show (true && lclB sc y && py.line == pos.line && !(scope.names.any fun (n, k) => n == y && (k == .local || k == .cell))) = false
        rw [Bool.true_and]
        have e3 : swapB sc (.Name y py) (.ListComp elt [⟨tg, iter, ifs, 0⟩] scope pos) = false := by simpa using hw
        exact e3
    · exact plain (comp_of (by simpa using hc))
  · rename_i heq
    cases heq
  · cases ht
theorem s_asgT {is : List (Nat × Bool)} {e : E} {tg x : Expr} {spos : Pos} (g : GoodS Y call G k W sc N X) (ht : chkT N sc sc (.tp is) tg = true) (h : chkE G N sc sc e x = true) (hx : isTupE x = false) :
    PS X (.Assign [tg] x spos) (tX X.K Y call n (.asg (.tp is) e) W) := by
  have hg := pg_t g.toGood ht
  unfold chkT at ht
  split at ht
  · rename_i heq
    cases heq
  · refine PS.imp (ps_asg ((snd e).E g.toGood h) hg ?_ (tup_of hx) rfl) fun D σ H ⟨F0, φ0, H0, L, q⟩ => r_asgT q
    cases x <;> rfl
  · cases ht
theorem s_sub {i : Nat} {ix e : E} {x : Str} {kx v : Expr} {p p2 spos : Pos} (g : GoodS Y call G k W sc N X) (h1 : slotB N i x = true) (h2 : visB sc x = true) (h3 : noDbg x = true) (h4 : isSliceE kx = false) (h5 : isCompE v = false) (hi : chkE G N sc sc ix kx = true) (he : chkE G N sc sc e v = true) :
    PS X (.Assign [.Subscript (.Name x p) kx p2] v spos) (tX X.K Y call n (.sub i ix e) W) := by
  refine PS.imp (ps_asg ((snd e).E g.toGood he) (pg_sub (pe_var (i := i) (by rw [g.names]; exact slot_of h1) (by rw [g.scope]; exact vis_of h2) (dbg_of h3).1 (dbg_of h3).2) ((snd ix).E g.toGood hi) set_list ?_) (by unfold swapsWithSole; exact comp_of h5) ?_ rfl) fun D σ H ⟨F0, φ0, H0, L, q⟩ => r_sub q
  · intro v
    cases kx <;> first | rfl | cases h4
  · unfold swappedStores
    cases v <;> rfl
theorem bm_few {v : Expr} {cpos : Pos} {env : PySem.Env} (h : isStarE v = false) : ((backTo cpos (starEach [v] env)).all (fun x => !x.1) && (backToKw cpos (keywordEach [] env)).all (fun x => x.1.isSome)
      && decide ([v].length + ([] : List Keyword).length + (if ([] : List Keyword).isEmpty then 0 else 1) < 30)) = true := by
  rw [star_ne h]
  rfl
theorem s_app {i : Nat} {e : E} {x : Str} {v : Expr} {p ap cp spos : Pos} (g : GoodS Y call G k W sc N X) (h1 : slotB N i x = true) (h2 : visB sc x = true) (h3 : noDbg x = true) (h4 : isStarE v = false) (h5 : (ap.endLine == cp.line) = true) (he : chkE G N sc sc e v = true) :
    PS X (.Expr (.Call (.Attribute (.Name x p) "append" ap) [v] [] cp) spos) (tX X.K Y call n (.app i e) W) :=
  PS.imp (ps_expr (pe_bm PySem.F.plainAttrs_list PySem.F.slot_list_append PySem.F.type_list_append mt_append (pe_var (i := i) (by rw [g.names]; exact slot_of h1) (by rw [g.scope]; exact vis_of h2) (dbg_of h3).1 (dbg_of h3).2)
    (pa_cons ((snd e).E g.toGood he) pa_nil (star_ne h4)) rfl (bm_few h4) h5 (star_ne h4) rfl) rfl) fun D σ H ⟨F0, φ0, H0, L, q⟩ => r_app q
theorem s_ext {i : Nat} {e : E} {x : Str} {v : Expr} {p ap cp spos : Pos} (g : GoodS Y call G k W sc N X) (h1 : slotB N i x = true) (h2 : visB sc x = true) (h3 : noDbg x = true) (h4 : isStarE v = false) (h5 : (ap.endLine == cp.line) = true) (he : chkE G N sc sc e v = true) :
    PS X (.Expr (.Call (.Attribute (.Name x p) "extend" ap) [v] [] cp) spos) (tX X.K Y call n (.ext i e) W) :=
  PS.imp (ps_expr (pe_bm PySem.F.plainAttrs_list PySem.F.slot_list_extend PySem.F.type_list_extend mt_extend (pe_var (i := i) (by rw [g.names]; exact slot_of h1) (by rw [g.scope]; exact vis_of h2) (dbg_of h3).1 (dbg_of h3).2)
    (pa_cons ((snd e).E g.toGood he) pa_nil (star_ne h4)) rfl (bm_few h4) h5 (star_ne h4) rfl) rfl) fun D σ H ⟨F0, φ0, H0, L, q⟩ => r_ext q

structure SndS (Y : ExT) (call : CallF) (G : Glob) (k : Nat) (n : Nat) (s : S) : Prop where
  one : ∀ {W : XK} {sc : Scope} {N : List Str} {X : L2.Cx} {x : Stmt}, isSeq s = false → GoodS Y call G k W sc N X → chkSs G N sc sc s [x] = true → PS X x (tX X.K Y call n s W)
  all : ∀ {W : XK} {sc : Scope} {N : List Str} {X : L2.Cx} {xs : List Stmt}, GoodS Y call G k W sc N X → chkSs G N sc sc s xs = true → PSs X xs (tX X.K Y call n s W)
theorem SndS.of {s : S} (h : ∀ {W : XK} {sc : Scope} {N : List Str} {X : L2.Cx} {xs : List Stmt}, GoodS Y call G k W sc N X → chkSs G N sc sc s xs = true → ∃ x, xs = [x] ∧ PS X x (tX X.K Y call n s W)) : SndS Y call G k n s where
  one := fun _ g c => by
    obtain ⟨y, e, p⟩ := h g c
    cases e
    exact p
  all := fun g c => by
    obtain ⟨y, rfl, p⟩ := h g c
    exact pss_one p
theorem then_post {K : PySem.W.Frag} {F0 : Hp} {φ0 : List Addr} {H0 L : Hp} {a b : S} {ρ : Env} {st : Store} {D' : Ends} (p : PostS K Y W F0 φ0 H0 L ((exS call n a ρ st).then fun ρ st => exS call n b ρ st) D') :
    PostS K Y W F0 φ0 H0 L (exS call n a ρ st) { D' with nx := tX K Y call n b W D' } := by
  cases h : exS call n a ρ st with
  | nx ρ st => rw [h] at p; exact fun F φ σ H s => ⟨F0, φ0, H0, L, F, φ, ρ, st, s, p⟩
  | bk ρ st => rw [h] at p; exact p
  | rt d st => rw [h] at p; exact p
  | ex x st => rw [h] at p; exact p
  | bad => rw [h] at p; exact p
theorem sndS : ∀ s : S, SndS Y call G k n s
  | .pass => {
      one := fun _ g c => by
        unfold chkSs at c
        split at c
        · rename_i heq; cases heq
        · rename_i heq
          cases heq
          exact PS.imp ps_pass fun D σ H ⟨F0, φ0, H0, L, F, φ, ρ, st, s, p⟩ => by
            rw [exS] at p
            exact p _ _ _ _ s
        · cases c
      all := fun {_ _ _ _ xs} g c => by
        unfold chkSs at c
        split at c
        · exact PSs.imp pss_nil fun D σ H ⟨F0, φ0, H0, L, F, φ, ρ, st, s, p⟩ => by
            rw [exS] at p
            exact p _ _ _ _ s
        · exact pss_one (PS.imp ps_pass fun D σ H ⟨F0, φ0, H0, L, F, φ, ρ, st, s, p⟩ => by
            rw [exS] at p
            exact p _ _ _ _ s)
        · cases c }
  | .seq a b => {
      one := fun h => nomatch h
      all := fun {_ _ _ _ xs} g c => by
        unfold chkSs at c
        rcases Bool.or_eq_true_iff.mp c with c2 | c2
        · simp only [Bool.and_eq_true] at c2
          obtain ⟨hf, c3⟩ := c2
          cases a with
          | frz i =>
            refine PSs.imp ((sndS b).all g c3) fun D σ H ⟨F0, φ0, H0, L, F, φ, ρ, st, s, p⟩ => ?_
            rw [exS, exS] at p
            unfold frzM at p
            cases e : getM ρ i with
            | none => rw [e] at p; exact ⟨F0, φ0, H0, L, F, φ, ρ, st, s, p⟩
            | some zs =>
              rw [e] at p
              obtain ⟨F2, s2⟩ := s.frz (getM_of e)
              exact ⟨F0, φ0, H0, L, F2, φ, _, st, s2, p⟩
          | _ => cases hf
        · simp only [Bool.and_eq_true, Bool.not_eq_true'] at c2
          obtain ⟨hq, c3⟩ := c2
          split at c3
          · simp only [Bool.and_eq_true] at c3
            refine PSs.imp (pss_cons ((sndS a).one hq g c3.1) ((sndS b).all g c3.2)) fun D σ H ⟨F0, φ0, H0, L, F, φ, ρ, st, s, p⟩ => ?_
            rw [exS] at p
            exact ⟨F0, φ0, H0, L, F, φ, ρ, st, s, then_post p⟩
          · cases c3 }
  | .asg t e => .of fun g c => by
      unfold chkSs at c
      split at c
      · simp only [Bool.and_eq_true, Bool.not_eq_true'] at c
        obtain ⟨⟨c1, c2⟩, c3⟩ := c
        cases t with
        | nm i m => exact ⟨_, rfl, s_asg g c1 c2⟩
        | tp is =>
          refine ⟨_, rfl, s_asgT g c1 c2 ?_⟩
          unfold chkT at c1
          split at c1
          · rename_i heq
            cases heq
          · simpa [isTupE] using c3
          · cases c1
      · cases c
  | .par ts es => .of fun g c => by
      unfold chkSs at c
      split at c
      · simp only [Bool.and_eq_true, beq_iff_eq] at c
        obtain ⟨⟨⟨c1, c2⟩, c3⟩, c4⟩ := c
        exact ⟨_, rfl, PS.imp (ps_parB g.toGood g.kind c1 c2 c3 c4) fun D σ H ⟨F0, φ0, H0, L, q⟩ => r_par q⟩
      · cases c
  | .sub i ix e => .of fun g c => by
      unfold chkSs at c
      split at c
      · simp only [Bool.and_eq_true, Bool.not_eq_true'] at c
        obtain ⟨⟨⟨⟨⟨⟨c1, c2⟩, c3⟩, c4⟩, c5⟩, c6⟩, c7⟩ := c
        exact ⟨_, rfl, s_sub g c1 c2 c3 c4 c5 c6 c7⟩
      · cases c
  | .app i e => .of fun g c => by
      unfold chkSs at c
      split at c
      · simp only [Bool.and_eq_true, Bool.not_eq_true', beq_iff_eq] at c
        obtain ⟨⟨⟨⟨⟨⟨rfl, c2⟩, c3⟩, c4⟩, c5⟩, c6⟩, c7⟩ := c
        exact ⟨_, rfl, s_app g c2 c3 c4 c5 (by rw [beq_iff_eq]; exact c6) c7⟩
      · cases c
  | .ext i e => .of fun g c => by
      unfold chkSs at c
      split at c
      · simp only [Bool.and_eq_true, Bool.not_eq_true', beq_iff_eq] at c
        obtain ⟨⟨⟨⟨⟨⟨rfl, c2⟩, c3⟩, c4⟩, c5⟩, c6⟩, c7⟩ := c
        exact ⟨_, rfl, s_ext g c2 c3 c4 c5 (by rw [beq_iff_eq]; exact c6) c7⟩
      · cases c
  | .expr e => .of fun g c => by
      unfold chkSs at c
      split at c
      · simp only [Bool.and_eq_true, Bool.not_eq_true'] at c
        exact ⟨_, rfl, PS.imp (ps_expr ((snd e).E g.toGood c.2) (comp_of c.1)) fun D σ H ⟨F0, φ0, H0, L, q⟩ => r_expr q⟩
      · cases c
  | .ite c a b => .of fun g h => by
      unfold chkSs at h
      split at h
      · simp only [Bool.and_eq_true] at h
        obtain ⟨⟨c1, c2⟩, c3⟩ := h
        refine ⟨_, rfl, PS.imp (ps_if ((snd c).T g.toGood c1) ((sndS a).all g c2) ((sndS b).all g c3)) fun D σ H ⟨F0, φ0, H0, L, q⟩ => ?_⟩
        obtain ⟨F, φ, ρ, st, B, V, p⟩ := r_ite q
        refine ⟨F, φ, ρ, st, B, V, p.mono fun t st1 F1 φ1 H1 S1 B1 z => ?_⟩
        cases t with
        | true => exact ⟨F0, φ0, H0, L, z⟩
        | false => exact ⟨F0, φ0, H0, L, z⟩
      · cases h
  | .for t it b => .of fun g h => by
      unfold chkSs at h
      split at h
      · simp only [Bool.and_eq_true, Bool.not_eq_true'] at h
        obtain ⟨⟨⟨c1, c2⟩, c3⟩, c4⟩ := h
        exact ⟨_, rfl, PS.imp (ps_for g.po g.calm ((snd it).I g.toGood c3) (pg_t g.toGood c1) ((sndS b).all g c4) (fun x => set_ne c2)) fun D σ H q => r_for q⟩
      · cases h
  | .whl c b => .of fun g h => by
      unfold chkSs at h
      split at h
      · simp only [Bool.and_eq_true] at h
        obtain ⟨c1, c2⟩ := h
        refine ⟨_, rfl, PS.imp (ps_while g.po ((snd c).T g.toGood c1) ((sndS b).all g c2)) fun D σ H ⟨F0, φ0, H0, L, q⟩ => ?_⟩
        obtain ⟨Wf, w0, turn⟩ := r_whl q
        refine ⟨Wf, w0, fun m σ H w => ?_⟩
        obtain ⟨F, φ, ρ, st, B, V, p⟩ := turn m σ H w
        refine ⟨F, φ, ρ, st, B, V, p.mono fun t st1 F1 φ1 H1 S1 B1 z => ?_⟩
        cases t with
        | true =>
          obtain ⟨Nf, hN, z2⟩ := z
          exact ⟨Nf, hN, F0, φ0, H0, L, z2⟩
        | false => exact z
      · cases h
  | .ret e => .of fun g c => by
      unfold chkSs at c
      split at c
      · exact ⟨_, rfl, PS.imp (ps_ret ((snd e).E g.toGood c)) fun D σ H ⟨F0, φ0, H0, L, q⟩ => r_ret q⟩
      · cases c
  | .brk => .of fun g c => by
      unfold chkSs at c
      split at c
      · exact ⟨_, rfl, PS.imp ps_break fun D σ H ⟨F0, φ0, H0, L, F, φ, ρ, st, s, p⟩ => by
          rw [exS] at p
          exact p _ _ _ _ s⟩
      · cases c
  | .never => .of fun g c => by
      unfold chkSs at c
      split at c
      · exact ⟨_, rfl, PS.imp ps_never fun D σ H ⟨F0, φ0, H0, L, F, φ, ρ, st, s, p⟩ => by
          rw [exS] at p
          exact p⟩
      · cases c
  | .rais c e => .of fun g h => by
      unfold chkSs at h
      split at h
      · simp only [Bool.and_eq_true, Bool.not_eq_true', List.any_eq_true, beq_iff_eq] at h
        obtain ⟨⟨⟨⟨⟨q, hq, rfl, rfl⟩, h2⟩, h3⟩, h4⟩, h5⟩ := h
        obtain ⟨C, fI, fd, j, U, T, rfl, i1, i2, i3, i4⟩ := g.prg.er q.1 q.2.1 q.2.2 hq
        exact ⟨_, rfl, PS.imp (ps_raise g.calm g.tk (pmk_oex T i1 i2 i3 g.room i4 .nil (fun pins σ H s e s' I hx => g.pass pins σ H s e s' I (by
          obtain ⟨_, _, _, _, _, _, _, _, _, _, _, _, z⟩ := hx
          exact False.elim z)) (g.gl h2) U.mgx (pa_cons ((snd e).E g.toGood h5) pa_nil (star_ne h4)) (dbg_of h3).1 (star_ne h4) (star_no fun e he => by cases he))) fun D σ H ⟨F0, φ0, H0, L, z⟩ => r_rais U.y z⟩
      · cases h
  | .tryR t ci ei e c pre => {
      one := fun {_ _ _ _ x} _ g h => by
        unfold chkSs at h
        simp only [List.any_eq_true, Bool.and_eq_true] at h
        obtain ⟨q, hq, _, h⟩ := h
        unfold tryB at h
        split at h
        · rename_i heq; cases heq
        · cases h
      all := fun g h => by
        unfold chkSs at h
        simp only [List.any_eq_true, Bool.and_eq_true, beq_iff_eq] at h
        obtain ⟨q, hq, rfl, h⟩ := h
        obtain ⟨C, fI, fd, j, U, _⟩ := g.prg.er q.1 q.2.1 q.2.2 hq
        refine PSs.imp (snd_try (n := n) g (fun {W X b} g h => ?_) U h) fun D σ H ⟨F0, φ0, H0, L, F, φ, ρ, st, s, p⟩ => ⟨F0, φ0, H0, L, F, φ, ρ, st, s, by rw [exTry_eq (ei := ei)]; exact p⟩
        unfold tryE at h
        split at h
        · cases t with
          | some t =>
            simp only [Bool.and_eq_true, Bool.not_eq_true'] at h
            exact s_asg g h.1.1 h.1.2
          | none => cases h
        · cases t with
          | some t => cases h
          | none =>
            simp only [Bool.and_eq_true, Bool.not_eq_true'] at h
            exact PS.imp (ps_expr ((snd e).E g.toGood h.2) (comp_of h.1)) fun D σ H ⟨F0, φ0, H0, L, q⟩ => r_expr q
        · cases h }
  | .frz i => .of fun g c => by
      unfold chkSs at c
      cases c
end
end Gb

/-! How arguments are bound. -/
namespace Gb
open PySem PySem.Spec PyProof.Rows L2

def plainA (as : List Arg) : Arguments := ⟨[], as, none, [], [], none, []⟩
theorem seq_none : seqItems? Value.none = pure none := rfl
theorem look_zip : ∀ {ps : List Str} {us : List Value}, ps.Nodup → us.length = ps.length → ps.filterMap (fun n => ((ps.zip us).lookup n).map (n, ·)) = ps.zip us ∧ ∀ n ∈ ps, ((ps.zip us).lookup n).isNone = false := by
  have key : ∀ (qs : List Str) (us : List Value) (L : List (Str × Value)), qs.Nodup → us.length = qs.length → (∀ (i : Nat) (n : Str) (v : Value), qs[i]? = some n → us[i]? = some v → L.lookup n = some v) → qs.filterMap (fun n => (L.lookup n).map (n, ·)) = qs.zip us ∧ ∀ n ∈ qs, (L.lookup n).isNone = false := by
    intro qs
    induction qs with
    | nil => intro us L _ _ _; exact ⟨rfl, fun n h => nomatch h⟩
    | cons q qs ih =>
      intro us L nd hl h
      cases us with
      | nil => cases hl
      | cons u us =>
        have h0 := h 0 q u rfl rfl
        obtain ⟨h1, h2⟩ := ih us L (List.nodup_cons.mp nd).2 (Nat.succ.inj hl) fun i n v e1 e2 => h (i + 1) n v (by simpa using e1) (by simpa using e2)
        refine ⟨?_, fun n hn => ?_⟩
        · rw [List.filterMap_cons, h0]
          show (q, u) :: _ = (q, u) :: _
          rw [h1]
          rfl
        · rcases List.mem_cons.mp hn with rfl | hn
          · rw [h0]; rfl
          · exact h2 n hn
  intro ps us nd hl
  refine key ps us _ nd hl fun i n v e1 e2 => ?_
  clear key
  induction ps generalizing us i with
  | nil => simp at e1
  | cons q qs ih =>
    cases us with
    | nil => cases hl
    | cons u us =>
      rw [List.zip_cons_cons, List.lookup_cons]
      cases i with
      | zero =>
        simp at e1 e2
        subst e1
        subst e2
        simp
      | succ i =>
        have hn : n ∈ qs := List.mem_of_getElem? (by simpa using e1)
        have hne : n ≠ q := by rintro rfl; exact (List.nodup_cons.mp nd).1 hn
        rw [beq_eq_false_iff_ne.mpr hne]
        exact ih (List.nodup_cons.mp nd).2 (Nat.succ.inj hl) i (by simpa using e1) (by simpa using e2)
theorem bind_pos {fd : FuncData} {us : List Value} {as : List Arg} (hp : fd.params = plainA as) (hd : fd.defaults = .none) (hl : us.length = (as.map (·.arg)).length) (nd : (as.map (·.arg)).Nodup) : bindArgs fd ⟨us, []⟩ = pure ((as.map (·.arg)).zip us) := by
  obtain ⟨h1, h2⟩ := look_zip nd hl
  have h3 : ((as.map (·.arg)).filter fun n => (((as.map (·.arg)).zip us).lookup n).isNone) = [] := by
    rw [List.filter_eq_nil_iff]
    intro n hn
    rw [h2 n hn]
    decide
  unfold bindArgs
  rw [hp, hd, seq_none]
  unfold plainA
  dsimp only
  simp only [List.map_nil, List.nil_append, List.append_nil, List.forIn_nil, pure_bind, Option.getD_none, Array.toList_empty, List.drop_nil, List.length_nil, Nat.sub_zero, List.take_length, List.drop_length, List.zip_nil_left, List.isEmpty_nil, Bool.not_true, Bool.false_eq_true, if_false, Option.isNone_none, Bool.and_true, hl, gt_iff_lt, Nat.lt_irrefl, decide_false]
  rw [h3, h1, if_neg (by decide)]
theorem lookup_app {L : List (Str × Value)} {k n : Str} {v : Value} (h : L.lookup n = none) (hne : n ≠ k) : (L ++ [(k, v)]).lookup n = none := by
  induction L with
  | nil =>
    show List.lookup n [(k, v)] = none
    rw [List.lookup_cons, beq_eq_false_iff_ne.mpr hne]
    rfl
  | cons x xs ih =>
    obtain ⟨a, b⟩ := x
    rw [List.cons_append, List.lookup_cons] at *
    cases e : n == a with
    | true => rw [e] at h; cases h
    | false => rw [e] at h; exact ih h
theorem kw_loop {names : List Str} {f : Str × Value → List (Str × Value) × List (Str × Value) → Sem (ForInStep (List (Str × Value) × List (Str × Value)))}
    (hf : ∀ x s, names.contains x.1 = true → s.1.lookup x.1 = none → f x s = pure (.yield (s.1 ++ [(x.1, x.2)], s.2))) : ∀ (kws : List (Str × Value)) (s0 e : List (Str × Value)), (∀ x ∈ kws, names.contains x.1 = true) → (kws.map (·.1)).Nodup → (∀ x ∈ kws, s0.lookup x.1 = none) →
    forIn kws (s0, e) f = (pure (s0 ++ kws, e) : Sem _)
  | [], s0, e, _, _, _ => by rw [List.forIn_nil, List.append_nil]
  | x :: kws, s0, e, h1, h2, h3 => by
    rw [List.forIn_cons, hf x (s0, e) (h1 x List.mem_cons_self) (h3 x List.mem_cons_self)]
    rw [pure_bind]
    show forIn kws (s0 ++ [(x.1, x.2)], e) f = _
    rw [kw_loop hf kws _ e (fun y hy => h1 y (List.mem_cons_of_mem _ hy)) (List.nodup_cons.mp h2).2 fun y hy => ?_]
    · rw [List.append_assoc]
      rfl
    · refine lookup_app (h3 y (List.mem_cons_of_mem _ hy)) ?_
      intro z
      refine (List.nodup_cons.mp h2).1 ?_
      show x.1 ∈ _
      rw [← z]
      exact List.mem_map_of_mem hy
theorem bind_kw {fd : FuncData} {ks : List Str} {ws us : List Value} {as : List Arg} (hp : fd.params = plainA as) (hd : fd.defaults = .none) (hk : ws.length = ks.length) (hl : us.length = (as.map (·.arg)).length) (nd : (as.map (·.arg)).Nodup) (ndk : ks.Nodup)
    (hs : ∀ k ∈ ks, k ∈ as.map (·.arg)) (hb : (as.map (·.arg)).filterMap (fun n => ((ks.zip ws).lookup n).map (n, ·)) = (as.map (·.arg)).zip us) (hn : ∀ n ∈ as.map (·.arg), ((ks.zip ws).lookup n).isNone = false) : bindArgs fd ⟨[], ks.zip ws⟩ = pure ((as.map (·.arg)).zip us) := by
  have h3 : ((as.map (·.arg)).filter fun n => ((ks.zip ws).lookup n).isNone) = [] := by
    rw [List.filter_eq_nil_iff]
    intro n h
    rw [hn n h]
    decide
  unfold bindArgs
  rw [hp, hd, seq_none]
  unfold plainA
  dsimp only
  simp only [List.map_nil, List.nil_append, List.append_nil, List.forIn_nil, pure_bind, Option.getD_none, Array.toList_empty, List.drop_nil, List.length_nil, Nat.sub_zero, List.take_length, List.drop_length, List.zip_nil_left, List.zip_nil_right, List.isEmpty_nil, Bool.not_true, Bool.false_eq_true, if_false, Option.isNone_none, Bool.and_true, gt_iff_lt, Nat.not_lt_zero, decide_false]
  rw [kw_loop (names := as.map (·.arg)) (fun x s hx hs => by
    rw [if_pos (by rw [hx]; rfl), if_neg (by rw [hs]; decide)]) (ks.zip ws) [] [] (fun x hx => ?_) ?_ (fun x hx => rfl)]
  · rw [pure_bind]
    show (if (!((as.map (·.arg)).filter fun n => (([] ++ ks.zip ws).lookup n).isNone).isEmpty) = true then _ else pure ((as.map (·.arg)).filterMap (fun n => (([] ++ ks.zip ws).lookup n).map (n, ·)))) = _
    rw [List.nil_append, h3, if_neg (by decide), hb]
  · show ((ks.zip ws).map Prod.fst).Nodup
    rw [List.map_fst_zip (by omega)]
    exact ndk
  · exact List.contains_iff_mem.mpr (hs x.1 (List.of_mem_zip hx).1)
/-- the parameters' places among the keywords -/
def permB (ks : List Str) : List Str → List Nat → Bool
  | [], [] => true
  | p :: ps, i :: r => (match ks[i]? with
    | some k => k == p
    | none => false) && permB ks ps r
  | _, _ => false
theorem zip_look {ks : List Str} {ws : List Value} {i : Nat} {k : Str} {w : Value} (nd : ks.Nodup) (h1 : ks[i]? = some k) (h2 : ws[i]? = some w) : (ks.zip ws).lookup k = some w := by
  induction ks generalizing ws i with
  | nil => simp at h1
  | cons q qs ih =>
    cases ws with
    | nil => simp at h2
    | cons u us =>
      rw [List.zip_cons_cons, List.lookup_cons]
      cases i with
      | zero =>
        simp at h1 h2
        subst h1
        subst h2
        simp
      | succ i =>
        have hn : k ∈ qs := List.mem_of_getElem? (by simpa using h1)
        have hne : k ≠ q := by rintro rfl; exact (List.nodup_cons.mp nd).1 hn
        rw [beq_eq_false_iff_ne.mpr hne]
        exact ih (List.nodup_cons.mp nd).2 (by simpa using h1) (by simpa using h2)
theorem perm_look {ks : List Str} {ws : List Value} (nd : ks.Nodup) : ∀ {ps : List Str} {perm : List Nat} {us : List Value}, permB ks ps perm = true → permV ws perm = some us →
    us.length = ps.length ∧ ps.filterMap (fun n => ((ks.zip ws).lookup n).map (n, ·)) = ps.zip us ∧ ∀ n ∈ ps, ((ks.zip ws).lookup n).isNone = false
  | [], [], us, _, h => by cases h; exact ⟨rfl, rfl, fun n h => nomatch h⟩
  | [], _ :: _, us, h, _ => by cases h
  | _ :: _, [], us, h, _ => by cases h
  | p :: ps, i :: r, us, h, h2 => by
    unfold permB at h
    unfold permV at h2
    simp only [Bool.and_eq_true] at h
    obtain ⟨h3, h4⟩ := h
    split at h3
    · rename_i k hk
      rw [beq_iff_eq] at h3
      subst h3
      split at h2
      · rename_i w us' hw hus
        cases h2
        obtain ⟨i1, i2, i3⟩ := perm_look nd h4 hus
        have h5 := zip_look nd hk hw
        refine ⟨congrArg (· + 1) i1, ?_, fun n hn => ?_⟩
        · rw [List.filterMap_cons, h5]
          show (k, w) :: _ = (k, w) :: _
          rw [i2]
          rfl
        · rcases List.mem_cons.mp hn with rfl | hn
          · rw [h5]; rfl
          · exact i3 n hn
      · cases h2
    · cases h3
theorem bind_perm {fd : FuncData} {ks : List Str} {ws us : List Value} {as : List Arg} {perm : List Nat} (hp : fd.params = plainA as) (hd : fd.defaults = .none) (hk : ws.length = ks.length) (nd : (as.map (·.arg)).Nodup) (ndk : ks.Nodup)
    (hs : ks.all (as.map (·.arg)).contains = true) (hb : permB ks (as.map (·.arg)) perm = true) (hu : permV ws perm = some us) : bindArgs fd ⟨[], ks.zip ws⟩ = pure ((as.map (·.arg)).zip us) := by
  obtain ⟨h1, h2, h3⟩ := perm_look ndk hb hu
  exact bind_kw hp hd hk h1 nd ndk (fun k h => List.contains_iff_mem.mp (List.all_eq_true.mp hs k h)) h2 h3
end Gb

/-! What has to be known of an own error, read from the heap. -/
namespace Gb
open PySem PySem.Spec PyProof.Rows L2

/-- an own error: its global name, its number, its field; its __init__ -/
structure ErrD where
  cls : Str
  num : Nat
  fld : Str
  qual : Str
  params : Arguments
  body : List Stmt
  scope : Scope
  file : Str
/-- a class's __init__ in its text -/
def isIni : Stmt → Bool
  | .FunctionDef x _ _ _ _ _ _ _ _ _ => x == ("__init__" : Str)
  | _ => false
def iniOf (st : Stmt) : Stmt := match st with
  | .ClassDef _ _ _ b _ _ _ _ _ _ _ => (b.find? isIni).getD (.Pass ⟨0, 0, 0, 0⟩)
  | _ => .Pass ⟨0, 0, 0, 0⟩
abbrev ErrD.C (K : PySem.W.Frag) (d : ErrD) : Addr := He.ga K d.cls
abbrev ErrD.I (K : PySem.W.Frag) (d : ErrD) : Addr := He.ma K (He.ga K d.cls) "__init__"
def exClsB (K : PySem.W.Frag) (C : Addr) : Bool := match K.lookup C with
  | some ⟨.type "type", _, .cls cd, sl⟩ => (match cd.mro, sl.toList with
    | .ref C' :: bm, [_, _, _, _, some (.builtin n), _] => C' == C && n == "ValueError.__new__" && !cd.hasDel && cd.hasDict && PySem.HandSPX.refsVE bm
    | _, _ => false)
  | _ => false
def iniFnB (K : PySem.W.Frag) (C I : Addr) (qual file : Str) : Bool := match K.lookup I with
  | some ⟨_, _, .func fd, _⟩ => (match fd.closure, fd.code with
    | [(x, cc)], .ref cda => x == ("__class__" : Str) && PySem.W.codeIn K (.ref cda) qual && decide (fd.defaults = .none) &&
      (match K.lookup cda with
        | some ⟨_, _, .fields vs, _⟩ => (match (vs[2]? : Option Value) with
          | some (.str f _) => f == file
          | _ => false)
        | _ => false) &&
      (match K.lookup cc with
        | some ⟨_, _, .cell (some (.ref c)), _⟩ => c == C
        | _ => false)
    | _, _ => false)
  | _ => false
def errB (K : PySem.W.Frag) (d : ErrD) : Bool :=
  exClsB K (d.C K) && He.eqO (PySem.W.findIn K (.ref (d.C K)) "__setattr__") (some (some (.builtin "object.__setattr__"))) && decide (PySem.W.subIn K (.ref (d.C K)) (.type "BaseException") = some true) &&
  decide (PySem.W.typeIn K (.ref (d.C K)) = some (.type "type")) && PySem.W.keepIn K (.ref (d.C K)) && He.eqO (PySem.W.findIn K (.ref (d.C K)) "__init__") (some (some (.ref (d.I K)))) && He.eqO (PySem.W.findIn K (.ref (d.C K)) d.fld) (some none) &&
  decide (PySem.W.typeIn K (.ref (d.I K)) = some (.type "function")) && iniFnB K (d.C K) (d.I K) d.qual d.file && decide (PySem.W.mroIn K (d.C K) (.ref (d.C K)) = some true) && decide (PySem.W.subIn K (.ref (d.C K)) (.type "ValueError") = some true) &&
  He.eqO (PySem.W.nsIn K mainGlobals "super") (some none) && He.eqO (PySem.W.nsIn K cStatics "thirdparty.any") (some none) && decide (PySem.W.ks_superIn K (d.C K) (d.C K) "__init__" = some (some (.builtin "ValueError.__init__"))) &&
  decide (PySem.W.exmOne K (.ref (d.C K)) (.ref (d.C K)) = some true) && xfB K (d.C K) && He.eqO (PySem.W.findIn K (.ref (d.C K)) "__class__") (some (some (.builtin "object.__class__"))) &&
  He.eqO (PySem.W.specialIn K (.builtin "object.__class__") "__get__") (some (some (.builtin "getset_descriptor.__get__"))) && decide (PySem.W.takesIn K (.builtin "object.__class__") = some true) && decide (PySem.W.mroIn K (d.C K) (.type "object") = some true) &&
  decide (PySem.W.kitOne K (.ref (d.C K)) (.type "ValueError") = some true) && He.eqO (PySem.W.nsIn K mainGlobals "ValueError") (some none) && He.eqO (PySem.W.nsIn K mainGlobals d.cls) (some (some (.ref (d.C K))))
abbrev ErrW : Type := Option (Str × Arguments × FuncBody × Scope × Addr × Addr)
def errW (K : PySem.W.Frag) (d : ErrD) : ErrW := match K.lookup (d.I K) with
  | some ⟨_, _, .func fd, _⟩ => some (fd.qualname, fd.params, fd.body, fd.scope, fd.globals, fd.builtins)
  | _ => none
def ErrD.val (d : ErrD) : ErrW := some (d.qual, d.params, .stmts d.body, d.scope, mainGlobals, builtinsNs)

/-! ### the Hook -/
abbrev AlE : Type := He.AlD × Bool × List ErrW
def obsE (fa : List He.Fa) (fn : List He.DefD) (es : List ErrD) (K : PySem.W.Frag) : AlE := (He.obsD fa fn K, es.all (errB K), es.map (errW K))
def valE (fn : List He.DefD) (es : List ErrD) : AlE := (He.valD fn, true, es.map ErrD.val)
def SaysE (fa : List He.Fa) (fn : List He.DefD) (es : List ErrD) (K : PySem.W.Frag) : Prop := obsE fa fn es K = valE fn es
def obsEG (n : Nat) (fa : List He.Fa) (fn : List He.DefD) (es : List ErrD) (g : Addr → Option Obj) : AlE := obsE fa fn es (He.frG g (cStatics :: He.asD g n))
def hookE (n : Nat) (fa : List He.Fa) (fn : List He.DefD) (es : List ErrD) : PySem.W.Hook where
  α := AlE
  obs := fun s => obsEG n fa fn es s.heap.get?
  val := fun _ => valE fn es
  says := fun _ h => ∃ K : PySem.W.Frag, K.In h ∧ SaysE fa fn es K
  of := fun _ _ e => ⟨_, He.frG_in, e⟩
  keeps := fun _ _ _ ⟨K, hK, c⟩ k => ⟨K, PySem.W.Frag.In.keeps hK k, c⟩
theorem obsEG_eq {n : Nat} {fa : List He.Fa} {fn : List He.DefD} {es : List ErrD} {g : Addr → Option Obj} {s : Shared} (h : ∀ a, g a = s.heap.get? a) : obsEG n fa fn es g = (hookE n fa fn es).obs s := by
  have e : g = s.heap.get? := funext h
  rw [e] <;> rfl
section
variable {fa : List He.Fa} {fn : List He.DefD} {es : List ErrD} {K : PySem.W.Frag}
theorem SaysE.d (c : SaysE fa fn es K) : He.SaysD fa fn K := congrArg (fun z : AlE => z.1) c
theorem SaysE.err (c : SaysE fa fn es K) {d : ErrD} (h : d ∈ es) : errB K d = true ∧ errW K d = d.val := by
  have h1 : es.all (errB K) = true := congrArg (fun z : AlE => z.2.1) c
  have h2 : es.map (errW K) = es.map ErrD.val := congrArg (fun z : AlE => z.2.2) c
  refine ⟨List.all_eq_true.mp h1 d h, ?_⟩
  obtain ⟨i, hi⟩ := List.getElem?_of_mem h
  have e2 : (es.map (errW K))[i]? = (es.map ErrD.val)[i]? := by rw [h2]
  rw [List.getElem?_map, List.getElem?_map, hi] at e2
  exact Option.some.inj e2
end

/-! ### what follows -/
theorem exCls_of {K : PySem.W.Frag} {C : Addr} (q : exClsB K C = true) : ∃ nm qn N bs bm sn sub ab col dd k0 k1 k2 k3 k5, K.lookup C = some (excClassObj nm qn C N bs bm true sn sub ab col dd k0 k1 k2 k3 k5 "ValueError.__new__") ∧ PySem.HandSPX.refsVE bm = true := by
  unfold exClsB at q
  split at q
  · rename_i dd cd sl ho
    split at q
    · rename_i C' bm k0 k1 k2 k3 n k5 hm hs
      simp only [Bool.and_eq_true, beq_iff_eq, Bool.not_eq_true'] at q
      obtain ⟨⟨⟨⟨rfl, rfl⟩, hdel⟩, hdct⟩, ht⟩ := q
      obtain ⟨nm, bs, mro, ns, qn, hd, sn, sub, ab, col, del⟩ := cd
      dsimp only at hm hdel hdct
      subst hm hdel hdct
      have hsl : sl = #[k0, k1, k2, k3, some (.builtin "ValueError.__new__"), k5] := by
        obtain ⟨l⟩ := sl
        simp only at hs
        rw [hs]
      subst hsl
      exact ⟨nm, qn, ns, bs, bm, sn, sub, ab, col, dd, k0, k1, k2, k3, k5, ho, ht⟩
    · cases q
  · cases q
/-- all that the head tells of an own error -/
structure ErrAll (P : Program) (K : PySem.W.Frag) (mg : Str → Option Value) (Y : ExT) (d : ErrD) : Prop where
  ini : ∃ fd, ErrK P K (d.C K) (d.I K) d.fld d.body fd d.scope ∧ fd.params = d.params ∧ fd.defaults = .none
  use : Y d.num = some (d.C K, some d.fld) → ErrU K mg Y d.num d.cls (d.C K) d.fld
theorem err_all {P : Program} {K : PySem.W.Frag} {mg : Str → Option Value} {h : Heap} {Y : ExT} {d : ErrD} (X : K.In h) (G : h.Ns mainGlobals mg) (hb : errB K d = true) (hw : errW K d = d.val) (hfile : ((P.main.file : Str) == d.file) = true)
    (hself : (d.params.posonlyargs ++ d.params.args).head?.map (·.arg) = some ("self" : Str)) (top : (P.main.scope.names.lookup ("super" : Str)).isSome = false) : ErrAll P K mg Y d := by
  unfold errB at hb
  simp only [Bool.and_eq_true, decide_eq_true_eq] at hb
  obtain ⟨⟨⟨⟨⟨⟨⟨⟨⟨⟨⟨⟨⟨⟨⟨⟨⟨⟨⟨⟨⟨⟨b1, b2⟩, b3⟩, b4⟩, b5⟩, b6⟩, b7⟩, b8⟩, b9⟩, b10⟩, b11⟩, b12⟩, b13⟩, b14⟩, b15⟩, b16⟩, b17⟩, b18⟩, b19⟩, b20⟩, b21⟩, b22⟩, b23⟩ := hb
  have xf := xfB_ok b16
  refine ⟨?_, fun hy => ⟨hy, PySem.W.mg_of X G (He.eqO_ok b23), PySem.W.mg_none_of X G (He.eqO_ok b22), b15, xf, He.eqO_ok b7, ⟨xf.ga, xf.gg, b3, xf.hdC, He.eqO_ok b17, He.eqO_ok b18, b19, b20⟩, b21⟩⟩
  unfold iniFnB at b9
  unfold errW at hw
  cases q : K.lookup (d.I K) with
  | none => rw [q] at hw; cases hw
  | some o =>
    obtain ⟨oc, od, dt, osl⟩ := o
    rw [q] at b9 hw
    cases dt with
    | func fd =>
      obtain ⟨n1, n2, n3, n4, n5, n6, n7, n8, n9, n10, n11, n12, n13, n14, n15⟩ := fd
      have e2 : (some (n2, n3, n4, n5, n6, n15) : ErrW) = some (d.qual, d.params, .stmts d.body, d.scope, mainGlobals, builtinsNs) := hw
      simp only [Option.some.injEq, Prod.mk.injEq] at e2
      obtain ⟨h2, h3, h4, h5, h6, h8⟩ := e2
      subst h2 h3 h4 h5 h6 h8
      dsimp only at b9
      split at b9
      · rename_i x cc cda
        simp only [Bool.and_eq_true, beq_iff_eq, decide_eq_true_eq] at b9
        obtain ⟨⟨⟨⟨rfl, c2⟩, c5⟩, c3⟩, c4⟩ := b9
        split at c3
        · rename_i ccl cdd vs ccs hl1
          split at c3
          · rename_i file tf hv
            rw [beq_iff_eq] at c3
            subst c3
            split at c4
            · rename_i cl cld c csl hl2
              rw [beq_iff_eq] at c4
              subst c4
              exact ⟨_, ⟨⟨exCls_of b1, He.eqO_ok b2, b3, b4, b5⟩, He.eqO_ok b6, He.eqO_ok b7, b8, ⟨oc, od, osl, cc, cda, vs, ccl, cl, cdd, cld, ccs, csl, _, tf, q, rfl, rfl, rfl, rfl, rfl, rfl, hself, c2, hl1, hv, hfile, hl2⟩, b10, b11, He.eqO_ok b12, He.eqO_ok b13, b14, top⟩, rfl, c5⟩
            · cases c4
          · cases c3
        · cases c3
      · cases b9
    | _ => cases hw
end Gb

/-! Defs: the text's defs keep the promise that the evaluator makes. -/
namespace Gb
open PySem PySem.Spec PyProof.Rows L2

/-- a def of the text -/
structure DefX where
  id : Nat
  name : Str
  st : Stmt
  N : List Str
def psOf (st : Stmt) : List Str := (defArgs st).args.map (·.arg)
def DefX.d (x : DefX) : He.DefD := ⟨(x.name, none), x.name, x.name, defArgs x.st, defBody x.st, defScope x.st, [], []⟩
def globOf (tb : List DefX) (kw : Kx) : Glob := ⟨fun f => (tb.find? (·.id == f)).map fun x => (x.name, psOf x.st), kw⟩
def isPlainA : Arguments → Bool
  | ⟨[], _, none, [], [], none, []⟩ => true
  | _ => false
def kindF : ScopeKind → Bool
  | .function => true
  | _ => false
def notFree : NameKind → Bool
  | .free => false
  | _ => true
def scopeB (N ps : List Str) (sc : Scope) : Bool := kindF sc.kind && !sc.isCoroutine && !sc.isGenerator && nodupB N && N.take ps.length == ps && ps.all (locB sc) && sc.names.all fun y => notFree y.2
def defB (G : Glob) (x : DefX) (fn : Fn) : Bool := scopeB x.N (psOf x.st) (defScope x.st) && isPlainA (defArgs x.st) && nodupB (psOf x.st) && decide ((psOf x.st).length = fn.np) && decide (x.N.length = fn.nn) && chkSs G x.N (defScope x.st) (defScope x.st) fn.body (defBody x.st)
def tabB (tb : List DefX) (kw : Kx) (FT : Nat → Option Fn) : Bool := tb.all fun x => match FT x.id with
  | some fn => defB (globOf tb kw) x fn
  | none => false
/-- an own error's __init__ -/
def iniB (fld : Str) : List Stmt → Bool
  | [.Expr (.Call (.Attribute (.Call (.Name s _) [] [] _) i p3) [.Name f _] [] p5) _, .Assign [.Attribute (.Name s2 _) f2 _] (.Name f3 _) _] => s == ("super" : Str) && i == ("__init__" : Str) && f == fld && s2 == ("self" : Str) && f2 == fld && f3 == fld && p3.endLine == p5.line
  | _ => false
def errC (d : ErrD) : Bool := isPlainA d.params && d.params.args.map (·.arg) == [("self" : Str), d.fld] && iniScope d.scope d.fld && !(d.fld == ("__debug__" : Str)) && !(d.fld == ("self" : Str)) && iniB d.fld d.body
def ersB (es : List ErrD) (kw : Kx) : Bool := decide (es.length ≤ 1) && decide (kw.ers = es.map fun d => (d.num, d.cls, d.fld)) && es.all errC
def exY (K : PySem.W.Frag) (es : List ErrD) : ExT := fun n => (es.find? (·.num == n)).map fun d => (d.C K, some d.fld)
def filB (P : Program) (es : List ErrD) : Bool := es.all fun d => (P.main.file : Str) == d.file && !(P.main.scope.names.lookup ("super" : Str)).isSome
theorem errY {K : PySem.W.Frag} {es : List ErrD} {kw : Kx} (h : ersB es kw = true) {d : ErrD} (hd : d ∈ es) : exY K es d.num = some (d.C K, some d.fld) := by
  unfold ersB at h
  simp only [Bool.and_eq_true, decide_eq_true_eq] at h
  match es, hd, h.1.1 with
  | [e], hd, _ =>
    rw [List.mem_singleton] at hd
    subst hd
    unfold exY
    simp
  | _ :: _ :: _, _, hl => simp at hl
/-- the calls with keywords alone -/
def kwB (tb : List DefX) (kw : Kx) : Bool := kw.kw.all fun q => tb.all fun x => !(x.id == q.1) || (nodupB q.2.1 && q.2.1.all (psOf x.st).contains && permB q.2.1 (psOf x.st) q.2.2)

theorem scope_of {N ps : List Str} {sc : Scope} (h : scopeB N ps sc = true) : FnScope N ps sc := by
  unfold scopeB at h
  simp only [Bool.and_eq_true, Bool.not_eq_true', beq_iff_eq] at h
  obtain ⟨⟨⟨⟨⟨⟨h1, h2⟩, h3⟩, h4⟩, h5⟩, h6⟩, h7⟩ := h
  refine ⟨?_, h2, h3, nodup_of h4, h5, fun x hx => loc_of (List.all_eq_true.mp h6 x hx), fun y hy e => ?_⟩
  · unfold kindF at h1
    split at h1
    · assumption
    · cases h1
  · have := List.all_eq_true.mp h7 y hy
    rw [e] at this
    cases this
theorem plain_of {a : Arguments} (h : isPlainA a = true) : a = plainA a.args := by
  unfold isPlainA at h
  split at h
  · rfl
  · cases h

section
variable {P : Program} {w : World} {K : PySem.W.Frag} {mg : Str → Option Value} {base : Heap} {Y : ExT}

theorem start_at {N : List Str} {ds : List D} {vs : List V} {F : Hp} {φ : List Addr} {H : Hp} (r : RepXs K F φ H ds vs) (hall : ds.all notM = true) (nn : Nat) (hN : N.length = nn) : EnvOk K F φ (Gb.start nn ds) (L2.start N vs) H := by
  have hlen := r.length
  have get : ∀ {i : Nat} {d : D}, (Gb.start nn ds)[i]? = some (some d) → ds[i]? = some d := fun {i d} h => by
    unfold Gb.start at h
    by_cases hi : i < ds.length
    · rw [List.getElem?_append_left (by simpa using hi), List.getElem?_map] at h
      cases e : ds[i]? with
      | none => rw [e] at h; cases h
      | some a => rw [e] at h; cases h; rfl
    · rw [List.getElem?_append_right (by simpa using hi), List.getElem?_replicate] at h
      split at h <;> cases h
  have rget : ∀ {ds : List D} {vs : List V} {i : Nat} {d : D}, RepXs K F φ H ds vs → ds[i]? = some d → ∃ v, vs[i]? = some v ∧ RepX K F φ H d v := by
    intro ds
    induction ds with
    | nil => intro vs i d _ e; simp at e
    | cons x xs ih =>
      intro vs i d r e
      cases r with
      | cons a b =>
        cases i with
        | zero => simp at e; subst e; exact ⟨_, rfl, a⟩
        | succ i =>
          obtain ⟨v, h1, h2⟩ := ih b (by simpa using e)
          exact ⟨v, by simpa using h1, h2⟩
  refine ⟨?_, fun i d h => ?_, fun i j xs ys a hij h1 h2 h3 h4 => ?_⟩
  · unfold Gb.start L2.start
    rw [List.length_append, List.length_append, List.length_map, List.length_map, List.length_replicate, List.length_replicate, hlen, hN]
  · have h1 := get h
    obtain ⟨v, h2, h3⟩ := rget r h1
    refine ⟨fun xs e => ?_, v, ?_, h3⟩
    · subst e
      have := List.all_eq_true.mp hall _ (List.mem_of_getElem? h1)
      cases this
    · unfold L2.start
      have hi : i < vs.length := (List.getElem?_eq_some_iff.mp h2).1
      rw [List.getElem?_append_left (by simpa using hi), List.getElem?_map, h2]
      rfl
  · have h5 := get h1
    have := List.all_eq_true.mp hall _ (List.mem_of_getElem? h5)
    cases this
theorem notM_start {ds : List D} (hall : ds.all notM = true) {nn i : Nat} {xs : List D} (h : (Gb.start nn ds)[i]? = some (some (.mls xs))) : False := by
  unfold Gb.start at h
  by_cases hi : i < ds.length
  · rw [List.getElem?_append_left (by simpa using hi), List.getElem?_map] at h
    cases e : ds[i]? with
    | none => rw [e] at h; cases h
    | some a =>
      rw [e] at h
      cases h
      have := List.all_eq_true.mp hall _ (List.mem_of_getElem? e)
      cases this
  · rw [List.getElem?_append_right (by simpa using hi), List.getElem?_replicate] at h
    split at h <;> cases h
/-- from what a body ends with to what the def gives -/
theorem back_post {F : Hp} {φ : List Addr} {H : Hp} {st : Store} {E : XK} {o : SO} {boxer : Bool} {Q : VK} (p : Post K Y E F φ H (o.back boxer) (RQ K H Q)) :
    PostS K Y E F φ H F o { nx := fun _ H' => Q .non H', rt := Q } := by
  cases o with
  | nx ρ st => exact fun F' φ' σ H' s => p F' φ' H' s.step s.base .non Rep.non trivial
  | bk ρ st => exact p.elim
  | ex x st => exact p
  | bad => exact p
  | rt d st =>
    intro F' φ' H' v S B r fr
    cases d with
    | mls xs => exact p.elim
    | fls xs =>
      obtain ⟨a, vs, rfl, e2, e3, e4, e5⟩ := r
      have hn : H a = none := fr rfl a rfl
      cases boxer with
      | false => exact p (upd F' a (.lst vs)) φ' H' (S.frz e4 hn) (B.frz e4 e2 e5) (.ref a) (Rep.lst upd_same (e3.mono (sub_updF e4)) : Rep K _ (.lst xs) (.ref a)).x trivial
      | true =>
        obtain ⟨ψ, rfl, hψ⟩ := S.box
        have S2 : Step F φ H F' ((φ ++ ψ) ++ [a]) H' := ⟨S.keep, S.dom, S.ff, S.new, ψ ++ [a], by rw [List.append_assoc], fun b hb => by
          rcases List.mem_append.mp hb with z | z
          · exact hψ b z
          · rw [List.mem_singleton.mp z]; exact hn⟩
        have B2 : Base K F' ((φ ++ ψ) ++ [a]) (st ++ [xs]) H' := by
          refine ⟨B.sub, by rw [List.length_append (as := φ ++ ψ), B.len, List.length_append]; rfl, ?_, fun n b ys h1 h2 => ?_⟩
          · exact List.nodup_append.mpr ⟨B.nd, List.nodup_cons.mpr ⟨List.not_mem_nil, .nil⟩, fun x hx y hy e => by rw [List.mem_singleton.mp hy] at e; exact e5 (e ▸ hx)⟩
          · by_cases hl : n < (φ ++ ψ).length
            · rw [List.getElem?_append_left hl] at h1
              rw [List.getElem?_append_left (by rw [← B.len]; exact hl)] at h2
              exact B.box n b ys h1 h2
            · rw [List.getElem?_append_right (by omega)] at h1
              rw [List.getElem?_append_right (by rw [← B.len]; omega)] at h2
              have e1 := List.mem_singleton.mp (List.mem_of_getElem? h1)
              have e2' := List.mem_singleton.mp (List.mem_of_getElem? h2)
              subst e1
              subst e2'
              exact ⟨vs, e2, e3, e4⟩
        refine p F' _ H' S2 B2 (.ref a) ⟨a, rfl, ?_⟩ trivial
        rw [← B.len, List.getElem?_append_right (Nat.le_refl _), Nat.sub_self]
        rfl
    | box n => exact p F' φ' H' S B v r trivial
    | _ => exact p F' φ' H' S B v r trivial

theorem find_of {tb : List DefX} {kw : Kx} {f : Nat} {x : Str} {ps : List Str} (h : (globOf tb kw).fn f = some (x, ps)) : ∃ q ∈ tb, q.id = f ∧ q.name = x ∧ psOf q.st = ps := by
  have h1 : (tb.find? (·.id == f)).map (fun x => (x.name, psOf x.st)) = some (x, ps) := h
  obtain ⟨q, h2, h3⟩ := Option.map_eq_some_iff.mp h1
  cases h3
  have h4 := List.find?_some h2
  exact ⟨q, List.mem_of_find?_eq_some h2, by simpa using h4, rfl, rfl⟩
/-- what the head tells -/
structure Told (K : PySem.W.Frag) (mg : Str → Option Value) (tb : List DefX) (kw : Kx) : Prop where
  cst : ∀ x i, (x, i) ∈ kw.cst → ∃ t, mg x = some (.int i t)
  cstS : ∀ x i, (x, i) ∈ kw.cstS → ∃ t, mg x = some (.str i t)
  bi : ∀ x ∈ builtins, mg x = none
  at_ : ∀ q ∈ tb, mg q.name = some (.ref (He.ga K q.name))
  fd : ∀ q ∈ tb, ∃ fd, FunD K q.name q.name (defArgs q.st) (defBody q.st) (defScope q.st) [] [] (He.ga K q.name) fd

theorem er_of {es : List ErrD} {kw : Kx} (he : ersB es kw = true) {d : ErrD} (hd : d ∈ es) (A : ErrAll P K mg (exY K es) d) (k : Nat) :
    ∃ C fI fd j, ErrU K mg (exY K es) d.num d.cls C d.fld ∧ OexC K C ∧ k + 2 = j + 2 ∧ PySem.W.findIn K (.ref C) "__init__" = some (some (.ref fI)) ∧ PySem.W.typeIn K (.ref fI) = some (.type "function") ∧
      FnOk P w K mg base (L2.CX P w) (j + 1) fI fd ["self", d.fld] (spIni C d.fld) ∧ Binds K fd ["self", d.fld] [] := by
  have h2 := he
  unfold ersB at h2
  simp only [Bool.and_eq_true] at h2
  have h3 := List.all_eq_true.mp h2.2 d hd
  unfold errC at h3
  simp only [Bool.and_eq_true, Bool.not_eq_true', beq_iff_eq] at h3
  obtain ⟨⟨⟨⟨⟨c1, c2⟩, c3⟩, c4⟩, c5⟩, c6⟩ := h3
  obtain ⟨fd, T, hp, hdf⟩ := A.ini
  have hne : ("self" : Str) ≠ d.fld := fun z => by rw [← z] at c5; simp at c5
  refine ⟨_, _, fd, k, A.use (errY he hd), T.oex, rfl, T.ini, T.typ, ?_, ?_⟩
  · unfold iniB at c6
    split at c6
    · rename_i s q1 q2 i p3 f q4 p5 q6 s2 q7 f2 q8 f3 q9 q10 hb
      simp only [Bool.and_eq_true, beq_iff_eq] at c6
      obtain ⟨⟨⟨⟨⟨⟨rfl, rfl⟩, rfl⟩, rfl⟩, rfl⟩, rfl⟩, c7⟩ := c6
      rw [hb] at T
      exact ini_ok T c3 hne (by simpa using c4) (by simpa using c7) k
    · cases c6
  · refine .all fun us hl => ?_
    have z := bind_pos (fd := fd) (us := us) (hp.trans (plain_of c1)) hdf (by rw [c2]; exact hl) (by rw [c2]; simp [hne])
    rw [c2] at z
    exact z
theorem prg_of {es : List ErrD} {tb : List DefX} {kw : Kx} {FT : Nat → Option Fn} (he : ersB es kw = true) (A : ∀ d ∈ es, ErrAll P K mg (exY K es) d) (T : Told K mg tb kw) (ht : tabB tb kw FT = true) (hkw : kwB tb kw = true) (k : Nat) (call : CallF)
    (hF : ∀ q ∈ tb, ∀ fd, FunD K q.name q.name (defArgs q.st) (defBody q.st) (defScope q.st) [] [] (He.ga K q.name) fd → FnOk P w K mg base (L2.CX P w) (k + 2) (He.ga K q.name) fd (psOf q.st) (spD K (exY K es) call q.id)) : Prg P w K mg base (exY K es) call (globOf tb kw) (k + 2) := by
  refine ⟨T.bi, T.cst, T.cstS, fun c x fld h => ?_, fun f x ps h => ?_⟩
  · have h2 := he
    unfold ersB at h2
    simp only [Bool.and_eq_true, decide_eq_true_eq] at h2
    have h3 : (c, x, fld) ∈ es.map fun d => (d.num, d.cls, d.fld) := by rw [← h2.1.2]; exact h
    obtain ⟨d, hd, e⟩ := List.mem_map.mp h3
    cases e
    obtain ⟨C, fI, fd, j, z⟩ := er_of (w := w) (base := base) he hd (A d hd) k
    exact ⟨C, fI, fd, j, z⟩
  obtain ⟨q, hq, rfl, rfl, rfl⟩ := find_of h
  obtain ⟨fd, D⟩ := T.fd q hq
  have hB := List.all_eq_true.mp ht q hq
  cases e : FT q.id with
  | none => rw [e] at hB; cases hB
  | some fn =>
    rw [e] at hB
    unfold defB at hB
    simp only [Bool.and_eq_true, decide_eq_true_eq] at hB
    obtain ⟨⟨⟨⟨⟨b1, b2⟩, b3⟩, b4⟩, b5⟩, b6⟩ := hB
    refine ⟨_, fd, T.at_ q hq, D.kp, hF q hq fd D, D.bindsN fun kV doc pm an cdv ct us hl => bind_pos (plain_of b2) rfl hl (nodup_of b3), fun ks perm hm s ws us hK h1 h2 h3 => ?_⟩
    obtain ⟨oc, od, dV, kV, doc, pm, an, cdv, ct, osl, rfl, lk, hcd, hD, hKw⟩ := D.ex
    rcases hD with ⟨_, rfl⟩ | ⟨e, _⟩
    · have hk2 := List.all_eq_true.mp (List.all_eq_true.mp hkw _ hm) q hq
      simp only [beq_self_eq_true, Bool.not_true, Bool.false_or, Bool.and_eq_true] at hk2
      exact .of_eq (bind_perm (plain_of b2) rfl h1 (nodup_of b3) (nodup_of hk2.1.1) hk2.1.2 hk2.2 h2)
    · exact absurd rfl e
theorem fns_ok {es : List ErrD} {tb : List DefX} {kw : Kx} {FT : Nat → Option Fn} (n : Nat) (he : ersB es kw = true) (A : ∀ d ∈ es, ErrAll P K mg (exY K es) d) (T : Told K mg tb kw) (ht : tabB tb kw FT = true) (hkw : kwB tb kw = true) :
    ∀ k : Nat, ∀ q ∈ tb, ∀ fd, FunD K q.name q.name (defArgs q.st) (defBody q.st) (defScope q.st) [] [] (He.ga K q.name) fd → FnOk P w K mg base (L2.CX P w) (k + 2) (He.ga K q.name) fd (psOf q.st) (spD K (exY K es) (callN FT n k) q.id) := by
  intro k
  induction k with
  | zero =>
    refine fun q hq fd D => ⟨fun vs H Q E h => ?_, fun A outer s H args us vs Q E _ _ _ _ h => ?_⟩
    · obtain ⟨F, φ, st, ds, _, _, _, p⟩ := h
      exact p.elim
    · obtain ⟨F, φ, st, ds, _, _, _, p⟩ := h
      exact p.elim
  | succ k ih0 =>
    have ih := prg_of he A T ht hkw k _ ih0
    refine fun q hq fd D => ?_
    have hB := List.all_eq_true.mp ht q hq
    cases e : FT q.id with
    | none => rw [e] at hB; cases hB
    | some fn =>
      rw [e] at hB
      unfold defB at hB
      simp only [Bool.and_eq_true, decide_eq_true_eq] at hB
      obtain ⟨⟨⟨⟨⟨b1, b2⟩, b3⟩, b4⟩, b5⟩, b6⟩ := hB
      have SC := scope_of b1
      -- what a promise tells
      have told : ∀ {vs H Q E}, spD K (exY K es) (callN FT n (k + 1)) q.id vs H Q E → ∃ F φ st ds, Base K F φ st H ∧ RepXs K F φ H ds vs ∧ ds.all notM = true ∧ ds.length = fn.np ∧ Post K (exY K es) E F φ H ((exS (callN FT n k) n fn.body (Gb.start fn.nn ds) st).back fn.boxer) (RQ K H Q) := fun {vs H Q E} h => by
        obtain ⟨F, φ, st, ds, B, r, hall, p⟩ := h
        rw [callN, e] at p
        dsimp only at p
        by_cases hl : ds.length = fn.np
        · rw [if_pos hl] at p
          exact ⟨F, φ, st, ds, B, r, hall, hl, p⟩
        · rw [if_neg hl] at p
          exact p.elim
      refine D.ok SC (fun vs H Q E h => ?_) (fun cdv A outer s H vs Q E hr h => ?_)
      · obtain ⟨F, φ, st, ds, B, r, hall, hl, p⟩ := told h
        rw [← r.length, hl, b4]
      · obtain ⟨F, φ, st, ds, B, r, hall, hl, p⟩ := told h
        have g : GoodS (exY K es) (callN FT n k) (globOf tb kw) (k + 2) E (defScope q.st) q.N (cxOf (L2.CX P w) P w K mg base q.N q.name (defScope q.st) (He.ga K q.name) cdv A outer s H E) :=
          { prg := ih, scope := rfl, names := rfl, nd := SC.nd, calm := rfl, room := hr, fnr := fun _ _ => rfl, pass := passes_call (takes_of rfl rfl rfl rfl) (fun _ _ _ _ h => h), kind := SC.kind, po := passes_of rfl, tk := takes_of rfl rfl rfl rfl, stk := rfl, frm := rfl }
        refine ⟨_, (sndS (n := n) fn.body).all g b6, F, φ, H, F, F, φ, _, st, ⟨.refl, B, start_at r hall fn.nn b5, fun i xs a h1 _ => (notM_start hall h1).elim, fun _ _ e => e⟩, ?_⟩
        exact back_post (st := st) p
end

/-! ### the law -/
def fas (tb : List DefX) (kw : Kx) : List He.Fa := builtins.map .free ++ tb.map (fun q => .glo q.name) ++ kw.cst.map (fun c => .int c.1 c.2) ++ kw.cstS.map fun c => .str c.1 c.2
theorem told_of {tb : List DefX} {kw : Kx} {K : PySem.W.Frag} {h : Heap} {mg : Str → Option Value} (X : K.In h) (G : h.Ns mainGlobals mg) (c : He.SaysD (fas tb kw) (tb.map DefX.d) K) : Told K mg tb kw where
  bi x hx := by
    obtain ⟨i, hi⟩ := List.getElem?_of_mem (show He.Fa.free x ∈ fas tb kw from List.mem_append_left _ (List.mem_append_left _ (List.mem_append_left _ (List.mem_map_of_mem hx))))
    exact He.free_ok X G (c.fact i (f := .free x) hi)
  at_ q hq := by
    obtain ⟨i, hi⟩ := List.getElem?_of_mem (show He.Fa.glo q.name ∈ fas tb kw from List.mem_append_left _ (List.mem_append_left _ (List.mem_append_right _ (List.mem_map_of_mem (f := fun q : DefX => He.Fa.glo q.name) hq))))
    exact He.glo_ok X G (c.fact i (f := .glo q.name) hi)
  cst x j hx := by
    obtain ⟨i, hi⟩ := List.getElem?_of_mem (show He.Fa.int x j ∈ fas tb kw from List.mem_append_left _ (List.mem_append_right _ (List.mem_map_of_mem (f := fun c : Str × Int => He.Fa.int c.1 c.2) hx)))
    exact He.int_ok X G (c.fact i (f := .int x j) hi)
  cstS x j hx := by
    obtain ⟨i, hi⟩ := List.getElem?_of_mem (show He.Fa.str x j ∈ fas tb kw from List.mem_append_right _ (List.mem_map_of_mem (f := fun c : Str × Str => He.Fa.str c.1 c.2) hx))
    exact He.str_ok X G (c.fact i (f := .str x j) hi)
  fd q hq := by
    obtain ⟨i, hi⟩ := List.getElem?_of_mem (List.mem_map_of_mem (f := DefX.d) hq)
    exact c.def_ i (d := q.d) hi
theorem law_F {l : PySem.W.OpenLaw} {es : List ErrD} {tb : List DefX} {kw : Kx} {FT : Nat → Option Fn} (n k : Nat) {q : DefX} {x : Str} (hq : q ∈ tb) (hx : psOf q.st = [x]) (ht : tabB tb kw FT = true) (hkw : kwB tb kw = true) (he : ersB es kw = true) (hfil : filB l.prog es = true)
    (hres : ∀ ns : List Int, ns.length ≤ 63 → okT (callN FT n k q.id [.scr ns] []) = true) (w : World) (mg : Str → Option Value) (fa : Addr) (h : Heap) (Yh : ∃ K : PySem.W.Frag, K.In h ∧ SaysE (fas tb kw) (tb.map DefX.d) es K) (G : h.Ns mainGlobals mg) (hmg : mg q.name = some (.ref fa)) :
    ∃ (K : PySem.W.Frag) (fd : FuncData) (sp : Sp), K.In h ∧ (∀ (s : Shared) (u : Value), BindsTo s fd ⟨[u], []⟩ [(x, u)]) ∧
      (∀ (H : Hp) (a : Addr) (ns : List Int), ns.length ≤ 63 → Only H → SqL K H a (ns.map V.int) → sp [.ref a] H (fun v _ => v = .bl true) fun _ _ _ => False) ∧
      ∀ base : Heap, K.In base → base.Ns mainGlobals mg → FnOk l.prog w K mg base (L2.CX l.prog w) (k + 2) fa fd [x] sp := by
  obtain ⟨K, KX, c⟩ := Yh
  have T := told_of KX G c.d
  have A : ∀ d ∈ es, ErrAll l.prog K mg (exY K es) d := fun d hd => by
    have hf := List.all_eq_true.mp hfil d hd
    simp only [Bool.and_eq_true, Bool.not_eq_true'] at hf
    have h2 := he
    unfold ersB at h2
    simp only [Bool.and_eq_true] at h2
    have h3 := List.all_eq_true.mp h2.2 d hd
    unfold errC at h3
    simp only [Bool.and_eq_true, beq_iff_eq] at h3
    refine err_all KX G (c.err hd).1 (c.err hd).2 hf.1 ?_ hf.2
    rw [plain_of h3.1.1.1.1.1]
    have e := h3.1.1.1.1.2
    show ((d.params.args).head?.map fun z : Arg => z.arg) = _
    rw [← List.head?_map, e]
    rfl
  obtain ⟨fd, D⟩ := T.fd q hq
  have e := hmg.symm.trans (T.at_ q hq)
  cases e
  have hB := List.all_eq_true.mp ht q hq
  refine ⟨K, fd, spD K (exY K es) (callN FT n k) q.id, KX, fun s u => ?_, fun H a ns hl _ hS => ?_, fun base _ _ => hx ▸ fns_ok n he A T ht hkw k q hq fd D⟩
  · cases e : FT q.id with
    | none => rw [e] at hB; cases hB
    | some fn =>
      rw [e] at hB
      unfold defB at hB
      simp only [Bool.and_eq_true, decide_eq_true_eq] at hB
      obtain ⟨⟨⟨⟨⟨b1, b2⟩, b3⟩, b4⟩, b5⟩, b6⟩ := hB
      have z := D.bindsA (ps := psOf q.st) (fun kV doc pm an cdv ct us hl => bind_pos (plain_of b2) rfl hl (nodup_of b3)) s [u] (by rw [hx]; rfl)
      rw [hx] at z
      exact z
  · have hr := hres ns hl
    refine ⟨H, [], [], [.scr ns], ⟨fun _ _ e => e, rfl, .nil, fun n a xs h => by simp at h⟩, .cons (Rep.scr hS : Rep K H (.scr ns) (.ref a)).x .nil, rfl, ?_⟩
    unfold okT at hr
    split at hr
    · rename_i st heq
      rw [heq]
      exact fun F' φ' H' _ _ v r _ => RepX.bl r
    · cases hr
end Gb

/-! Rewriting rules of the evaluator. -/
namespace Gb
open PySem

section
variable {α β : Type} {a : α} {x : Ex} {st : Store} {f : α → Store → Out β} {g : α → Store → SO} {h : Env → Store → SO} {ρ : Env} {d : D} {i : Nat} {xs ds : List D}
theorem bind_ok : (Out.ok a st).bind f = f a st := rfl
theorem bind_ex : (Out.ex x st : Out α).bind f = .ex x st := rfl
theorem bind_bad : (Out.bad : Out α).bind f = .bad := rfl
theorem so_ok : (Out.ok a st).so g = g a st := rfl
theorem so_ex : (Out.ex x st : Out α).so g = .ex x st := rfl
theorem so_bad : (Out.bad : Out α).so g = .bad := rfl
theorem then_nx : (SO.nx ρ st).then h = h ρ st := rfl
theorem then_rt : (SO.rt d st).then h = .rt d st := rfl
theorem then_bk : (SO.bk ρ st).then h = .bk ρ st := rfl
theorem then_ex : (SO.ex x st).then h = .ex x st := rfl
theorem then_bad : SO.bad.then h = .bad := rfl
theorem lift_some : lift (some a) st = .ok a st := rfl
theorem lift_none : lift (none : Option α) st = .bad := rfl
theorem soE_some' : soE (some ρ) st = .nx ρ st := rfl
theorem soE_none : soE none st = .bad := rfl
theorem noEx_ok : noEx (Out.ok a st) = .ok a st := rfl
theorem p_nm {m : Bool} : putT (.nm i m) d ρ = put1 i m d ρ := rfl
theorem p_tup {is : List (Nat × Bool)} : putT (.tp is) (.tup ds) ρ = putN is ds ρ := rfl
theorem p_lst {is : List (Nat × Bool)} : putT (.tp is) (.lst ds) ρ = putN is ds ρ := rfl
theorem pN_nil : putN [] [] ρ = some ρ := rfl
theorem pN_cons {m : Bool} {is : List (Nat × Bool)} : putN ((i, m) :: is) (d :: ds) ρ = (put1 i m d ρ).bind (putN is ds) := rfl
theorem p_frz : put1 i false d ρ = (frzD d).map fun d => ρ.set i (some d) := rfl
theorem p_fls : put1 i true (.fls xs) ρ = some (ρ.set i (some (.mls xs))) := rfl
theorem p_int {z : Int} : put1 i true (.int z) ρ = some (ρ.set i (some (.int z))) := rfl
theorem p_bl {z : Bool} : put1 i true (.bl z) ρ = some (ρ.set i (some (.bl z))) := rfl
theorem p_non : put1 i true .non ρ = some (ρ.set i (some .non)) := rfl
theorem p_tupm : put1 i true (.tup xs) ρ = some (ρ.set i (some (.tup xs))) := rfl
theorem p_lstm : put1 i true (.lst xs) ρ = some (ρ.set i (some (.lst xs))) := rfl
theorem f_int {z : Int} : frzD (.int z) = some (.int z) := rfl
theorem f_bl {z : Bool} : frzD (.bl z) = some (.bl z) := rfl
theorem f_str {z : Str} : frzD (.str z) = some (.str z) := rfl
theorem f_non : frzD .non = some .non := rfl
theorem f_tup : frzD (.tup xs) = some (.tup xs) := rfl
theorem f_lst : frzD (.lst xs) = some (.lst xs) := rfl
theorem f_fls : frzD (.fls xs) = some (.lst xs) := rfl
theorem f_box : frzD (.box i) = some (.box i) := rfl
theorem f_scr {ns : List Int} : frzD (.scr ns) = some (.scr ns) := rfl
theorem u_int {z : Int} : purD (.int z) = some (.int z) := rfl
theorem u_bl {z : Bool} : purD (.bl z) = some (.bl z) := rfl
theorem u_str {z : Str} : purD (.str z) = some (.str z) := rfl
theorem u_non : purD .non = some .non := rfl
theorem u_tup : purD (.tup xs) = some (.tup xs) := rfl
theorem u_lst : purD (.lst xs) = some (.lst xs) := rfl
theorem u_fls : purD (.fls xs) = some (.lst xs) := rfl
theorem t_bl {b : Bool} : truD (.bl b) = some b := rfl
theorem t_non : truD .non = some false := rfl
theorem t_int {z : Int} : truD (.int z) = some (z != 0) := rfl
theorem t_tup : truD (.tup xs) = some (!xs.isEmpty) := rfl
theorem t_lst : truD (.lst xs) = some (!xs.isEmpty) := rfl
theorem t_mls : truD (.mls xs) = some (!xs.isEmpty) := rfl
theorem t_fls : truD (.fls xs) = some (!xs.isEmpty) := rfl
theorem bd_int {z : Int} : bound (.int z) = some (some z) := rfl
theorem bk_fls : backD false (.fls xs) st = .ok (.lst xs) st := rfl
theorem bk_flsb : backD true (.fls xs) st = .ok (.box st.length) (st ++ [xs]) := rfl
theorem bk_int {b : Bool} {z : Int} : backD b (.int z) st = .ok (.int z) st := rfl
theorem bk_bl {b z : Bool} : backD b (.bl z) st = .ok (.bl z) st := rfl
theorem bk_non {b : Bool} : backD b .non st = .ok .non st := rfl
theorem bk_str {b : Bool} {z : Str} : backD b (.str z) st = .ok (.str z) st := rfl
theorem bk_tup {b : Bool} : backD b (.tup xs) st = .ok (.tup xs) st := rfl
theorem bk_lst {b : Bool} : backD b (.lst xs) st = .ok (.lst xs) st := rfl
theorem bk_box {b : Bool} : backD b (.box i) st = .ok (.box i) st := rfl
theorem back_rt {b : Bool} : (SO.rt d st).back b = backD b d st := rfl
theorem back_nx {b : Bool} : (SO.nx ρ st).back b = .ok .non st := rfl
theorem back_ex {b : Bool} : (SO.ex x st).back b = .ex x st := rfl
theorem idx_int {m : Nat} {z : Int} : idxOf m (.int z) = L2.ixN m z := rfl
theorem ix_tup {z : Int} : idxD (.tup xs) (.int z) st = L2.atI xs z := rfl
theorem ix_lst {z : Int} : idxD (.lst xs) (.int z) st = L2.atI xs z := rfl
theorem ix_mls {z : Int} : idxD (.mls xs) (.int z) st = L2.atI xs z := rfl
theorem ix_fls {z : Int} : idxD (.fls xs) (.int z) st = L2.atI xs z := rfl
theorem ix_box {z : Int} : idxD (.box i) (.int z) st = (st[i]?).bind fun xs => L2.atI xs z := rfl
theorem sl_tup {lo hi : Option Int} : slcD (.tup xs) lo hi = some (.tup (cutL xs lo hi)) := rfl
theorem sl_lst {lo hi : Option Int} : slcD (.lst xs) lo hi = some (.fls (cutL xs lo hi)) := rfl
theorem sl_mls {lo hi : Option Int} : slcD (.mls xs) lo hi = some (.fls (cutL xs lo hi)) := rfl
theorem sl_fls {lo hi : Option Int} : slcD (.fls xs) lo hi = some (.fls (cutL xs lo hi)) := rfl
theorem sl_scr {ns : List Int} {lo hi : Option Int} : slcD (.scr ns) lo hi = some (.fls ((cutL ns lo hi).map .int)) := rfl
end

theorem bind_cg {α β : Type} {a a' : Out α} {f : α → Store → Out β} (h : a = a') : a.bind f = a'.bind f := by rw [h]
theorem so_cg {α : Type} {a a' : Out α} {f : α → Store → SO} (h : a = a') : a.so f = a'.so f := by rw [h]
theorem then_cg {a a' : SO} {f : Env → Store → SO} (h : a = a') : a.then f = a'.then f := by rw [h]
theorem loop_cg' {a a' : Out (Option D)} (h : a = a') : noEx a = noEx a' := by rw [h]
/-! ### operators on ints -/
theorem mulOk_l {i j : Int} (h : i.natAbs < 2 ^ 64) : mulOk i j = true := by
  unfold mulOk
  rw [decide_eq_true h]
  rfl
theorem mulOk_r {i j : Int} (h : j.natAbs < 2 ^ 64) : mulOk i j = true := by
  unfold mulOk
  rw [decide_eq_true h, Bool.or_true]
  rfl
theorem log_small {j : Int} (h1 : 0 < j) (h2 : j < 2 ^ 62) : decide (j.natAbs.log2 < 9000) = true := by
  refine decide_eq_true ?_
  have : j.natAbs.log2 < 62 := (Nat.log2_lt (by omega)).mpr (by omega)
  omega
section
variable {i j : Int} {x y : D} {xs ys : List D}
theorem b_add : binD .add (.int i) (.int j) = some (.int (i + j)) := rfl
theorem b_sub : binD .sub (.int i) (.int j) = some (.int (i - j)) := rfl
theorem b_mul (h : mulOk i j = true) : binD .mul (.int i) (.int j) = some (.int (i * j)) := by
  show (if mulOk i j = true then _ else _) = _
  rw [if_pos h]
theorem b_mull (h : i.natAbs < 2 ^ 64) : binD .mul (.int i) (.int j) = some (.int (i * j)) := b_mul (mulOk_l h)
theorem b_mulr (h : j.natAbs < 2 ^ 64) : binD .mul (.int i) (.int j) = some (.int (i * j)) := b_mul (mulOk_r h)
theorem b_mulB {b : Bool} : binD .mul (.int i) (.int (if b = true then 1 else 0)) = some (.int (i * (if b = true then 1 else 0))) := by
  cases b
  · exact b_mulr (by decide)
  · exact b_mulr (by decide)
theorem b_mod (h : 0 < j) : binD .mod (.int i) (.int j) = some (.int (i % j)) := by
  show (if decide (0 < j) = true then _ else _) = _
  rw [if_pos (decide_eq_true h)]
theorem b_fdiv (h : 0 < j) (h2 : j < 2 ^ 62) : binD .fdiv (.int i) (.int j) = some (.int (i / j)) := by
  show (if (decide (0 < j) && decide (j.natAbs.log2 < 9000)) = true then _ else _) = _
  rw [if_pos (by rw [decide_eq_true h, log_small h h2]; rfl)]
theorem b_catT (h : xs.length + ys.length ≤ sizeLine) : binD .add (.tup xs) (.tup ys) = some (.tup (xs ++ ys)) := by
  show (if xs.length + ys.length ≤ sizeLine then _ else _) = _
  rw [if_pos h]
theorem b_cT (h : xs.length + ys.length ≤ 16777216) : binD .add (.tup xs) (.tup ys) = some (.tup (xs ++ ys)) := b_catT (by rw [sizeLine_eq]; exact h)
theorem b_catL (hx : asL x = some xs) (hy : asL y = some ys) (h : xs.length + ys.length ≤ sizeLine) : binD .add x y = some (.fls (xs ++ ys)) := by
  show catD x y = _
  unfold catD
  cases x <;> first | cases hx; done | (cases y <;> first | cases hy; done | (cases hx; cases hy; simp only [asL]; rw [if_pos h]))
theorem b_cff (h : xs.length + ys.length ≤ 16777216) : binD .add (.fls xs) (.fls ys) = some (.fls (xs ++ ys)) := b_catL rfl rfl (by rw [sizeLine_eq]; exact h)
theorem b_clf (h : xs.length + ys.length ≤ 16777216) : binD .add (.lst xs) (.fls ys) = some (.fls (xs ++ ys)) := b_catL rfl rfl (by rw [sizeLine_eq]; exact h)
theorem b_cfl (h : xs.length + ys.length ≤ 16777216) : binD .add (.fls xs) (.lst ys) = some (.fls (xs ++ ys)) := b_catL rfl rfl (by rw [sizeLine_eq]; exact h)
theorem b_cll (h : xs.length + ys.length ≤ 16777216) : binD .add (.lst xs) (.lst ys) = some (.fls (xs ++ ys)) := b_catL rfl rfl (by rw [sizeLine_eq]; exact h)
theorem c_lt : cmpD .lt (.int i) (.int j) = some (decide (i < j)) := rfl
theorem c_le : cmpD .le (.int i) (.int j) = some (decide (i ≤ j)) := rfl
theorem c_gt : cmpD .gt (.int i) (.int j) = some (decide (j < i)) := rfl
theorem c_ge : cmpD .ge (.int i) (.int j) = some (decide (j ≤ i)) := rfl
theorem c_eq : cmpD .eq (.int i) (.int j) = some (decide (i = j)) := by
  show eqP (.int i) (.int j) = _
  unfold eqP
  simp only [toP]
  rw [if_pos (show (SeqAt.shaped (.int i) && SeqAt.shaped (.int j)) = true from rfl)]
  rfl
theorem c_ne : cmpD .ne (.int i) (.int j) = some (!decide (i = j)) := by
  show (cmpD .eq (.int i) (.int j)).map (!·) = _
  rw [c_eq]
  rfl
theorem c_eqB {a b : Bool} : cmpD .eq (.bl a) (.bl b) = some (a == b) := by
  show eqP (.bl a) (.bl b) = _
  unfold eqP
  simp only [toP]
  rw [if_pos (show (SeqAt.shaped (.bool a) && SeqAt.shaped (.bool b)) = true from rfl)]
  rfl
theorem c_neB {a b : Bool} : cmpD .ne (.bl a) (.bl b) = some (!(a == b)) := by
  show (cmpD .eq (.bl a) (.bl b)).map (!·) = _
  rw [c_eqB]
  rfl
theorem c_eqS {a : Str} (h : SeqAt.shaped (.str a) = true) : cmpD .eq (.str a) (.str a) = some true := by
  show eqP (.str a) (.str a) = _
  unfold eqP
  simp only [toP]
  rw [h]
  show some (a == a) = _
  rw [beq_self_eq_true]
theorem toPs_ints : ∀ A : List Int, toPs (A.map .int) = some (A.map PyData.int)
  | [] => rfl
  | a :: A => by
    rw [List.map_cons, toPs, toP, toPs_ints A]
    rfl
theorem lay_ints : ∀ A : List Int, PyData.canLayAll0 (A.map PyData.int) = true
  | [] => rfl
  | a :: A => by
    rw [List.map_cons, PyData.canLayAll0, lay_ints A]
    rfl
theorem depth_ints : ∀ A : List Int, PyData.depthAll (A.map PyData.int) = 0
  | [] => rfl
  | a :: A => by
    rw [List.map_cons, PyData.depthAll, depth_ints A]
    rfl
theorem eqv_ints : ∀ A B : List Int, PyData.eqvAll (A.map PyData.int) (B.map PyData.int) = decide (A = B)
  | [], [] => by simp [PyData.eqvAll]
  | [], b :: B => by simp [PyData.eqvAll]
  | a :: A, [] => by simp [PyData.eqvAll]
  | a :: A, b :: B => by
    rw [List.map_cons, List.map_cons, PyData.eqvAll, eqv_ints A B]
    show (a == b && decide (A = B)) = _
    by_cases h : a = b <;> simp [h]
theorem c_eqT {A B : List Int} : cmpD .eq (.tup (A.map .int)) (.tup (B.map .int)) = some (decide (A = B)) := by
  show eqP (.tup (A.map .int)) (.tup (B.map .int)) = _
  have sh : ∀ C : List Int, SeqAt.shaped (.tuple (C.map PyData.int)) = true := fun C => by
    unfold SeqAt.shaped
    rw [PyData.canLay0, lay_ints, PyData.depth, depth_ints]
    rfl
  unfold eqP
  simp only [toP, toPs_ints, Option.map_some, sh, Bool.and_self, if_true]
  show some (PyData.eqvAll (A.map PyData.int) (B.map PyData.int)) = _
  rw [eqv_ints]
theorem c_eqT0 {A : List Int} : cmpD .eq (.tup (A.map .int)) (.tup []) = some (decide (A = [])) := c_eqT (B := [])
theorem c_isN : cmpD .isN x .non = some (isNon x) := rfl
theorem c_notN : cmpD .notN x .non = some (!isNon x) := rfl
theorem i_int : biD .int [.int i] = some (.int i) := rfl
theorem i_intB {b : Bool} : biD .int [.bl b] = some (.int (if b then 1 else 0)) := rfl
theorem i_abs : biD .abs [.int i] = some (.int (if i < 0 then -i else i)) := rfl
theorem i_max : biD .max2 [.int i, .int j] = some (.int (if j > i then j else i)) := rfl
theorem i_min : biD .min2 [.int i, .int j] = some (.int (if j < i then j else i)) := rfl
theorem l_lst : biD .len [.lst xs] = some (.int xs.length) := rfl
theorem l_tup : biD .len [.tup xs] = some (.int xs.length) := rfl
theorem l_mls : biD .len [.mls xs] = some (.int xs.length) := rfl
theorem l_fls : biD .len [.fls xs] = some (.int xs.length) := rfl
theorem li_lst : biD .list [.lst xs] = some (.fls xs) := rfl
theorem li_tup : biD .list [.tup xs] = some (.fls xs) := rfl
theorem li_fls : biD .list [.fls xs] = some (.fls xs) := rfl
theorem tu_lst : biD .tuple [.lst xs] = some (.tup xs) := rfl
theorem tu_tup : biD .tuple [.tup xs] = some (.tup xs) := rfl
theorem tu_fls : biD .tuple [.fls xs] = some (.tup xs) := rfl
theorem tu_mls : biD .tuple [.mls xs] = some (.tup xs) := rfl
theorem intsD_map : ∀ ns : List Int, intsD (ns.map .int) = some ns
  | [] => rfl
  | n :: ns => by
    show (intsD (ns.map .int)).map (n :: ·) = _
    rw [intsD_map ns]
    rfl
theorem boolsD_map : ∀ ns : List Bool, boolsD (ns.map .bl) = some ns
  | [] => rfl
  | n :: ns => by
    show (boolsD (ns.map .bl)).map (n :: ·) = _
    rw [boolsD_map ns]
    rfl
theorem su_tup {ns : List Int} : biD .sum [.tup (ns.map .int)] = some (.int ns.sum) := by
  show (intsD (ns.map .int)).map _ = _
  rw [intsD_map]
  rfl
theorem su_fls {ns : List Int} : biD .sum [.fls (ns.map .int)] = some (.int ns.sum) := by
  show (intsD (ns.map .int)).map _ = _
  rw [intsD_map]
  rfl
theorem su_2 : biD .sum [.tup [.int i, .int j]] = some (.int (i + j)) := by
  show some (D.int (i + (j + 0))) = _
  rw [Int.add_zero]
theorem al_fls {ns : List Bool} : biD .all [.fls (ns.map .bl)] = some (.bl (ns.all id)) := by
  show (boolsD (ns.map .bl)).map _ = _
  rw [boolsD_map]
  rfl
end

theorem is0_non  : isiD .non [.list, .tuple] = some false := rfl
theorem is0_bl {z : Bool} : isiD (.bl z) [.list, .tuple] = some false := rfl
theorem is0_int {z : Int} : isiD (.int z) [.list, .tuple] = some false := rfl
theorem is0_str {z : Str} : isiD (.str z) [.list, .tuple] = some false := rfl
theorem is0_tup {xs : List D} : isiD (.tup xs) [.list, .tuple] = some true := rfl
theorem is0_lst {xs : List D} : isiD (.lst xs) [.list, .tuple] = some true := rfl
theorem is0_mls {xs : List D} : isiD (.mls xs) [.list, .tuple] = some true := rfl
theorem is0_fls {xs : List D} : isiD (.fls xs) [.list, .tuple] = some true := rfl
theorem is1_non  : isiD .non [.list] = some false := rfl
theorem is1_bl {z : Bool} : isiD (.bl z) [.list] = some false := rfl
theorem is1_int {z : Int} : isiD (.int z) [.list] = some false := rfl
theorem is1_str {z : Str} : isiD (.str z) [.list] = some false := rfl
theorem is1_tup {xs : List D} : isiD (.tup xs) [.list] = some false := rfl
theorem is1_lst {xs : List D} : isiD (.lst xs) [.list] = some true := rfl
theorem is1_mls {xs : List D} : isiD (.mls xs) [.list] = some true := rfl
theorem is1_fls {xs : List D} : isiD (.fls xs) [.list] = some true := rfl
theorem is2_non  : isiD .non [.tuple] = some false := rfl
theorem is2_bl {z : Bool} : isiD (.bl z) [.tuple] = some false := rfl
theorem is2_int {z : Int} : isiD (.int z) [.tuple] = some false := rfl
theorem is2_str {z : Str} : isiD (.str z) [.tuple] = some false := rfl
theorem is2_tup {xs : List D} : isiD (.tup xs) [.tuple] = some true := rfl
theorem is2_lst {xs : List D} : isiD (.lst xs) [.tuple] = some false := rfl
theorem is2_mls {xs : List D} : isiD (.mls xs) [.tuple] = some false := rfl
theorem is2_fls {xs : List D} : isiD (.fls xs) [.tuple] = some false := rfl
theorem is3_non  : isiD .non [.dict] = some false := rfl
theorem is3_bl {z : Bool} : isiD (.bl z) [.dict] = some false := rfl
theorem is3_int {z : Int} : isiD (.int z) [.dict] = some false := rfl
theorem is3_str {z : Str} : isiD (.str z) [.dict] = some false := rfl
theorem is3_tup {xs : List D} : isiD (.tup xs) [.dict] = some false := rfl
theorem is3_lst {xs : List D} : isiD (.lst xs) [.dict] = some false := rfl
theorem is3_mls {xs : List D} : isiD (.mls xs) [.dict] = some false := rfl
theorem is3_fls {xs : List D} : isiD (.fls xs) [.dict] = some false := rfl
theorem is4_non  : isiD .non [.bool, .str] = some false := rfl
theorem is4_bl {z : Bool} : isiD (.bl z) [.bool, .str] = some true := rfl
theorem is4_int {z : Int} : isiD (.int z) [.bool, .str] = some false := rfl
theorem is4_str {z : Str} : isiD (.str z) [.bool, .str] = some true := rfl
theorem is4_tup {xs : List D} : isiD (.tup xs) [.bool, .str] = some false := rfl
theorem is4_lst {xs : List D} : isiD (.lst xs) [.bool, .str] = some false := rfl
theorem is4_mls {xs : List D} : isiD (.mls xs) [.bool, .str] = some false := rfl
theorem is4_fls {xs : List D} : isiD (.fls xs) [.bool, .str] = some false := rfl
theorem is5_non  : isiD .non [.bool] = some false := rfl
theorem is5_bl {z : Bool} : isiD (.bl z) [.bool] = some true := rfl
theorem is5_int {z : Int} : isiD (.int z) [.bool] = some false := rfl
theorem is5_str {z : Str} : isiD (.str z) [.bool] = some false := rfl
theorem is5_tup {xs : List D} : isiD (.tup xs) [.bool] = some false := rfl
theorem is5_lst {xs : List D} : isiD (.lst xs) [.bool] = some false := rfl
theorem is5_mls {xs : List D} : isiD (.mls xs) [.bool] = some false := rfl
theorem is5_fls {xs : List D} : isiD (.fls xs) [.bool] = some false := rfl
theorem is6_non  : isiD .non [.int] = some false := rfl
theorem is6_bl {z : Bool} : isiD (.bl z) [.int] = some true := rfl
theorem is6_int {z : Int} : isiD (.int z) [.int] = some true := rfl
theorem is6_str {z : Str} : isiD (.str z) [.int] = some false := rfl
theorem is6_tup {xs : List D} : isiD (.tup xs) [.int] = some false := rfl
theorem is6_lst {xs : List D} : isiD (.lst xs) [.int] = some false := rfl
theorem is6_mls {xs : List D} : isiD (.mls xs) [.int] = some false := rfl
theorem is6_fls {xs : List D} : isiD (.fls xs) [.int] = some false := rfl
theorem is7_non  : isiD .non [.str] = some false := rfl
theorem is7_bl {z : Bool} : isiD (.bl z) [.str] = some false := rfl
theorem is7_int {z : Int} : isiD (.int z) [.str] = some false := rfl
theorem is7_str {z : Str} : isiD (.str z) [.str] = some true := rfl
theorem is7_tup {xs : List D} : isiD (.tup xs) [.str] = some false := rfl
theorem is7_lst {xs : List D} : isiD (.lst xs) [.str] = some false := rfl
theorem is7_mls {xs : List D} : isiD (.mls xs) [.str] = some false := rfl
theorem is7_fls {xs : List D} : isiD (.fls xs) [.str] = some false := rfl
theorem sz {m : Nat} (h : m ≤ 16777216) : m ≤ sizeLine := by rw [sizeLine_eq]; exact h
theorem if_sz {α : Type} {m : Nat} {a b : α} (h : m ≤ 16777216) : (if m ≤ sizeLine then a else b) = a := if_pos (sz h)
theorem if_szl {α : Type} {m : Nat} {a b : α} (h : m < 16777216) : (if m < sizeLine then a else b) = a := if_pos (by rw [sizeLine_eq]; exact h)
/-! ### loops -/
theorem forL_run {f : D → Env → Store → SO} (P : List D → Env → Store → Prop) (hs : ∀ d r ρ st, P (d :: r) ρ st → ∃ ρ' st', f d ρ st = .nx ρ' st' ∧ P r ρ' st') :
    ∀ ds ρ st, P ds ρ st → ∃ ρ' st', forL f ds ρ st = .nx ρ' st' ∧ P [] ρ' st'
  | [], ρ, st, p => ⟨ρ, st, rfl, p⟩
  | d :: r, ρ, st, p => by
    obtain ⟨ρ1, st1, e, p1⟩ := hs d r ρ st p
    obtain ⟨ρ2, st2, e2, p2⟩ := forL_run P hs r ρ1 st1 p1
    exact ⟨ρ2, st2, by rw [forL, e]; exact e2, p2⟩
def SO.loop (o : SO) (f : Env → Store → SO) : SO :=
  match o with
  | .nx ρ st => f ρ st
  | .bk ρ st => .nx ρ st
  | x => x
theorem forL_n {f : D → Env → Store → SO} {ρ : Env} {st : Store} : forL f [] ρ st = .nx ρ st := rfl
theorem forL_c {f : D → Env → Store → SO} {d : D} {r : List D} {ρ : Env} {st : Store} : forL f (d :: r) ρ st = (f d ρ st).loop (forL f r) := by
  rw [forL]
  cases f d ρ st <;> rfl
theorem loop_nx {f : Env → Store → SO} {ρ : Env} {st : Store} : (SO.nx ρ st).loop f = f ρ st := rfl
theorem loop_bk {f : Env → Store → SO} {ρ : Env} {st : Store} : (SO.bk ρ st).loop f = .nx ρ st := rfl
theorem loop_rt {f : Env → Store → SO} {d : D} {st : Store} : (SO.rt d st).loop f = .rt d st := rfl
/-- a while: so many more turns at most -/
theorem whlL_run {c : Env → Store → Out Bool} {b : Env → Store → SO} (P : Nat → Env → Store → Prop) (Q : Env → Store → Prop)
    (hs : ∀ m ρ st, P m ρ st → (c ρ st = .ok false st ∧ Q ρ st) ∨ (c ρ st = .ok true st ∧ ∃ m' ρ' st', m' < m ∧ b ρ st = .nx ρ' st' ∧ P m' ρ' st')) :
    ∀ (n m : Nat) ρ st, m < n → P m ρ st → ∃ ρ' st', whlL c b n ρ st = .nx ρ' st' ∧ Q ρ' st'
  | 0, m, ρ, st, h, _ => absurd h (Nat.not_lt_zero _)
  | n + 1, m, ρ, st, h, p => by
    rcases hs m ρ st p with ⟨e, q⟩ | ⟨e, m', ρ', st', hm, e2, p2⟩
    · refine ⟨ρ, st, ?_, q⟩
      rw [whlL, e]
      rfl
    · obtain ⟨ρ2, st2, e3, q⟩ := whlL_run P Q hs n m' ρ' st' (by omega) p2
      refine ⟨ρ2, st2, ?_, q⟩
      rw [whlL, e]
      show (if true = true then (match b ρ st with | .nx ρ st => whlL c b n ρ st | .bk ρ st => .nx ρ st | x => x) else .nx ρ st) = _
      rw [if_pos rfl, e2]
      exact e3
theorem compL_run {f : D → Store → Out (Option D)} (P : List D → List D → Store → Prop) (hs : ∀ d r acc st, P (d :: r) acc st → ∃ o st', f d st = .ok o st' ∧ acc.length < sizeLine ∧ P r (acc ++ o.toList) st') :
    ∀ ds acc st, P ds acc st → ∃ xs st', compL f ds acc st = .ok xs st' ∧ P [] xs st'
  | [], acc, st, p => ⟨acc, st, rfl, p⟩
  | d :: r, acc, st, p => by
    obtain ⟨o, st1, e, hl, p1⟩ := hs d r acc st p
    obtain ⟨xs, st2, e2, p2⟩ := compL_run P hs r _ st1 p1
    refine ⟨xs, st2, ?_, p2⟩
    rw [compL, e]
    cases o with
    | none =>
      rw [Option.toList_none, List.append_nil] at e2
      exact e2
    | some x =>
      show (if acc.length < sizeLine then compL f r (acc ++ [x]) st1 else .bad) = _
      rw [if_pos hl]
      exact e2
theorem compL_map {f : D → Store → Out (Option D)} {g : D → D} {st : Store} : ∀ (ds acc : List D), (∀ d ∈ ds, f d st = .ok (some (g d)) st) → acc.length + ds.length ≤ sizeLine → compL f ds acc st = .ok (acc ++ ds.map g) st
  | [], acc, _, _ => by rw [compL, List.map_nil, List.append_nil]
  | d :: r, acc, h, hl => by
    rw [List.length_cons] at hl
    rw [compL, h d List.mem_cons_self]
    show (if acc.length < sizeLine then compL f r (acc ++ [g d]) st else .bad) = _
    rw [if_pos (by omega), compL_map r _ (fun x hx => h x (List.mem_cons_of_mem _ hx)) (by rw [List.length_append]; simp; omega), List.append_assoc]
    rfl
theorem compL_filter {f : D → Store → Out (Option D)} {g : D → Option D} {st : Store} : ∀ (ds acc : List D), (∀ d ∈ ds, f d st = .ok (g d) st) → acc.length + ds.length ≤ sizeLine → compL f ds acc st = .ok (acc ++ ds.filterMap g) st
  | [], acc, _, _ => by rw [compL, List.filterMap_nil, List.append_nil]
  | d :: r, acc, h, hl => by
    rw [List.length_cons] at hl
    rw [compL, h d List.mem_cons_self]
    cases e : g d with
    | none =>
      show compL f r acc st = _
      rw [compL_filter r _ (fun x hx => h x (List.mem_cons_of_mem _ hx)) (by omega), List.filterMap_cons_none e]
    | some x =>
      show (if acc.length < sizeLine then compL f r (acc ++ [x]) st else .bad) = _
      rw [if_pos (by omega), compL_filter r _ (fun x hx => h x (List.mem_cons_of_mem _ hx)) (by rw [List.length_append]; simp; omega), List.append_assoc, List.filterMap_cons_some e]
      rfl

def compS (f : D → Store → Out (Option D)) (r acc : List D) (o : Option D) (st : Store) : Out (List D) :=
  match o with
  | some x => if acc.length < sizeLine then compL f r (acc ++ [x]) st else .bad
  | none => compL f r acc st
theorem compL_n {f : D → Store → Out (Option D)} {acc : List D} {st : Store} : compL f [] acc st = .ok acc st := rfl
theorem compL_c {f : D → Store → Out (Option D)} {d : D} {r acc : List D} {st : Store} : compL f (d :: r) acc st = (noEx (f d st)).bind (compS f r acc) := rfl
theorem compS_some {f : D → Store → Out (Option D)} {x : D} {r acc : List D} {st : Store} (h : acc.length < 16777216) : compS f r acc (some x) st = compL f r (acc ++ [x]) st := if_pos (by rw [sizeLine_eq]; exact h)
theorem compS_none {f : D → Store → Out (Option D)} {r acc : List D} {st : Store} : compS f r acc none st = compL f r acc st := rfl
/-- a for that folds a state: ds the items, s the state, enc how it lies -/
theorem forL_fold {α : Type} {f : D → Env → Store → SO} (step : α → D → α) (E : α → Env → Prop) {st : Store} (ok : D → Prop) (hs : ∀ d s ρ, ok d → E s ρ → ∃ ρ', f d ρ st = .nx ρ' st ∧ E (step s d) ρ') :
    ∀ (ds : List D) (s : α) (ρ : Env), (∀ d ∈ ds, ok d) → E s ρ → ∃ ρ', forL f ds ρ st = .nx ρ' st ∧ E (ds.foldl step s) ρ'
  | [], s, ρ, _, h => ⟨ρ, rfl, h⟩
  | d :: r, s, ρ, hd, h => by
    obtain ⟨ρ1, e1, h1⟩ := hs d s ρ (hd d List.mem_cons_self) h
    obtain ⟨ρ2, e2, h2⟩ := forL_fold step E ok hs r _ ρ1 (fun d h => hd d (List.mem_cons_of_mem _ h)) h1
    refine ⟨ρ2, ?_, h2⟩
    rw [forL_c, e1, loop_nx]
    exact e2
/-! ### slices, places -/
theorem cut_to {α : Type} (xs : List α) (b : Nat) : cutL xs none (some (b : Int)) = xs.take b := by
  unfold cutL
  rw [HT.sIx_none, HT.sIx_nat, List.drop_zero, Nat.sub_zero]
  by_cases h : b ≤ xs.length
  · rw [Nat.min_eq_left h]
  · rw [Nat.min_eq_right (by omega), List.take_of_length_le (Nat.le_refl _), List.take_of_length_le (by omega)]
theorem cut_from {α : Type} (xs : List α) (a : Nat) : cutL xs (some (a : Int)) none = xs.drop a := by
  unfold cutL
  rw [HT.sIx_none, HT.sIx_nat]
  by_cases h : a ≤ xs.length
  · rw [Nat.min_eq_left h, List.take_of_length_le (by rw [List.length_drop]; omega)]
  · rw [Nat.min_eq_right (by omega), List.drop_eq_nil_of_le (Nat.le_refl _), List.drop_eq_nil_of_le (by omega), List.take_nil]
theorem cut_in {α : Type} (xs : List α) (a b : Nat) : cutL xs (some (a : Int)) (some (b : Int)) = (xs.drop a).take (b - a) := by
  unfold cutL
  rw [HT.sIx_nat, HT.sIx_nat]
  by_cases h : a ≤ xs.length
  · rw [Nat.min_eq_left h]
    by_cases h2 : b ≤ xs.length
    · rw [Nat.min_eq_left h2]
    · rw [Nat.min_eq_right (by omega), List.take_of_length_le (by rw [List.length_drop]; omega), List.take_of_length_le (by rw [List.length_drop]; omega)]
  · rw [Nat.min_eq_right (a := a) (by omega), List.drop_eq_nil_of_le (Nat.le_refl _), List.drop_eq_nil_of_le (by omega)]
    simp
theorem cut_toI {α : Type} {xs : List α} {b : Int} (h : 0 ≤ b) : cutL xs none (some b) = xs.take b.toNat := by
  rw [← cut_to, Int.toNat_of_nonneg h]
theorem cut_fromI {α : Type} {xs : List α} {a : Int} (h : 0 ≤ a) : cutL xs (some a) none = xs.drop a.toNat := by
  rw [← cut_from, Int.toNat_of_nonneg h]
theorem cut_inI {α : Type} {xs : List α} {a b : Int} (h : 0 ≤ a) (h2 : 0 ≤ b) : cutL xs (some a) (some b) = (xs.drop a.toNat).take (b.toNat - a.toNat) := by
  rw [← cut_in, Int.toNat_of_nonneg h, Int.toNat_of_nonneg h2]
theorem at_nat {xs : List D} {i : Nat} (h : i < xs.length) : L2.atI xs (i : Int) = some xs[i] := by
  unfold L2.atI L2.ixN
  rw [if_pos (by omega), if_pos (by omega)]
  simp [h]
theorem at_map {L : List Int} {i : Nat} (h : i < L.length) : L2.atI (L.map D.int) (i : Int) = some (.int L[i]) := by
  rw [at_nat (by rw [List.length_map]; exact h), List.getElem_map]
theorem ix_nat {m i : Nat} (h : i < m) : L2.ixN m (i : Int) = some i := by
  unfold L2.ixN
  rw [if_pos (by omega), if_pos (by omega)]
  simp
theorem at_last {xs : List D} {x : D} : L2.atI (xs ++ [x]) (-1) = some x := by
  unfold L2.atI L2.ixN
  rw [if_neg (by decide), List.length_append, if_pos (by simp; omega)]
  have e : (-1 + ((xs.length + [x].length : Nat) : Int)).toNat = xs.length := by simp; omega
  rw [e]
  simp
theorem ix_last {m : Nat} : L2.ixN (m + 1) (-1) = some m := by
  unfold L2.ixN
  rw [if_neg (by decide), if_pos (by omega)]
  have e : (-1 + ((m + 1 : Nat) : Int)).toNat = m := by omega
  rw [e]
end Gb

/-! What the laws' own helpers give: draws, cells, boxes. -/
namespace Gb
open PySem

def f7_law_take : Fn := ⟨2, 6,
    (.seq (.ite (.cmp .gt (.idx (.var 0) (.con (.int 0))) (.con (.int 0))) (.seq (.asg (.nm 5 false) (.bin .mod (.bi .int (.cons (.idx (.var 0) (.con (.int 0))) .nil)) (.var 1)))
    (.seq (.sub 0 (.con (.int 0)) (.bin .fdiv (.idx (.var 0) (.con (.int 0))) (.var 1)))
    (.ret (.var 5)))) .pass)
    (.seq (.sub 0 (.con (.int 2)) (.bin .add (.idx (.var 0) (.con (.int 2))) (.con (.int 1))))
    (.seq (.asg (.nm 2 false) (.bin .mod (.bi .int (.cons (.bin .mul (.bin .add (.idx (.var 0) (.con (.int 1))) (.bin .mul (.con (.int 48271)) (.idx (.var 0) (.con (.int 2))))) (.bin .add (.con (.int 39373)) (.idx (.var 0) (.con (.int 2))))) .nil)) (.con (.int 2147483647))))
    (.seq (.asg (.nm 3 false) (.bin .add (.bin .mod (.bi .int (.cons (.var 2) .nil)) (.con (.int 40009))) (.con (.int 7))))
    (.seq (.asg (.nm 4 false) (.bin .mod (.bi .int (.cons (.bin .mul (.bin .add (.bin .add (.var 2) (.idx (.var 0) (.con (.int 2)))) (.bin .fdiv (.idx (.var 0) (.con (.int 1))) (.con (.int 1000003)))) (.var 3)) .nil)) (.con (.int 2147483629))))
    (.ret (.bin .mod (.bi .int (.cons (.bin .fdiv (.bin .mod (.bi .int (.cons (.bin .add (.bin .mul (.var 4) (.con (.int 48271))) (.var 2)) .nil)) (.con (.int 2147483587))) (.con (.int 64))) .nil)) (.var 1)))))))), false⟩
def f8_law_cells : Fn := ⟨2, 6,
    (.seq (.asg (.nm 2 true) (.or (.bi .list (.cons (.slc (.var 0) .nil (.var 1)) .nil)) (.lst (.cons (.con (.int 0)) .nil))))
    (.seq (.for (.tp [(3, false), (4, false)]) (.enm (.slc (.var 0) (.var 1) (.con (.int 63)))) (.seq (.asg (.nm 5 false) (.bin .mod (.bi .int (.cons (.var 3) .nil)) (.var 1)))
    (.sub 2 (.var 5) (.bin .add (.idx (.var 2) (.var 5)) (.bin .mul (.var 4) (.bin .add (.var 3) (.con (.int 2))))))))
    (.seq (.frz 2)
    (.ret (.var 2))))), false⟩
def f10_law_lists : Fn := ⟨1, 2,
    (.ret (.ite (.isi (.var 0) [.list, .tuple]) (.comp [1] (.nm 1 false) (.seq (.var 0)) (.con (.bl true)) (.call 10 (.cons (.var 1) .nil))) (.var 0))), false⟩
def f11_law_same : Fn := ⟨2, 5,
    (.seq (.ite (.isi (.var 1) [.list, .tuple]) (.seq (.ite (.or (.cmp .ne (.isi (.var 0) [.list]) (.isi (.var 1) [.list])) (.cmp .ne (.isi (.var 0) [.tuple]) (.isi (.var 1) [.tuple]))) (.ret (.con (.bl false))) .pass)
    (.ret (.and (.cmp .eq (.bi .len (.cons (.var 0) .nil)) (.bi .len (.cons (.var 1) .nil))) (.bi .all (.cons (.comp [3, 4] (.tp [(3, false), (4, false)]) (.zip (.var 0) (.var 1)) (.con (.bl true)) (.call 11 (.cons (.var 3) (.cons (.var 4) .nil)))) .nil))))) .pass)
    (.seq (.ite (.isi (.var 1) [.dict]) (.seq (.ite (.or (.not (.isi (.var 0) [.dict])) (.cmp .ne (.bi .sorted (.cons (.var 0) .nil)) (.bi .sorted (.cons (.var 1) .nil)))) (.ret (.con (.bl false))) .pass)
    (.ret (.bi .all (.cons (.comp [2] (.nm 2 false) (.seq (.var 1)) (.con (.bl true)) (.call 11 (.cons (.idx (.var 0) (.var 2)) (.cons (.idx (.var 1) (.var 2)) .nil)))) .nil)))) .pass)
    (.seq (.ite (.or (.cmp .isN (.var 1) (.con (.non))) (.isi (.var 1) [.bool, .str])) (.ret (.and (.cmp .eq (.var 0) (.var 1)) (.and (.cmp .eq (.isi (.var 0) [.bool]) (.isi (.var 1) [.bool])) (.cmp .eq (.cmp .isN (.var 0) (.con (.non))) (.cmp .isN (.var 1) (.con (.non))))))) .pass)
    (.ret (.and (.isi (.var 0) [.int]) (.and (.not (.isi (.var 0) [.bool])) (.cmp .eq (.var 0) (.var 1)))))))), false⟩
def f12_law_kin : Fn := ⟨3, 6,
    (.seq (.asg (.nm 3 false) (.bin .add (.con (.int 1)) (.call 7 (.cons (.var 0) (.cons (.var 1) .nil)))))
    (.seq (.asg (.nm 4 false) (.bin .add (.var 3) (.call 7 (.cons (.var 0) (.cons (.bin .sub (.bin .add (.var 1) (.con (.int 1))) (.var 3)) .nil)))))
    (.seq (.asg (.nm 5 false) (.call 7 (.cons (.var 0) (.cons (.bin .add (.var 2) (.con (.int 1))) .nil))))
    (.ret (.tup (.cons (.var 4) (.cons (.var 3) (.cons (.ite (.cmp .eq (.var 4) (.var 3)) (.bi .max2 (.cons (.con (.int 1)) (.cons (.var 5) .nil))) (.var 5)) .nil)))))))), false⟩
def f22_tupled : Fn := ⟨1, 2,
    (.ret (.ite (.isi (.var 0) [.list, .tuple]) (.bi .tuple (.cons (.comp [1] (.nm 1 false) (.seq (.var 0)) (.con (.bl true)) (.call 22 (.cons (.var 1) .nil))) .nil)) (.var 0))), false⟩
def boxFn (c : Int) : Fn := ⟨2, 3,
    (.seq (.asg (.nm 2 false) (.ite (.cmp .lt (.var 1) (.bi .len (.cons (.var 0) .nil))) (.idx (.var 0) (.var 1)) (.con (.int 0))))
    (.ret (.lst (.cons (.bin .mul (.bi .abs (.cons (.var 2) .nil)) (.bi .int (.cons (.cmp .ge (.bi .abs (.cons (.var 2) .nil)) (.bin .pow (.con (.int 10)) (.con (.int 18)))) .nil))) (.cons (.bin .add (.bin .add (.bin .mod (.bi .int (.cons (.var 2) .nil)) (.con (.int 2305843009213693951))) (.bin .mul (.con (.int 39373)) (.var 1))) (.con (.int c))) (.cons (.con (.int 0)) .nil)))))), true⟩

/-- the box j: three ints; m: at most so many draws so far -/
def Tin (st : Store) (j m : Nat) : Prop := ∃ a b c : Int, st[j]? = some [.int a, .int b, .int c] ∧ 0 ≤ b ∧ b < 2 ^ 62 ∧ 0 ≤ c ∧ c ≤ m
theorem Tin.weak {st : Store} {j m m' : Nat} (h : Tin st j m) (hm : m ≤ m') : Tin st j m' := by
  obtain ⟨a, b, c, h1, h2, h3, h4, h5⟩ := h
  exact ⟨a, b, c, h1, h2, h3, h4, by omega⟩
theorem at0 {x y z : D} : L2.atI [x, y, z] 0 = some x := rfl
theorem at1 {x y z : D} : L2.atI [x, y, z] 1 = some y := rfl
theorem at2 {x y z : D} : L2.atI [x, y, z] 2 = some z := rfl
theorem ix0 : L2.ixN 3 0 = some 0 := rfl
theorem ix2 : L2.ixN 3 2 = some 2 := rfl
section
variable {FT : Nat → Option Fn} {n k : Nat}
theorem take_ok {K : Nat} (hT : FT 7 = some f7_law_take) {st : Store} {j m : Nat} {top : Int} (h : Tin st j m) (hm : m < 2 ^ 61) (h0 : 0 < top) (h1 : top < 2 ^ 62) (hk : 1 ≤ K) :
    ∃ (r : Int) (st' : Store), callN FT n K 7 [.box j, .int top] st = .ok (.int r) st' ∧ 0 ≤ r ∧ r < top ∧ Tin st' j (m + 1) := by
  obtain ⟨k, rfl⟩ : ∃ k, K = k + 1 := ⟨K - 1, by omega⟩
  obtain ⟨a, b, c, e, b0, b1, c0, c1⟩ := h
  have hj : j < st.length := (List.getElem?_eq_some_iff.mp e).1
  by_cases ha : 0 < a
  · refine ⟨a % top, st.set j [.int (a / top), .int b, .int c], ?_, Int.emod_nonneg _ (by omega), Int.emod_lt_of_pos _ h0, ?_⟩
    · rw [callN, hT]
      simp (disch := omega) only [f7_law_take, evE, evA, evs, evs', evI, evsP, exS, bind_ok, bind_ex, bind_bad, so_ok, so_ex, so_bad, then_nx, then_rt, then_bk, then_ex, then_bad, lift_some, lift_none, soE_some', soE_none, noEx_ok, p_nm, p_tup, p_lst, pN_nil, pN_cons, p_frz, p_fls, p_int, p_bl, p_non, p_tupm, p_lstm, f_int, f_bl, f_str, f_non, f_tup, f_lst, f_fls, f_box, f_scr, u_int, u_bl, u_str, u_non, u_tup, u_lst, u_fls, t_bl, t_non, t_int, t_tup, t_lst, t_mls, t_fls, bd_int, bk_fls, bk_flsb, bk_int, bk_bl, bk_non, bk_str, bk_tup, bk_lst, bk_box, back_rt, back_nx, back_ex, idx_int, ix_tup, ix_lst, ix_mls, ix_fls, ix_box, sl_tup, sl_lst, sl_mls, sl_fls, sl_scr, b_add, b_sub, c_lt, c_le, c_gt, c_ge, c_eq, c_ne, c_eqB, c_neB, c_isN, c_notN, i_int, i_intB, i_abs, i_max, i_min, l_lst, l_tup, l_mls, l_fls, li_lst, li_tup, li_fls, tu_lst, tu_tup, tu_fls, tu_mls, su_2, frzM, getM, isS, subM, isNil, isNon, Gb.start, Option.bind_some, Option.bind_none, Option.map_some, Option.map_none, id_eq, List.getElem?_cons_zero, List.getElem?_cons_succ, List.getElem?_nil, List.set_cons_zero, List.set_cons_succ, List.map_cons, List.map_nil, List.length_cons, List.length_nil, List.cons_append, List.nil_append, List.replicate_succ, List.replicate_zero, Nat.reduceSub, Nat.reduceAdd, Nat.zero_add, Nat.reduceLT, if_true, if_false, reduceIte, Bool.false_eq_true, Bool.not_true, Bool.not_false, Bool.not_not, decide_true, decide_false, decide_not, is0_non, is0_bl, is0_int, is0_str, is0_tup, is0_lst, is0_mls, is0_fls, is1_non, is1_bl, is1_int, is1_str, is1_tup, is1_lst, is1_mls, is1_fls, is2_non, is2_bl, is2_int, is2_str, is2_tup, is2_lst, is2_mls, is2_fls, is3_non, is3_bl, is3_int, is3_str, is3_tup, is3_lst, is3_mls, is3_fls, is4_non, is4_bl, is4_int, is4_str, is4_tup, is4_lst, is4_mls, is4_fls, is5_non, is5_bl, is5_int, is5_str, is5_tup, is5_lst, is5_mls, is5_fls, is6_non, is6_bl, is6_int, is6_str, is6_tup, is6_lst, is6_mls, is6_fls, is7_non, is7_bl, is7_int, is7_str, is7_tup, is7_lst, is7_mls, is7_fls, beq_self_eq_true, Bool.true_beq, Bool.false_beq, Bool.and_true, Bool.true_and, Bool.and_false, Bool.false_and, Bool.or_true, Bool.true_or, Bool.or_false, Bool.false_or, wipeE, b_mod, b_fdiv, e, at0, ix0, ha]
    · exact ⟨a / top, b, c, by rw [List.getElem?_set_self hj], b0, b1, c0, by omega⟩
  · rw [callN, hT]
    have q1 : 0 ≤ (b + 48271 * (c + 1)) * (39373 + (c + 1)) % 2147483647 := Int.emod_nonneg _ (by decide)
    have q2 : (b + 48271 * (c + 1)) * (39373 + (c + 1)) % 2147483647 < 2147483647 := Int.emod_lt_of_pos _ (by decide)
    simp (disch := omega) only [f7_law_take, evE, evA, evs, evs', evI, evsP, exS, bind_ok, bind_ex, bind_bad, so_ok, so_ex, so_bad, then_nx, then_rt, then_bk, then_ex, then_bad, lift_some, lift_none, soE_some', soE_none, noEx_ok, p_nm, p_tup, p_lst, pN_nil, pN_cons, p_frz, p_fls, p_int, p_bl, p_non, p_tupm, p_lstm, f_int, f_bl, f_str, f_non, f_tup, f_lst, f_fls, f_box, f_scr, u_int, u_bl, u_str, u_non, u_tup, u_lst, u_fls, t_bl, t_non, t_int, t_tup, t_lst, t_mls, t_fls, bd_int, bk_fls, bk_flsb, bk_int, bk_bl, bk_non, bk_str, bk_tup, bk_lst, bk_box, back_rt, back_nx, back_ex, idx_int, ix_tup, ix_lst, ix_mls, ix_fls, ix_box, sl_tup, sl_lst, sl_mls, sl_fls, sl_scr, b_add, b_sub, c_lt, c_le, c_gt, c_ge, c_eq, c_ne, c_eqB, c_neB, c_isN, c_notN, i_int, i_intB, i_abs, i_max, i_min, l_lst, l_tup, l_mls, l_fls, li_lst, li_tup, li_fls, tu_lst, tu_tup, tu_fls, tu_mls, su_2, frzM, getM, isS, subM, isNil, isNon, Gb.start, Option.bind_some, Option.bind_none, Option.map_some, Option.map_none, id_eq, List.getElem?_cons_zero, List.getElem?_cons_succ, List.getElem?_nil, List.set_cons_zero, List.set_cons_succ, List.map_cons, List.map_nil, List.length_cons, List.length_nil, List.cons_append, List.nil_append, List.replicate_succ, List.replicate_zero, Nat.reduceSub, Nat.reduceAdd, Nat.zero_add, Nat.reduceLT, if_true, if_false, reduceIte, Bool.false_eq_true, Bool.not_true, Bool.not_false, Bool.not_not, decide_true, decide_false, decide_not, is0_non, is0_bl, is0_int, is0_str, is0_tup, is0_lst, is0_mls, is0_fls, is1_non, is1_bl, is1_int, is1_str, is1_tup, is1_lst, is1_mls, is1_fls, is2_non, is2_bl, is2_int, is2_str, is2_tup, is2_lst, is2_mls, is2_fls, is3_non, is3_bl, is3_int, is3_str, is3_tup, is3_lst, is3_mls, is3_fls, is4_non, is4_bl, is4_int, is4_str, is4_tup, is4_lst, is4_mls, is4_fls, is5_non, is5_bl, is5_int, is5_str, is5_tup, is5_lst, is5_mls, is5_fls, is6_non, is6_bl, is6_int, is6_str, is6_tup, is6_lst, is6_mls, is6_fls, is7_non, is7_bl, is7_int, is7_str, is7_tup, is7_lst, is7_mls, is7_fls, beq_self_eq_true, Bool.true_beq, Bool.false_beq, Bool.and_true, Bool.true_and, Bool.and_false, Bool.false_and, Bool.or_true, Bool.true_or, Bool.or_false, Bool.false_or, wipeE, b_mod, b_fdiv, b_mulr, e, at0, at1, at2, ix0, ix2, ha, List.getElem?_set_self hj]
    exact ⟨_, _, rfl, Int.emod_nonneg _ (by omega), Int.emod_lt_of_pos _ h0, a, b, c + 1, List.getElem?_set_self hj, b0, b1, by omega, by omega⟩
end
section
variable {FT : Nat → Option Fn} {n k : Nat} {st : Store}
theorem cells_ok {K : Nat} (hT : FT 8 = some f8_law_cells) {ns : List Int} {most : Nat} (h1 : 0 < most) (h2 : most ≤ 3) (hk : 1 ≤ K) :
    ∃ L : List Int, callN FT n K 8 [.scr ns, .int (most : Int)] st = .ok (.lst (L.map .int)) st ∧ 1 ≤ L.length ∧ L.length ≤ 3 := by
  obtain ⟨k, rfl⟩ : ∃ k, K = k + 1 := ⟨K - 1, by omega⟩
  rw [callN, hT]
  cases ht : ns.take most with
  | nil =>
    have hd : ns = [] := by
      cases ns with
      | nil => rfl
      | cons x xs => cases most with
        | zero => omega
        | succ m => cases ht
    subst hd
    refine ⟨[0], ?_, by simp, by simp⟩
    simp (disch := omega) only [f8_law_cells, evE, evA, evs, evs', evI, evsP, exS, bind_ok, bind_ex, bind_bad, so_ok, so_ex, so_bad, then_nx, then_rt, then_bk, then_ex, then_bad, lift_some, lift_none, soE_some', soE_none, noEx_ok, p_nm, p_tup, p_lst, pN_nil, pN_cons, p_frz, p_fls, p_int, p_bl, p_non, p_tupm, p_lstm, f_int, f_bl, f_str, f_non, f_tup, f_lst, f_fls, f_box, f_scr, u_int, u_bl, u_str, u_non, u_tup, u_lst, u_fls, t_bl, t_non, t_int, t_tup, t_lst, t_mls, t_fls, bd_int, bk_fls, bk_flsb, bk_int, bk_bl, bk_non, bk_str, bk_tup, bk_lst, bk_box, back_rt, back_nx, back_ex, idx_int, ix_tup, ix_lst, ix_mls, ix_fls, ix_box, sl_tup, sl_lst, sl_mls, sl_fls, sl_scr, b_add, b_sub, c_lt, c_le, c_gt, c_ge, c_eq, c_ne, c_eqB, c_neB, c_isN, c_notN, i_int, i_intB, i_abs, i_max, i_min, l_lst, l_tup, l_mls, l_fls, li_lst, li_tup, li_fls, tu_lst, tu_tup, tu_fls, tu_mls, su_2, frzM, getM, isS, subM, isNil, isNon, Gb.start, Option.bind_some, Option.bind_none, Option.map_some, Option.map_none, id_eq, List.getElem?_cons_zero, List.getElem?_cons_succ, List.getElem?_nil, List.set_cons_zero, List.set_cons_succ, List.map_cons, List.map_nil, List.length_cons, List.length_nil, List.cons_append, List.nil_append, List.replicate_succ, List.replicate_zero, Nat.reduceSub, Nat.reduceAdd, Nat.zero_add, Nat.reduceLT, if_true, if_false, reduceIte, Bool.false_eq_true, Bool.not_true, Bool.not_false, Bool.not_not, decide_true, decide_false, decide_not, is0_non, is0_bl, is0_int, is0_str, is0_tup, is0_lst, is0_mls, is0_fls, is1_non, is1_bl, is1_int, is1_str, is1_tup, is1_lst, is1_mls, is1_fls, is2_non, is2_bl, is2_int, is2_str, is2_tup, is2_lst, is2_mls, is2_fls, is3_non, is3_bl, is3_int, is3_str, is3_tup, is3_lst, is3_mls, is3_fls, is4_non, is4_bl, is4_int, is4_str, is4_tup, is4_lst, is4_mls, is4_fls, is5_non, is5_bl, is5_int, is5_str, is5_tup, is5_lst, is5_mls, is5_fls, is6_non, is6_bl, is6_int, is6_str, is6_tup, is6_lst, is6_mls, is6_fls, is7_non, is7_bl, is7_int, is7_str, is7_tup, is7_lst, is7_mls, is7_fls, beq_self_eq_true, Bool.true_beq, Bool.false_beq, Bool.and_true, Bool.true_and, Bool.and_false, Bool.false_and, Bool.or_true, Bool.true_or, Bool.or_false, Bool.false_or, wipeE, cut_toI, cut_inI, Int.toNat_natCast, ht, List.isEmpty_nil, if_sz, enumL, List.drop_nil, List.take_nil, List.mapIdx_nil, forL]
  | cons x xs =>
    simp (disch := omega) only [f8_law_cells, evE, evA, evs, evs', evI, evsP, exS, bind_ok, bind_ex, bind_bad, so_ok, so_ex, so_bad, then_nx, then_rt, then_bk, then_ex, then_bad, lift_some, lift_none, soE_some', soE_none, noEx_ok, p_nm, p_tup, p_lst, pN_nil, pN_cons, p_frz, p_fls, p_int, p_bl, p_non, p_tupm, p_lstm, f_int, f_bl, f_str, f_non, f_tup, f_lst, f_fls, f_box, f_scr, u_int, u_bl, u_str, u_non, u_tup, u_lst, u_fls, t_bl, t_non, t_int, t_tup, t_lst, t_mls, t_fls, bd_int, bk_fls, bk_flsb, bk_int, bk_bl, bk_non, bk_str, bk_tup, bk_lst, bk_box, back_rt, back_nx, back_ex, idx_int, ix_tup, ix_lst, ix_mls, ix_fls, ix_box, sl_tup, sl_lst, sl_mls, sl_fls, sl_scr, b_add, b_sub, c_lt, c_le, c_gt, c_ge, c_eq, c_ne, c_eqB, c_neB, c_isN, c_notN, i_int, i_intB, i_abs, i_max, i_min, l_lst, l_tup, l_mls, l_fls, li_lst, li_tup, li_fls, tu_lst, tu_tup, tu_fls, tu_mls, su_2, frzM, getM, isS, subM, isNil, isNon, Gb.start, Option.bind_some, Option.bind_none, Option.map_some, Option.map_none, id_eq, List.getElem?_cons_zero, List.getElem?_cons_succ, List.getElem?_nil, List.set_cons_zero, List.set_cons_succ, List.map_cons, List.map_nil, List.length_cons, List.length_nil, List.cons_append, List.nil_append, List.replicate_succ, List.replicate_zero, Nat.reduceSub, Nat.reduceAdd, Nat.zero_add, Nat.reduceLT, if_true, if_false, reduceIte, Bool.false_eq_true, Bool.not_true, Bool.not_false, Bool.not_not, decide_true, decide_false, decide_not, is0_non, is0_bl, is0_int, is0_str, is0_tup, is0_lst, is0_mls, is0_fls, is1_non, is1_bl, is1_int, is1_str, is1_tup, is1_lst, is1_mls, is1_fls, is2_non, is2_bl, is2_int, is2_str, is2_tup, is2_lst, is2_mls, is2_fls, is3_non, is3_bl, is3_int, is3_str, is3_tup, is3_lst, is3_mls, is3_fls, is4_non, is4_bl, is4_int, is4_str, is4_tup, is4_lst, is4_mls, is4_fls, is5_non, is5_bl, is5_int, is5_str, is5_tup, is5_lst, is5_mls, is5_fls, is6_non, is6_bl, is6_int, is6_str, is6_tup, is6_lst, is6_mls, is6_fls, is7_non, is7_bl, is7_int, is7_str, is7_tup, is7_lst, is7_mls, is7_fls, beq_self_eq_true, Bool.true_beq, Bool.false_beq, Bool.and_true, Bool.true_and, Bool.and_false, Bool.false_and, Bool.or_true, Bool.true_or, Bool.or_false, Bool.false_or, wipeE, cut_toI, cut_inI, Int.toNat_natCast, ht, List.isEmpty_cons]
    generalize hr : forL _ _ _ _ = r
    let P : List D → Env → Store → Prop := fun ds ρ st' => ∃ (L : List Int) (a b c : Option D), ρ = [some (.scr ns), some (.int (most : Int)), some (.mls (L.map .int)), a, b, c] ∧ st' = st ∧ L.length = (ns.take most).length ∧ (ds ≠ [] → L.length = most) ∧ ∀ d ∈ ds, ∃ (i : Nat) (z : Int), d = .tup [.int (i : Nat), .int z] ∧ i < 64
    obtain ⟨ρ', st', rfl, L, a, b, c, rfl, rfl, e1, _⟩ : ∃ ρ' st', r = .nx ρ' st' ∧ P [] ρ' st' := by
      rw [← hr]
      refine forL_run P ?_ _ _ _ ?_
      · rintro d r ρ st' ⟨L, a, b, c, rfl, rfl, e1, e2, e3⟩
        obtain ⟨i, z, rfl, hi⟩ := e3 d List.mem_cons_self
        have hl := e2 (by simp)
        have hm : ((i : Nat) : Int) % (most : Int) = ((i % most : Nat) : Int) := rfl
        have hlt : i % most < L.length := by rw [hl]; exact Nat.mod_lt _ h1
        simp (disch := omega) only [evE, evA, evs, evs', evI, evsP, exS, bind_ok, bind_ex, bind_bad, so_ok, so_ex, so_bad, then_nx, then_rt, then_bk, then_ex, then_bad, lift_some, lift_none, soE_some', soE_none, noEx_ok, p_nm, p_tup, p_lst, pN_nil, pN_cons, p_frz, p_fls, p_int, p_bl, p_non, p_tupm, p_lstm, f_int, f_bl, f_str, f_non, f_tup, f_lst, f_fls, f_box, f_scr, u_int, u_bl, u_str, u_non, u_tup, u_lst, u_fls, t_bl, t_non, t_int, t_tup, t_lst, t_mls, t_fls, bd_int, bk_fls, bk_flsb, bk_int, bk_bl, bk_non, bk_str, bk_tup, bk_lst, bk_box, back_rt, back_nx, back_ex, idx_int, ix_tup, ix_lst, ix_mls, ix_fls, ix_box, sl_tup, sl_lst, sl_mls, sl_fls, sl_scr, b_add, b_sub, c_lt, c_le, c_gt, c_ge, c_eq, c_ne, c_eqB, c_neB, c_isN, c_notN, i_int, i_intB, i_abs, i_max, i_min, l_lst, l_tup, l_mls, l_fls, li_lst, li_tup, li_fls, tu_lst, tu_tup, tu_fls, tu_mls, su_2, frzM, getM, isS, subM, isNil, isNon, Gb.start, Option.bind_some, Option.bind_none, Option.map_some, Option.map_none, id_eq, List.getElem?_cons_zero, List.getElem?_cons_succ, List.getElem?_nil, List.set_cons_zero, List.set_cons_succ, List.map_cons, List.map_nil, List.length_cons, List.length_nil, List.cons_append, List.nil_append, List.replicate_succ, List.replicate_zero, Nat.reduceSub, Nat.reduceAdd, Nat.zero_add, Nat.reduceLT, if_true, if_false, reduceIte, Bool.false_eq_true, Bool.not_true, Bool.not_false, Bool.not_not, decide_true, decide_false, decide_not, is0_non, is0_bl, is0_int, is0_str, is0_tup, is0_lst, is0_mls, is0_fls, is1_non, is1_bl, is1_int, is1_str, is1_tup, is1_lst, is1_mls, is1_fls, is2_non, is2_bl, is2_int, is2_str, is2_tup, is2_lst, is2_mls, is2_fls, is3_non, is3_bl, is3_int, is3_str, is3_tup, is3_lst, is3_mls, is3_fls, is4_non, is4_bl, is4_int, is4_str, is4_tup, is4_lst, is4_mls, is4_fls, is5_non, is5_bl, is5_int, is5_str, is5_tup, is5_lst, is5_mls, is5_fls, is6_non, is6_bl, is6_int, is6_str, is6_tup, is6_lst, is6_mls, is6_fls, is7_non, is7_bl, is7_int, is7_str, is7_tup, is7_lst, is7_mls, is7_fls, beq_self_eq_true, Bool.true_beq, Bool.false_beq, Bool.and_true, Bool.true_and, Bool.and_false, Bool.false_and, Bool.or_true, Bool.true_or, Bool.or_false, Bool.false_or, wipeE, b_mod, b_mulr, hm, at_map hlt, List.length_map, ix_nat hlt]
        refine ⟨_, _, rfl, L.set (i % most) (L[i % most] + z * ((i : Int) + 2)), some (.int (i : Nat)), some (.int z), some (.int ((i % most : Nat) : Int)), by rw [List.map_set], rfl, by rw [List.length_set]; exact e1, fun _ => by rw [List.length_set]; exact hl, fun d hd => e3 d (List.mem_cons_of_mem _ hd)⟩
      · refine ⟨x :: xs, none, none, none, rfl, rfl, by rw [ht], fun h => ?_, fun d hd => ?_⟩
        · rw [← ht, List.length_take]
          by_cases hn : most ≤ ns.length
          · omega
          · exact absurd (by rw [List.drop_eq_nil_of_le (by omega), List.take_nil]; rfl) h
        · unfold enumL at hd
          obtain ⟨i, hi, rfl⟩ := List.mem_mapIdx.mp hd
          rw [List.length_map, List.length_take] at hi
          refine ⟨i, _, by rw [List.getElem_map], ?_⟩
          have : Int.toNat 63 = 63 := rfl
          omega
    simp (disch := omega) only [evE, evA, evs, evs', evI, evsP, exS, bind_ok, bind_ex, bind_bad, so_ok, so_ex, so_bad, then_nx, then_rt, then_bk, then_ex, then_bad, lift_some, lift_none, soE_some', soE_none, noEx_ok, p_nm, p_tup, p_lst, pN_nil, pN_cons, p_frz, p_fls, p_int, p_bl, p_non, p_tupm, p_lstm, f_int, f_bl, f_str, f_non, f_tup, f_lst, f_fls, f_box, f_scr, u_int, u_bl, u_str, u_non, u_tup, u_lst, u_fls, t_bl, t_non, t_int, t_tup, t_lst, t_mls, t_fls, bd_int, bk_fls, bk_flsb, bk_int, bk_bl, bk_non, bk_str, bk_tup, bk_lst, bk_box, back_rt, back_nx, back_ex, idx_int, ix_tup, ix_lst, ix_mls, ix_fls, ix_box, sl_tup, sl_lst, sl_mls, sl_fls, sl_scr, b_add, b_sub, c_lt, c_le, c_gt, c_ge, c_eq, c_ne, c_eqB, c_neB, c_isN, c_notN, i_int, i_intB, i_abs, i_max, i_min, l_lst, l_tup, l_mls, l_fls, li_lst, li_tup, li_fls, tu_lst, tu_tup, tu_fls, tu_mls, su_2, frzM, getM, isS, subM, isNil, isNon, Gb.start, Option.bind_some, Option.bind_none, Option.map_some, Option.map_none, id_eq, List.getElem?_cons_zero, List.getElem?_cons_succ, List.getElem?_nil, List.set_cons_zero, List.set_cons_succ, List.map_cons, List.map_nil, List.length_cons, List.length_nil, List.cons_append, List.nil_append, List.replicate_succ, List.replicate_zero, Nat.reduceSub, Nat.reduceAdd, Nat.zero_add, Nat.reduceLT, if_true, if_false, reduceIte, Bool.false_eq_true, Bool.not_true, Bool.not_false, Bool.not_not, decide_true, decide_false, decide_not, is0_non, is0_bl, is0_int, is0_str, is0_tup, is0_lst, is0_mls, is0_fls, is1_non, is1_bl, is1_int, is1_str, is1_tup, is1_lst, is1_mls, is1_fls, is2_non, is2_bl, is2_int, is2_str, is2_tup, is2_lst, is2_mls, is2_fls, is3_non, is3_bl, is3_int, is3_str, is3_tup, is3_lst, is3_mls, is3_fls, is4_non, is4_bl, is4_int, is4_str, is4_tup, is4_lst, is4_mls, is4_fls, is5_non, is5_bl, is5_int, is5_str, is5_tup, is5_lst, is5_mls, is5_fls, is6_non, is6_bl, is6_int, is6_str, is6_tup, is6_lst, is6_mls, is6_fls, is7_non, is7_bl, is7_int, is7_str, is7_tup, is7_lst, is7_mls, is7_fls, beq_self_eq_true, Bool.true_beq, Bool.false_beq, Bool.and_true, Bool.true_and, Bool.and_false, Bool.false_and, Bool.or_true, Bool.true_or, Bool.or_false, Bool.false_or, wipeE]
    refine ⟨L, rfl, ?_, ?_⟩
    · rw [e1, ht]; simp
    · rw [e1, List.length_take]; omega
theorem Tin_new {A B : Int} (h0 : 0 ≤ B) (h1 : B < 2 ^ 62) : Tin (st ++ [[.int A, .int B, .int 0]]) st.length 0 := by
  refine ⟨A, B, 0, ?_, h0, h1, Int.le_refl _, Int.le_refl _⟩
  rw [List.getElem?_append_right (Nat.le_refl _), Nat.sub_self]
  rfl
theorem pow18 : binD .pow (.int 10) (.int 18) = some (.int 1000000000000000000) := rfl
theorem box_ok {K : Nat} {b : Nat} {c : Int} (hT : FT b = some (boxFn c)) (h0 : 0 ≤ c) (h1 : c < 1000000) {L : List Int} {i : Nat} (hi : i < L.length) (hl : L.length ≤ 3) (hk : 1 ≤ K) :
    ∃ st', callN FT n K b [.lst (L.map .int), .int (i : Nat)] st = .ok (.box st.length) st' ∧ Tin st' st.length 0 := by
  obtain ⟨k, rfl⟩ : ∃ k, K = k + 1 := ⟨K - 1, by omega⟩
  have hc : (i : Int) < (L.length : Int) := by omega
  rw [callN, hT]
  simp (disch := omega) only [boxFn, evE, evA, evs, evs', evI, evsP, exS, bind_ok, bind_ex, bind_bad, so_ok, so_ex, so_bad, then_nx, then_rt, then_bk, then_ex, then_bad, lift_some, lift_none, soE_some', soE_none, noEx_ok, p_nm, p_tup, p_lst, pN_nil, pN_cons, p_frz, p_fls, p_int, p_bl, p_non, p_tupm, p_lstm, f_int, f_bl, f_str, f_non, f_tup, f_lst, f_fls, f_box, f_scr, u_int, u_bl, u_str, u_non, u_tup, u_lst, u_fls, t_bl, t_non, t_int, t_tup, t_lst, t_mls, t_fls, bd_int, bk_fls, bk_flsb, bk_int, bk_bl, bk_non, bk_str, bk_tup, bk_lst, bk_box, back_rt, back_nx, back_ex, idx_int, ix_tup, ix_lst, ix_mls, ix_fls, ix_box, sl_tup, sl_lst, sl_mls, sl_fls, sl_scr, b_add, b_sub, c_lt, c_le, c_gt, c_ge, c_eq, c_ne, c_eqB, c_neB, c_isN, c_notN, i_int, i_intB, i_abs, i_max, i_min, l_lst, l_tup, l_mls, l_fls, li_lst, li_tup, li_fls, tu_lst, tu_tup, tu_fls, tu_mls, su_2, frzM, getM, isS, subM, isNil, isNon, Gb.start, Option.bind_some, Option.bind_none, Option.map_some, Option.map_none, id_eq, List.getElem?_cons_zero, List.getElem?_cons_succ, List.getElem?_nil, List.set_cons_zero, List.set_cons_succ, List.map_cons, List.map_nil, List.length_cons, List.length_nil, List.cons_append, List.nil_append, List.replicate_succ, List.replicate_zero, Nat.reduceSub, Nat.reduceAdd, Nat.zero_add, Nat.reduceLT, if_true, if_false, reduceIte, Bool.false_eq_true, Bool.not_true, Bool.not_false, Bool.not_not, decide_true, decide_false, decide_not, is0_non, is0_bl, is0_int, is0_str, is0_tup, is0_lst, is0_mls, is0_fls, is1_non, is1_bl, is1_int, is1_str, is1_tup, is1_lst, is1_mls, is1_fls, is2_non, is2_bl, is2_int, is2_str, is2_tup, is2_lst, is2_mls, is2_fls, is3_non, is3_bl, is3_int, is3_str, is3_tup, is3_lst, is3_mls, is3_fls, is4_non, is4_bl, is4_int, is4_str, is4_tup, is4_lst, is4_mls, is4_fls, is5_non, is5_bl, is5_int, is5_str, is5_tup, is5_lst, is5_mls, is5_fls, is6_non, is6_bl, is6_int, is6_str, is6_tup, is6_lst, is6_mls, is6_fls, is7_non, is7_bl, is7_int, is7_str, is7_tup, is7_lst, is7_mls, is7_fls, beq_self_eq_true, Bool.true_beq, Bool.false_beq, Bool.and_true, Bool.true_and, Bool.and_false, Bool.false_and, Bool.or_true, Bool.true_or, Bool.or_false, Bool.false_or, wipeE, List.length_map, hc, at_map hi, pow18, b_mulB, b_mull, b_mod, if_sz]
  have q1 : 0 ≤ L[i] % 2305843009213693951 := Int.emod_nonneg _ (by decide)
  have q2 : L[i] % 2305843009213693951 < 2305843009213693951 := Int.emod_lt_of_pos _ (by decide)
  exact ⟨_, rfl, Tin_new (by omega) (by omega)⟩
/-- plain data, so many deep -/
def plD : Nat → D → Bool
  | _, .non => true
  | _, .bl _ => true
  | _, .int _ => true
  | _, .str s => SeqAt.shaped (.str s)
  | k + 1, .tup xs => xs.all (plD k) && decide (xs.length ≤ 10000)
  | k + 1, .lst xs => xs.all (plD k) && decide (xs.length ≤ 10000)
  | _, _ => false
theorem plD_up : ∀ {k : Nat} {d : D}, plD k d = true → plD (k + 1) d = true := by
  intro k
  induction k with
  | zero => intro d h; cases d <;> first | exact h | cases h
  | succ k ih =>
    intro d h
    cases d with
    | tup xs =>
      simp only [plD, Bool.and_eq_true, List.all_eq_true] at h ⊢
      exact ⟨fun x hx => ih (h.1 x hx), h.2⟩
    | lst xs =>
      simp only [plD, Bool.and_eq_true, List.all_eq_true] at h ⊢
      exact ⟨fun x hx => ih (h.1 x hx), h.2⟩
    | _ => exact h
theorem all_true : ∀ m : Nat, (List.replicate m true).all id = true
  | 0 => rfl
  | m + 1 => by rw [List.replicate_succ, List.all_cons, all_true m]; rfl
theorem plD_frz {k : Nat} {d : D} (h : plD k d = true) : frzD d = some d ∧ purD d = some d := by
  cases k <;> cases d <;> first | exact ⟨rfl, rfl⟩ | cases h
theorem all_map {xs : List D} : biD .all [.fls (xs.map fun _ => .bl true)] = some (.bl true) := by
  have e : (xs.map fun _ => D.bl true) = (List.replicate xs.length true).map .bl := by
    rw [List.map_replicate]
    exact List.map_const'
  rw [e, al_fls, all_true]
theorem same_ok (hT : FT 11 = some f11_law_same) : ∀ {k : Nat} {d : D} {st : Store}, plD k d = true → callN FT n (k + 1) 11 [d, d] st = .ok (.bl true) st := by
  intro k
  induction k with
  | zero =>
    intro d st h
    rw [callN, hT]
    cases d with
    | non => simp (disch := omega) only [f11_law_same, evE, evA, evs, evs', evI, evsP, exS, bind_ok, bind_ex, bind_bad, so_ok, so_ex, so_bad, then_nx, then_rt, then_bk, then_ex, then_bad, lift_some, lift_none, soE_some', soE_none, noEx_ok, p_nm, p_tup, p_lst, pN_nil, pN_cons, p_frz, p_fls, p_int, p_bl, p_non, p_tupm, p_lstm, f_int, f_bl, f_str, f_non, f_tup, f_lst, f_fls, f_box, f_scr, u_int, u_bl, u_str, u_non, u_tup, u_lst, u_fls, t_bl, t_non, t_int, t_tup, t_lst, t_mls, t_fls, bd_int, bk_fls, bk_flsb, bk_int, bk_bl, bk_non, bk_str, bk_tup, bk_lst, bk_box, back_rt, back_nx, back_ex, idx_int, ix_tup, ix_lst, ix_mls, ix_fls, ix_box, sl_tup, sl_lst, sl_mls, sl_fls, sl_scr, b_add, b_sub, c_lt, c_le, c_gt, c_ge, c_eq, c_ne, c_eqB, c_neB, c_isN, c_notN, i_int, i_intB, i_abs, i_max, i_min, l_lst, l_tup, l_mls, l_fls, li_lst, li_tup, li_fls, tu_lst, tu_tup, tu_fls, tu_mls, su_2, frzM, getM, isS, subM, isNil, isNon, Gb.start, Option.bind_some, Option.bind_none, Option.map_some, Option.map_none, id_eq, List.getElem?_cons_zero, List.getElem?_cons_succ, List.getElem?_nil, List.set_cons_zero, List.set_cons_succ, List.map_cons, List.map_nil, List.length_cons, List.length_nil, List.cons_append, List.nil_append, List.replicate_succ, List.replicate_zero, Nat.reduceSub, Nat.reduceAdd, Nat.zero_add, Nat.reduceLT, if_true, if_false, reduceIte, Bool.false_eq_true, Bool.not_true, Bool.not_false, Bool.not_not, decide_true, decide_false, decide_not, is0_non, is0_bl, is0_int, is0_str, is0_tup, is0_lst, is0_mls, is0_fls, is1_non, is1_bl, is1_int, is1_str, is1_tup, is1_lst, is1_mls, is1_fls, is2_non, is2_bl, is2_int, is2_str, is2_tup, is2_lst, is2_mls, is2_fls, is3_non, is3_bl, is3_int, is3_str, is3_tup, is3_lst, is3_mls, is3_fls, is4_non, is4_bl, is4_int, is4_str, is4_tup, is4_lst, is4_mls, is4_fls, is5_non, is5_bl, is5_int, is5_str, is5_tup, is5_lst, is5_mls, is5_fls, is6_non, is6_bl, is6_int, is6_str, is6_tup, is6_lst, is6_mls, is6_fls, is7_non, is7_bl, is7_int, is7_str, is7_tup, is7_lst, is7_mls, is7_fls, beq_self_eq_true, Bool.true_beq, Bool.false_beq, Bool.and_true, Bool.true_and, Bool.and_false, Bool.false_and, Bool.or_true, Bool.true_or, Bool.or_false, Bool.false_or, wipeE]; rfl
    | bl b => simp (disch := omega) only [f11_law_same, evE, evA, evs, evs', evI, evsP, exS, bind_ok, bind_ex, bind_bad, so_ok, so_ex, so_bad, then_nx, then_rt, then_bk, then_ex, then_bad, lift_some, lift_none, soE_some', soE_none, noEx_ok, p_nm, p_tup, p_lst, pN_nil, pN_cons, p_frz, p_fls, p_int, p_bl, p_non, p_tupm, p_lstm, f_int, f_bl, f_str, f_non, f_tup, f_lst, f_fls, f_box, f_scr, u_int, u_bl, u_str, u_non, u_tup, u_lst, u_fls, t_bl, t_non, t_int, t_tup, t_lst, t_mls, t_fls, bd_int, bk_fls, bk_flsb, bk_int, bk_bl, bk_non, bk_str, bk_tup, bk_lst, bk_box, back_rt, back_nx, back_ex, idx_int, ix_tup, ix_lst, ix_mls, ix_fls, ix_box, sl_tup, sl_lst, sl_mls, sl_fls, sl_scr, b_add, b_sub, c_lt, c_le, c_gt, c_ge, c_eq, c_ne, c_eqB, c_neB, c_isN, c_notN, i_int, i_intB, i_abs, i_max, i_min, l_lst, l_tup, l_mls, l_fls, li_lst, li_tup, li_fls, tu_lst, tu_tup, tu_fls, tu_mls, su_2, frzM, getM, isS, subM, isNil, isNon, Gb.start, Option.bind_some, Option.bind_none, Option.map_some, Option.map_none, id_eq, List.getElem?_cons_zero, List.getElem?_cons_succ, List.getElem?_nil, List.set_cons_zero, List.set_cons_succ, List.map_cons, List.map_nil, List.length_cons, List.length_nil, List.cons_append, List.nil_append, List.replicate_succ, List.replicate_zero, Nat.reduceSub, Nat.reduceAdd, Nat.zero_add, Nat.reduceLT, if_true, if_false, reduceIte, Bool.false_eq_true, Bool.not_true, Bool.not_false, Bool.not_not, decide_true, decide_false, decide_not, is0_non, is0_bl, is0_int, is0_str, is0_tup, is0_lst, is0_mls, is0_fls, is1_non, is1_bl, is1_int, is1_str, is1_tup, is1_lst, is1_mls, is1_fls, is2_non, is2_bl, is2_int, is2_str, is2_tup, is2_lst, is2_mls, is2_fls, is3_non, is3_bl, is3_int, is3_str, is3_tup, is3_lst, is3_mls, is3_fls, is4_non, is4_bl, is4_int, is4_str, is4_tup, is4_lst, is4_mls, is4_fls, is5_non, is5_bl, is5_int, is5_str, is5_tup, is5_lst, is5_mls, is5_fls, is6_non, is6_bl, is6_int, is6_str, is6_tup, is6_lst, is6_mls, is6_fls, is7_non, is7_bl, is7_int, is7_str, is7_tup, is7_lst, is7_mls, is7_fls, beq_self_eq_true, Bool.true_beq, Bool.false_beq, Bool.and_true, Bool.true_and, Bool.and_false, Bool.false_and, Bool.or_true, Bool.true_or, Bool.or_false, Bool.false_or, wipeE]
    | int i => simp (disch := omega) only [f11_law_same, evE, evA, evs, evs', evI, evsP, exS, bind_ok, bind_ex, bind_bad, so_ok, so_ex, so_bad, then_nx, then_rt, then_bk, then_ex, then_bad, lift_some, lift_none, soE_some', soE_none, noEx_ok, p_nm, p_tup, p_lst, pN_nil, pN_cons, p_frz, p_fls, p_int, p_bl, p_non, p_tupm, p_lstm, f_int, f_bl, f_str, f_non, f_tup, f_lst, f_fls, f_box, f_scr, u_int, u_bl, u_str, u_non, u_tup, u_lst, u_fls, t_bl, t_non, t_int, t_tup, t_lst, t_mls, t_fls, bd_int, bk_fls, bk_flsb, bk_int, bk_bl, bk_non, bk_str, bk_tup, bk_lst, bk_box, back_rt, back_nx, back_ex, idx_int, ix_tup, ix_lst, ix_mls, ix_fls, ix_box, sl_tup, sl_lst, sl_mls, sl_fls, sl_scr, b_add, b_sub, c_lt, c_le, c_gt, c_ge, c_eq, c_ne, c_eqB, c_neB, c_isN, c_notN, i_int, i_intB, i_abs, i_max, i_min, l_lst, l_tup, l_mls, l_fls, li_lst, li_tup, li_fls, tu_lst, tu_tup, tu_fls, tu_mls, su_2, frzM, getM, isS, subM, isNil, isNon, Gb.start, Option.bind_some, Option.bind_none, Option.map_some, Option.map_none, id_eq, List.getElem?_cons_zero, List.getElem?_cons_succ, List.getElem?_nil, List.set_cons_zero, List.set_cons_succ, List.map_cons, List.map_nil, List.length_cons, List.length_nil, List.cons_append, List.nil_append, List.replicate_succ, List.replicate_zero, Nat.reduceSub, Nat.reduceAdd, Nat.zero_add, Nat.reduceLT, if_true, if_false, reduceIte, Bool.false_eq_true, Bool.not_true, Bool.not_false, Bool.not_not, decide_true, decide_false, decide_not, is0_non, is0_bl, is0_int, is0_str, is0_tup, is0_lst, is0_mls, is0_fls, is1_non, is1_bl, is1_int, is1_str, is1_tup, is1_lst, is1_mls, is1_fls, is2_non, is2_bl, is2_int, is2_str, is2_tup, is2_lst, is2_mls, is2_fls, is3_non, is3_bl, is3_int, is3_str, is3_tup, is3_lst, is3_mls, is3_fls, is4_non, is4_bl, is4_int, is4_str, is4_tup, is4_lst, is4_mls, is4_fls, is5_non, is5_bl, is5_int, is5_str, is5_tup, is5_lst, is5_mls, is5_fls, is6_non, is6_bl, is6_int, is6_str, is6_tup, is6_lst, is6_mls, is6_fls, is7_non, is7_bl, is7_int, is7_str, is7_tup, is7_lst, is7_mls, is7_fls, beq_self_eq_true, Bool.true_beq, Bool.false_beq, Bool.and_true, Bool.true_and, Bool.and_false, Bool.false_and, Bool.or_true, Bool.true_or, Bool.or_false, Bool.false_or, wipeE]
    | str s =>
      have hs : SeqAt.shaped (.str s) = true := h
      simp (disch := first | omega | exact hs) only [f11_law_same, evE, evA, evs, evs', evI, evsP, exS, bind_ok, bind_ex, bind_bad, so_ok, so_ex, so_bad, then_nx, then_rt, then_bk, then_ex, then_bad, lift_some, lift_none, soE_some', soE_none, noEx_ok, p_nm, p_tup, p_lst, pN_nil, pN_cons, p_frz, p_fls, p_int, p_bl, p_non, p_tupm, p_lstm, f_int, f_bl, f_str, f_non, f_tup, f_lst, f_fls, f_box, f_scr, u_int, u_bl, u_str, u_non, u_tup, u_lst, u_fls, t_bl, t_non, t_int, t_tup, t_lst, t_mls, t_fls, bd_int, bk_fls, bk_flsb, bk_int, bk_bl, bk_non, bk_str, bk_tup, bk_lst, bk_box, back_rt, back_nx, back_ex, idx_int, ix_tup, ix_lst, ix_mls, ix_fls, ix_box, sl_tup, sl_lst, sl_mls, sl_fls, sl_scr, b_add, b_sub, c_lt, c_le, c_gt, c_ge, c_eq, c_ne, c_eqB, c_neB, c_isN, c_notN, i_int, i_intB, i_abs, i_max, i_min, l_lst, l_tup, l_mls, l_fls, li_lst, li_tup, li_fls, tu_lst, tu_tup, tu_fls, tu_mls, su_2, frzM, getM, isS, subM, isNil, isNon, Gb.start, Option.bind_some, Option.bind_none, Option.map_some, Option.map_none, id_eq, List.getElem?_cons_zero, List.getElem?_cons_succ, List.getElem?_nil, List.set_cons_zero, List.set_cons_succ, List.map_cons, List.map_nil, List.length_cons, List.length_nil, List.cons_append, List.nil_append, List.replicate_succ, List.replicate_zero, Nat.reduceSub, Nat.reduceAdd, Nat.zero_add, Nat.reduceLT, if_true, if_false, reduceIte, Bool.false_eq_true, Bool.not_true, Bool.not_false, Bool.not_not, decide_true, decide_false, decide_not, is0_non, is0_bl, is0_int, is0_str, is0_tup, is0_lst, is0_mls, is0_fls, is1_non, is1_bl, is1_int, is1_str, is1_tup, is1_lst, is1_mls, is1_fls, is2_non, is2_bl, is2_int, is2_str, is2_tup, is2_lst, is2_mls, is2_fls, is3_non, is3_bl, is3_int, is3_str, is3_tup, is3_lst, is3_mls, is3_fls, is4_non, is4_bl, is4_int, is4_str, is4_tup, is4_lst, is4_mls, is4_fls, is5_non, is5_bl, is5_int, is5_str, is5_tup, is5_lst, is5_mls, is5_fls, is6_non, is6_bl, is6_int, is6_str, is6_tup, is6_lst, is6_mls, is6_fls, is7_non, is7_bl, is7_int, is7_str, is7_tup, is7_lst, is7_mls, is7_fls, beq_self_eq_true, Bool.true_beq, Bool.false_beq, Bool.and_true, Bool.true_and, Bool.and_false, Bool.false_and, Bool.or_true, Bool.true_or, Bool.or_false, Bool.false_or, wipeE, c_eqS]
    | _ => cases h
  | succ k ih =>
    intro d st h
    -- the items one by one
    have zip : ∀ (xs : List D) (f : D → Store → Out (Option D)), (∀ x ∈ xs, plD k x = true) → xs.length ≤ 10000 → (∀ x, plD k x = true → f (.tup [x, x]) st = .ok (some (.bl true)) st) → compL f (zipL xs xs) [] st = .ok (xs.map fun _ => .bl true) st := fun xs f hx hl hf => by
      have e : zipL xs xs = xs.map fun x => .tup [x, x] := by unfold zipL; rw [List.zipWith_self]
      rw [e, compL_map (g := fun _ => .bl true) _ _ (fun d hd => ?_) (by rw [List.length_nil, List.length_map]; exact sz (by omega)), List.nil_append, List.map_map]
      · rfl
      · obtain ⟨x, hm, rfl⟩ := List.mem_map.mp hd
        exact hf x (hx x hm)
    have one : ∀ x, plD k x = true → frzD x = some x ∧ callN FT n (k + 1) 11 [x, x] st = .ok (.bl true) st := fun x hx => ⟨(plD_frz hx).1, ih hx⟩
    cases d with
    | tup xs =>
      simp only [plD, Bool.and_eq_true, List.all_eq_true, decide_eq_true_eq] at h
      rw [callN, hT]
      simp (disch := omega) only [f11_law_same, evE, evA, evs, evs', evI, evsP, exS, bind_ok, bind_ex, bind_bad, so_ok, so_ex, so_bad, then_nx, then_rt, then_bk, then_ex, then_bad, lift_some, lift_none, soE_some', soE_none, noEx_ok, p_nm, p_tup, p_lst, pN_nil, pN_cons, p_frz, p_fls, p_int, p_bl, p_non, p_tupm, p_lstm, f_int, f_bl, f_str, f_non, f_tup, f_lst, f_fls, f_box, f_scr, u_int, u_bl, u_str, u_non, u_tup, u_lst, u_fls, t_bl, t_non, t_int, t_tup, t_lst, t_mls, t_fls, bd_int, bk_fls, bk_flsb, bk_int, bk_bl, bk_non, bk_str, bk_tup, bk_lst, bk_box, back_rt, back_nx, back_ex, idx_int, ix_tup, ix_lst, ix_mls, ix_fls, ix_box, sl_tup, sl_lst, sl_mls, sl_fls, sl_scr, b_add, b_sub, c_lt, c_le, c_gt, c_ge, c_eq, c_ne, c_eqB, c_neB, c_isN, c_notN, i_int, i_intB, i_abs, i_max, i_min, l_lst, l_tup, l_mls, l_fls, li_lst, li_tup, li_fls, tu_lst, tu_tup, tu_fls, tu_mls, su_2, frzM, getM, isS, subM, isNil, isNon, Gb.start, Option.bind_some, Option.bind_none, Option.map_some, Option.map_none, id_eq, List.getElem?_cons_zero, List.getElem?_cons_succ, List.getElem?_nil, List.set_cons_zero, List.set_cons_succ, List.map_cons, List.map_nil, List.length_cons, List.length_nil, List.cons_append, List.nil_append, List.replicate_succ, List.replicate_zero, Nat.reduceSub, Nat.reduceAdd, Nat.zero_add, Nat.reduceLT, if_true, if_false, reduceIte, Bool.false_eq_true, Bool.not_true, Bool.not_false, Bool.not_not, decide_true, decide_false, decide_not, is0_non, is0_bl, is0_int, is0_str, is0_tup, is0_lst, is0_mls, is0_fls, is1_non, is1_bl, is1_int, is1_str, is1_tup, is1_lst, is1_mls, is1_fls, is2_non, is2_bl, is2_int, is2_str, is2_tup, is2_lst, is2_mls, is2_fls, is3_non, is3_bl, is3_int, is3_str, is3_tup, is3_lst, is3_mls, is3_fls, is4_non, is4_bl, is4_int, is4_str, is4_tup, is4_lst, is4_mls, is4_fls, is5_non, is5_bl, is5_int, is5_str, is5_tup, is5_lst, is5_mls, is5_fls, is6_non, is6_bl, is6_int, is6_str, is6_tup, is6_lst, is6_mls, is6_fls, is7_non, is7_bl, is7_int, is7_str, is7_tup, is7_lst, is7_mls, is7_fls, beq_self_eq_true, Bool.true_beq, Bool.false_beq, Bool.and_true, Bool.true_and, Bool.and_false, Bool.false_and, Bool.or_true, Bool.true_or, Bool.or_false, Bool.false_or, wipeE]
      rw [zip xs _ h.1 h.2 fun x hx => by simp only [evE, evA, evs, evs', evI, evsP, exS, bind_ok, bind_ex, bind_bad, so_ok, so_ex, so_bad, then_nx, then_rt, then_bk, then_ex, then_bad, lift_some, lift_none, soE_some', soE_none, noEx_ok, p_nm, p_tup, p_lst, pN_nil, pN_cons, p_frz, p_fls, p_int, p_bl, p_non, p_tupm, p_lstm, f_int, f_bl, f_str, f_non, f_tup, f_lst, f_fls, f_box, f_scr, u_int, u_bl, u_str, u_non, u_tup, u_lst, u_fls, t_bl, t_non, t_int, t_tup, t_lst, t_mls, t_fls, bd_int, bk_fls, bk_flsb, bk_int, bk_bl, bk_non, bk_str, bk_tup, bk_lst, bk_box, back_rt, back_nx, back_ex, idx_int, ix_tup, ix_lst, ix_mls, ix_fls, ix_box, sl_tup, sl_lst, sl_mls, sl_fls, sl_scr, b_add, b_sub, c_lt, c_le, c_gt, c_ge, c_eq, c_ne, c_eqB, c_neB, c_isN, c_notN, i_int, i_intB, i_abs, i_max, i_min, l_lst, l_tup, l_mls, l_fls, li_lst, li_tup, li_fls, tu_lst, tu_tup, tu_fls, tu_mls, su_2, frzM, getM, isS, subM, isNil, isNon, Gb.start, Option.bind_some, Option.bind_none, Option.map_some, Option.map_none, id_eq, List.getElem?_cons_zero, List.getElem?_cons_succ, List.getElem?_nil, List.set_cons_zero, List.set_cons_succ, List.map_cons, List.map_nil, List.length_cons, List.length_nil, List.cons_append, List.nil_append, List.replicate_succ, List.replicate_zero, Nat.reduceSub, Nat.reduceAdd, Nat.zero_add, Nat.reduceLT, if_true, if_false, reduceIte, Bool.false_eq_true, Bool.not_true, Bool.not_false, Bool.not_not, decide_true, decide_false, decide_not, is0_non, is0_bl, is0_int, is0_str, is0_tup, is0_lst, is0_mls, is0_fls, is1_non, is1_bl, is1_int, is1_str, is1_tup, is1_lst, is1_mls, is1_fls, is2_non, is2_bl, is2_int, is2_str, is2_tup, is2_lst, is2_mls, is2_fls, is3_non, is3_bl, is3_int, is3_str, is3_tup, is3_lst, is3_mls, is3_fls, is4_non, is4_bl, is4_int, is4_str, is4_tup, is4_lst, is4_mls, is4_fls, is5_non, is5_bl, is5_int, is5_str, is5_tup, is5_lst, is5_mls, is5_fls, is6_non, is6_bl, is6_int, is6_str, is6_tup, is6_lst, is6_mls, is6_fls, is7_non, is7_bl, is7_int, is7_str, is7_tup, is7_lst, is7_mls, is7_fls, beq_self_eq_true, Bool.true_beq, Bool.false_beq, Bool.and_true, Bool.true_and, Bool.and_false, Bool.false_and, Bool.or_true, Bool.true_or, Bool.or_false, Bool.false_or, wipeE, (one x hx).1, (one x hx).2]]
      simp (disch := omega) only [evE, evA, evs, evs', evI, evsP, exS, bind_ok, bind_ex, bind_bad, so_ok, so_ex, so_bad, then_nx, then_rt, then_bk, then_ex, then_bad, lift_some, lift_none, soE_some', soE_none, noEx_ok, p_nm, p_tup, p_lst, pN_nil, pN_cons, p_frz, p_fls, p_int, p_bl, p_non, p_tupm, p_lstm, f_int, f_bl, f_str, f_non, f_tup, f_lst, f_fls, f_box, f_scr, u_int, u_bl, u_str, u_non, u_tup, u_lst, u_fls, t_bl, t_non, t_int, t_tup, t_lst, t_mls, t_fls, bd_int, bk_fls, bk_flsb, bk_int, bk_bl, bk_non, bk_str, bk_tup, bk_lst, bk_box, back_rt, back_nx, back_ex, idx_int, ix_tup, ix_lst, ix_mls, ix_fls, ix_box, sl_tup, sl_lst, sl_mls, sl_fls, sl_scr, b_add, b_sub, c_lt, c_le, c_gt, c_ge, c_eq, c_ne, c_eqB, c_neB, c_isN, c_notN, i_int, i_intB, i_abs, i_max, i_min, l_lst, l_tup, l_mls, l_fls, li_lst, li_tup, li_fls, tu_lst, tu_tup, tu_fls, tu_mls, su_2, frzM, getM, isS, subM, isNil, isNon, Gb.start, Option.bind_some, Option.bind_none, Option.map_some, Option.map_none, id_eq, List.getElem?_cons_zero, List.getElem?_cons_succ, List.getElem?_nil, List.set_cons_zero, List.set_cons_succ, List.map_cons, List.map_nil, List.length_cons, List.length_nil, List.cons_append, List.nil_append, List.replicate_succ, List.replicate_zero, Nat.reduceSub, Nat.reduceAdd, Nat.zero_add, Nat.reduceLT, if_true, if_false, reduceIte, Bool.false_eq_true, Bool.not_true, Bool.not_false, Bool.not_not, decide_true, decide_false, decide_not, is0_non, is0_bl, is0_int, is0_str, is0_tup, is0_lst, is0_mls, is0_fls, is1_non, is1_bl, is1_int, is1_str, is1_tup, is1_lst, is1_mls, is1_fls, is2_non, is2_bl, is2_int, is2_str, is2_tup, is2_lst, is2_mls, is2_fls, is3_non, is3_bl, is3_int, is3_str, is3_tup, is3_lst, is3_mls, is3_fls, is4_non, is4_bl, is4_int, is4_str, is4_tup, is4_lst, is4_mls, is4_fls, is5_non, is5_bl, is5_int, is5_str, is5_tup, is5_lst, is5_mls, is5_fls, is6_non, is6_bl, is6_int, is6_str, is6_tup, is6_lst, is6_mls, is6_fls, is7_non, is7_bl, is7_int, is7_str, is7_tup, is7_lst, is7_mls, is7_fls, beq_self_eq_true, Bool.true_beq, Bool.false_beq, Bool.and_true, Bool.true_and, Bool.and_false, Bool.false_and, Bool.or_true, Bool.true_or, Bool.or_false, Bool.false_or, wipeE, all_map]
    | lst xs =>
      simp only [plD, Bool.and_eq_true, List.all_eq_true, decide_eq_true_eq] at h
      rw [callN, hT]
      simp (disch := omega) only [f11_law_same, evE, evA, evs, evs', evI, evsP, exS, bind_ok, bind_ex, bind_bad, so_ok, so_ex, so_bad, then_nx, then_rt, then_bk, then_ex, then_bad, lift_some, lift_none, soE_some', soE_none, noEx_ok, p_nm, p_tup, p_lst, pN_nil, pN_cons, p_frz, p_fls, p_int, p_bl, p_non, p_tupm, p_lstm, f_int, f_bl, f_str, f_non, f_tup, f_lst, f_fls, f_box, f_scr, u_int, u_bl, u_str, u_non, u_tup, u_lst, u_fls, t_bl, t_non, t_int, t_tup, t_lst, t_mls, t_fls, bd_int, bk_fls, bk_flsb, bk_int, bk_bl, bk_non, bk_str, bk_tup, bk_lst, bk_box, back_rt, back_nx, back_ex, idx_int, ix_tup, ix_lst, ix_mls, ix_fls, ix_box, sl_tup, sl_lst, sl_mls, sl_fls, sl_scr, b_add, b_sub, c_lt, c_le, c_gt, c_ge, c_eq, c_ne, c_eqB, c_neB, c_isN, c_notN, i_int, i_intB, i_abs, i_max, i_min, l_lst, l_tup, l_mls, l_fls, li_lst, li_tup, li_fls, tu_lst, tu_tup, tu_fls, tu_mls, su_2, frzM, getM, isS, subM, isNil, isNon, Gb.start, Option.bind_some, Option.bind_none, Option.map_some, Option.map_none, id_eq, List.getElem?_cons_zero, List.getElem?_cons_succ, List.getElem?_nil, List.set_cons_zero, List.set_cons_succ, List.map_cons, List.map_nil, List.length_cons, List.length_nil, List.cons_append, List.nil_append, List.replicate_succ, List.replicate_zero, Nat.reduceSub, Nat.reduceAdd, Nat.zero_add, Nat.reduceLT, if_true, if_false, reduceIte, Bool.false_eq_true, Bool.not_true, Bool.not_false, Bool.not_not, decide_true, decide_false, decide_not, is0_non, is0_bl, is0_int, is0_str, is0_tup, is0_lst, is0_mls, is0_fls, is1_non, is1_bl, is1_int, is1_str, is1_tup, is1_lst, is1_mls, is1_fls, is2_non, is2_bl, is2_int, is2_str, is2_tup, is2_lst, is2_mls, is2_fls, is3_non, is3_bl, is3_int, is3_str, is3_tup, is3_lst, is3_mls, is3_fls, is4_non, is4_bl, is4_int, is4_str, is4_tup, is4_lst, is4_mls, is4_fls, is5_non, is5_bl, is5_int, is5_str, is5_tup, is5_lst, is5_mls, is5_fls, is6_non, is6_bl, is6_int, is6_str, is6_tup, is6_lst, is6_mls, is6_fls, is7_non, is7_bl, is7_int, is7_str, is7_tup, is7_lst, is7_mls, is7_fls, beq_self_eq_true, Bool.true_beq, Bool.false_beq, Bool.and_true, Bool.true_and, Bool.and_false, Bool.false_and, Bool.or_true, Bool.true_or, Bool.or_false, Bool.false_or, wipeE]
      rw [zip xs _ h.1 h.2 fun x hx => by simp only [evE, evA, evs, evs', evI, evsP, exS, bind_ok, bind_ex, bind_bad, so_ok, so_ex, so_bad, then_nx, then_rt, then_bk, then_ex, then_bad, lift_some, lift_none, soE_some', soE_none, noEx_ok, p_nm, p_tup, p_lst, pN_nil, pN_cons, p_frz, p_fls, p_int, p_bl, p_non, p_tupm, p_lstm, f_int, f_bl, f_str, f_non, f_tup, f_lst, f_fls, f_box, f_scr, u_int, u_bl, u_str, u_non, u_tup, u_lst, u_fls, t_bl, t_non, t_int, t_tup, t_lst, t_mls, t_fls, bd_int, bk_fls, bk_flsb, bk_int, bk_bl, bk_non, bk_str, bk_tup, bk_lst, bk_box, back_rt, back_nx, back_ex, idx_int, ix_tup, ix_lst, ix_mls, ix_fls, ix_box, sl_tup, sl_lst, sl_mls, sl_fls, sl_scr, b_add, b_sub, c_lt, c_le, c_gt, c_ge, c_eq, c_ne, c_eqB, c_neB, c_isN, c_notN, i_int, i_intB, i_abs, i_max, i_min, l_lst, l_tup, l_mls, l_fls, li_lst, li_tup, li_fls, tu_lst, tu_tup, tu_fls, tu_mls, su_2, frzM, getM, isS, subM, isNil, isNon, Gb.start, Option.bind_some, Option.bind_none, Option.map_some, Option.map_none, id_eq, List.getElem?_cons_zero, List.getElem?_cons_succ, List.getElem?_nil, List.set_cons_zero, List.set_cons_succ, List.map_cons, List.map_nil, List.length_cons, List.length_nil, List.cons_append, List.nil_append, List.replicate_succ, List.replicate_zero, Nat.reduceSub, Nat.reduceAdd, Nat.zero_add, Nat.reduceLT, if_true, if_false, reduceIte, Bool.false_eq_true, Bool.not_true, Bool.not_false, Bool.not_not, decide_true, decide_false, decide_not, is0_non, is0_bl, is0_int, is0_str, is0_tup, is0_lst, is0_mls, is0_fls, is1_non, is1_bl, is1_int, is1_str, is1_tup, is1_lst, is1_mls, is1_fls, is2_non, is2_bl, is2_int, is2_str, is2_tup, is2_lst, is2_mls, is2_fls, is3_non, is3_bl, is3_int, is3_str, is3_tup, is3_lst, is3_mls, is3_fls, is4_non, is4_bl, is4_int, is4_str, is4_tup, is4_lst, is4_mls, is4_fls, is5_non, is5_bl, is5_int, is5_str, is5_tup, is5_lst, is5_mls, is5_fls, is6_non, is6_bl, is6_int, is6_str, is6_tup, is6_lst, is6_mls, is6_fls, is7_non, is7_bl, is7_int, is7_str, is7_tup, is7_lst, is7_mls, is7_fls, beq_self_eq_true, Bool.true_beq, Bool.false_beq, Bool.and_true, Bool.true_and, Bool.and_false, Bool.false_and, Bool.or_true, Bool.true_or, Bool.or_false, Bool.false_or, wipeE, (one x hx).1, (one x hx).2]]
      simp (disch := omega) only [evE, evA, evs, evs', evI, evsP, exS, bind_ok, bind_ex, bind_bad, so_ok, so_ex, so_bad, then_nx, then_rt, then_bk, then_ex, then_bad, lift_some, lift_none, soE_some', soE_none, noEx_ok, p_nm, p_tup, p_lst, pN_nil, pN_cons, p_frz, p_fls, p_int, p_bl, p_non, p_tupm, p_lstm, f_int, f_bl, f_str, f_non, f_tup, f_lst, f_fls, f_box, f_scr, u_int, u_bl, u_str, u_non, u_tup, u_lst, u_fls, t_bl, t_non, t_int, t_tup, t_lst, t_mls, t_fls, bd_int, bk_fls, bk_flsb, bk_int, bk_bl, bk_non, bk_str, bk_tup, bk_lst, bk_box, back_rt, back_nx, back_ex, idx_int, ix_tup, ix_lst, ix_mls, ix_fls, ix_box, sl_tup, sl_lst, sl_mls, sl_fls, sl_scr, b_add, b_sub, c_lt, c_le, c_gt, c_ge, c_eq, c_ne, c_eqB, c_neB, c_isN, c_notN, i_int, i_intB, i_abs, i_max, i_min, l_lst, l_tup, l_mls, l_fls, li_lst, li_tup, li_fls, tu_lst, tu_tup, tu_fls, tu_mls, su_2, frzM, getM, isS, subM, isNil, isNon, Gb.start, Option.bind_some, Option.bind_none, Option.map_some, Option.map_none, id_eq, List.getElem?_cons_zero, List.getElem?_cons_succ, List.getElem?_nil, List.set_cons_zero, List.set_cons_succ, List.map_cons, List.map_nil, List.length_cons, List.length_nil, List.cons_append, List.nil_append, List.replicate_succ, List.replicate_zero, Nat.reduceSub, Nat.reduceAdd, Nat.zero_add, Nat.reduceLT, if_true, if_false, reduceIte, Bool.false_eq_true, Bool.not_true, Bool.not_false, Bool.not_not, decide_true, decide_false, decide_not, is0_non, is0_bl, is0_int, is0_str, is0_tup, is0_lst, is0_mls, is0_fls, is1_non, is1_bl, is1_int, is1_str, is1_tup, is1_lst, is1_mls, is1_fls, is2_non, is2_bl, is2_int, is2_str, is2_tup, is2_lst, is2_mls, is2_fls, is3_non, is3_bl, is3_int, is3_str, is3_tup, is3_lst, is3_mls, is3_fls, is4_non, is4_bl, is4_int, is4_str, is4_tup, is4_lst, is4_mls, is4_fls, is5_non, is5_bl, is5_int, is5_str, is5_tup, is5_lst, is5_mls, is5_fls, is6_non, is6_bl, is6_int, is6_str, is6_tup, is6_lst, is6_mls, is6_fls, is7_non, is7_bl, is7_int, is7_str, is7_tup, is7_lst, is7_mls, is7_fls, beq_self_eq_true, Bool.true_beq, Bool.false_beq, Bool.and_true, Bool.true_and, Bool.and_false, Bool.false_and, Bool.or_true, Bool.true_or, Bool.or_false, Bool.false_or, wipeE, all_map]
    | non => rw [callN, hT]; simp (disch := omega) only [f11_law_same, evE, evA, evs, evs', evI, evsP, exS, bind_ok, bind_ex, bind_bad, so_ok, so_ex, so_bad, then_nx, then_rt, then_bk, then_ex, then_bad, lift_some, lift_none, soE_some', soE_none, noEx_ok, p_nm, p_tup, p_lst, pN_nil, pN_cons, p_frz, p_fls, p_int, p_bl, p_non, p_tupm, p_lstm, f_int, f_bl, f_str, f_non, f_tup, f_lst, f_fls, f_box, f_scr, u_int, u_bl, u_str, u_non, u_tup, u_lst, u_fls, t_bl, t_non, t_int, t_tup, t_lst, t_mls, t_fls, bd_int, bk_fls, bk_flsb, bk_int, bk_bl, bk_non, bk_str, bk_tup, bk_lst, bk_box, back_rt, back_nx, back_ex, idx_int, ix_tup, ix_lst, ix_mls, ix_fls, ix_box, sl_tup, sl_lst, sl_mls, sl_fls, sl_scr, b_add, b_sub, c_lt, c_le, c_gt, c_ge, c_eq, c_ne, c_eqB, c_neB, c_isN, c_notN, i_int, i_intB, i_abs, i_max, i_min, l_lst, l_tup, l_mls, l_fls, li_lst, li_tup, li_fls, tu_lst, tu_tup, tu_fls, tu_mls, su_2, frzM, getM, isS, subM, isNil, isNon, Gb.start, Option.bind_some, Option.bind_none, Option.map_some, Option.map_none, id_eq, List.getElem?_cons_zero, List.getElem?_cons_succ, List.getElem?_nil, List.set_cons_zero, List.set_cons_succ, List.map_cons, List.map_nil, List.length_cons, List.length_nil, List.cons_append, List.nil_append, List.replicate_succ, List.replicate_zero, Nat.reduceSub, Nat.reduceAdd, Nat.zero_add, Nat.reduceLT, if_true, if_false, reduceIte, Bool.false_eq_true, Bool.not_true, Bool.not_false, Bool.not_not, decide_true, decide_false, decide_not, is0_non, is0_bl, is0_int, is0_str, is0_tup, is0_lst, is0_mls, is0_fls, is1_non, is1_bl, is1_int, is1_str, is1_tup, is1_lst, is1_mls, is1_fls, is2_non, is2_bl, is2_int, is2_str, is2_tup, is2_lst, is2_mls, is2_fls, is3_non, is3_bl, is3_int, is3_str, is3_tup, is3_lst, is3_mls, is3_fls, is4_non, is4_bl, is4_int, is4_str, is4_tup, is4_lst, is4_mls, is4_fls, is5_non, is5_bl, is5_int, is5_str, is5_tup, is5_lst, is5_mls, is5_fls, is6_non, is6_bl, is6_int, is6_str, is6_tup, is6_lst, is6_mls, is6_fls, is7_non, is7_bl, is7_int, is7_str, is7_tup, is7_lst, is7_mls, is7_fls, beq_self_eq_true, Bool.true_beq, Bool.false_beq, Bool.and_true, Bool.true_and, Bool.and_false, Bool.false_and, Bool.or_true, Bool.true_or, Bool.or_false, Bool.false_or, wipeE]; rfl
    | bl b => rw [callN, hT]; simp (disch := omega) only [f11_law_same, evE, evA, evs, evs', evI, evsP, exS, bind_ok, bind_ex, bind_bad, so_ok, so_ex, so_bad, then_nx, then_rt, then_bk, then_ex, then_bad, lift_some, lift_none, soE_some', soE_none, noEx_ok, p_nm, p_tup, p_lst, pN_nil, pN_cons, p_frz, p_fls, p_int, p_bl, p_non, p_tupm, p_lstm, f_int, f_bl, f_str, f_non, f_tup, f_lst, f_fls, f_box, f_scr, u_int, u_bl, u_str, u_non, u_tup, u_lst, u_fls, t_bl, t_non, t_int, t_tup, t_lst, t_mls, t_fls, bd_int, bk_fls, bk_flsb, bk_int, bk_bl, bk_non, bk_str, bk_tup, bk_lst, bk_box, back_rt, back_nx, back_ex, idx_int, ix_tup, ix_lst, ix_mls, ix_fls, ix_box, sl_tup, sl_lst, sl_mls, sl_fls, sl_scr, b_add, b_sub, c_lt, c_le, c_gt, c_ge, c_eq, c_ne, c_eqB, c_neB, c_isN, c_notN, i_int, i_intB, i_abs, i_max, i_min, l_lst, l_tup, l_mls, l_fls, li_lst, li_tup, li_fls, tu_lst, tu_tup, tu_fls, tu_mls, su_2, frzM, getM, isS, subM, isNil, isNon, Gb.start, Option.bind_some, Option.bind_none, Option.map_some, Option.map_none, id_eq, List.getElem?_cons_zero, List.getElem?_cons_succ, List.getElem?_nil, List.set_cons_zero, List.set_cons_succ, List.map_cons, List.map_nil, List.length_cons, List.length_nil, List.cons_append, List.nil_append, List.replicate_succ, List.replicate_zero, Nat.reduceSub, Nat.reduceAdd, Nat.zero_add, Nat.reduceLT, if_true, if_false, reduceIte, Bool.false_eq_true, Bool.not_true, Bool.not_false, Bool.not_not, decide_true, decide_false, decide_not, is0_non, is0_bl, is0_int, is0_str, is0_tup, is0_lst, is0_mls, is0_fls, is1_non, is1_bl, is1_int, is1_str, is1_tup, is1_lst, is1_mls, is1_fls, is2_non, is2_bl, is2_int, is2_str, is2_tup, is2_lst, is2_mls, is2_fls, is3_non, is3_bl, is3_int, is3_str, is3_tup, is3_lst, is3_mls, is3_fls, is4_non, is4_bl, is4_int, is4_str, is4_tup, is4_lst, is4_mls, is4_fls, is5_non, is5_bl, is5_int, is5_str, is5_tup, is5_lst, is5_mls, is5_fls, is6_non, is6_bl, is6_int, is6_str, is6_tup, is6_lst, is6_mls, is6_fls, is7_non, is7_bl, is7_int, is7_str, is7_tup, is7_lst, is7_mls, is7_fls, beq_self_eq_true, Bool.true_beq, Bool.false_beq, Bool.and_true, Bool.true_and, Bool.and_false, Bool.false_and, Bool.or_true, Bool.true_or, Bool.or_false, Bool.false_or, wipeE]
    | int i => rw [callN, hT]; simp (disch := omega) only [f11_law_same, evE, evA, evs, evs', evI, evsP, exS, bind_ok, bind_ex, bind_bad, so_ok, so_ex, so_bad, then_nx, then_rt, then_bk, then_ex, then_bad, lift_some, lift_none, soE_some', soE_none, noEx_ok, p_nm, p_tup, p_lst, pN_nil, pN_cons, p_frz, p_fls, p_int, p_bl, p_non, p_tupm, p_lstm, f_int, f_bl, f_str, f_non, f_tup, f_lst, f_fls, f_box, f_scr, u_int, u_bl, u_str, u_non, u_tup, u_lst, u_fls, t_bl, t_non, t_int, t_tup, t_lst, t_mls, t_fls, bd_int, bk_fls, bk_flsb, bk_int, bk_bl, bk_non, bk_str, bk_tup, bk_lst, bk_box, back_rt, back_nx, back_ex, idx_int, ix_tup, ix_lst, ix_mls, ix_fls, ix_box, sl_tup, sl_lst, sl_mls, sl_fls, sl_scr, b_add, b_sub, c_lt, c_le, c_gt, c_ge, c_eq, c_ne, c_eqB, c_neB, c_isN, c_notN, i_int, i_intB, i_abs, i_max, i_min, l_lst, l_tup, l_mls, l_fls, li_lst, li_tup, li_fls, tu_lst, tu_tup, tu_fls, tu_mls, su_2, frzM, getM, isS, subM, isNil, isNon, Gb.start, Option.bind_some, Option.bind_none, Option.map_some, Option.map_none, id_eq, List.getElem?_cons_zero, List.getElem?_cons_succ, List.getElem?_nil, List.set_cons_zero, List.set_cons_succ, List.map_cons, List.map_nil, List.length_cons, List.length_nil, List.cons_append, List.nil_append, List.replicate_succ, List.replicate_zero, Nat.reduceSub, Nat.reduceAdd, Nat.zero_add, Nat.reduceLT, if_true, if_false, reduceIte, Bool.false_eq_true, Bool.not_true, Bool.not_false, Bool.not_not, decide_true, decide_false, decide_not, is0_non, is0_bl, is0_int, is0_str, is0_tup, is0_lst, is0_mls, is0_fls, is1_non, is1_bl, is1_int, is1_str, is1_tup, is1_lst, is1_mls, is1_fls, is2_non, is2_bl, is2_int, is2_str, is2_tup, is2_lst, is2_mls, is2_fls, is3_non, is3_bl, is3_int, is3_str, is3_tup, is3_lst, is3_mls, is3_fls, is4_non, is4_bl, is4_int, is4_str, is4_tup, is4_lst, is4_mls, is4_fls, is5_non, is5_bl, is5_int, is5_str, is5_tup, is5_lst, is5_mls, is5_fls, is6_non, is6_bl, is6_int, is6_str, is6_tup, is6_lst, is6_mls, is6_fls, is7_non, is7_bl, is7_int, is7_str, is7_tup, is7_lst, is7_mls, is7_fls, beq_self_eq_true, Bool.true_beq, Bool.false_beq, Bool.and_true, Bool.true_and, Bool.and_false, Bool.false_and, Bool.or_true, Bool.true_or, Bool.or_false, Bool.false_or, wipeE]
    | str s =>
      have hs : SeqAt.shaped (.str s) = true := h
      rw [callN, hT]
      simp (disch := first | omega | exact hs) only [f11_law_same, evE, evA, evs, evs', evI, evsP, exS, bind_ok, bind_ex, bind_bad, so_ok, so_ex, so_bad, then_nx, then_rt, then_bk, then_ex, then_bad, lift_some, lift_none, soE_some', soE_none, noEx_ok, p_nm, p_tup, p_lst, pN_nil, pN_cons, p_frz, p_fls, p_int, p_bl, p_non, p_tupm, p_lstm, f_int, f_bl, f_str, f_non, f_tup, f_lst, f_fls, f_box, f_scr, u_int, u_bl, u_str, u_non, u_tup, u_lst, u_fls, t_bl, t_non, t_int, t_tup, t_lst, t_mls, t_fls, bd_int, bk_fls, bk_flsb, bk_int, bk_bl, bk_non, bk_str, bk_tup, bk_lst, bk_box, back_rt, back_nx, back_ex, idx_int, ix_tup, ix_lst, ix_mls, ix_fls, ix_box, sl_tup, sl_lst, sl_mls, sl_fls, sl_scr, b_add, b_sub, c_lt, c_le, c_gt, c_ge, c_eq, c_ne, c_eqB, c_neB, c_isN, c_notN, i_int, i_intB, i_abs, i_max, i_min, l_lst, l_tup, l_mls, l_fls, li_lst, li_tup, li_fls, tu_lst, tu_tup, tu_fls, tu_mls, su_2, frzM, getM, isS, subM, isNil, isNon, Gb.start, Option.bind_some, Option.bind_none, Option.map_some, Option.map_none, id_eq, List.getElem?_cons_zero, List.getElem?_cons_succ, List.getElem?_nil, List.set_cons_zero, List.set_cons_succ, List.map_cons, List.map_nil, List.length_cons, List.length_nil, List.cons_append, List.nil_append, List.replicate_succ, List.replicate_zero, Nat.reduceSub, Nat.reduceAdd, Nat.zero_add, Nat.reduceLT, if_true, if_false, reduceIte, Bool.false_eq_true, Bool.not_true, Bool.not_false, Bool.not_not, decide_true, decide_false, decide_not, is0_non, is0_bl, is0_int, is0_str, is0_tup, is0_lst, is0_mls, is0_fls, is1_non, is1_bl, is1_int, is1_str, is1_tup, is1_lst, is1_mls, is1_fls, is2_non, is2_bl, is2_int, is2_str, is2_tup, is2_lst, is2_mls, is2_fls, is3_non, is3_bl, is3_int, is3_str, is3_tup, is3_lst, is3_mls, is3_fls, is4_non, is4_bl, is4_int, is4_str, is4_tup, is4_lst, is4_mls, is4_fls, is5_non, is5_bl, is5_int, is5_str, is5_tup, is5_lst, is5_mls, is5_fls, is6_non, is6_bl, is6_int, is6_str, is6_tup, is6_lst, is6_mls, is6_fls, is7_non, is7_bl, is7_int, is7_str, is7_tup, is7_lst, is7_mls, is7_fls, beq_self_eq_true, Bool.true_beq, Bool.false_beq, Bool.and_true, Bool.true_and, Bool.and_false, Bool.false_and, Bool.or_true, Bool.true_or, Bool.or_false, Bool.false_or, wipeE, c_eqS]
    | _ => cases h
/-- all tuples lists; all lists tuples; so many deep -/
def lisD : Nat → D → D
  | k + 1, .tup xs => .lst (xs.map (lisD k))
  | k + 1, .lst xs => .lst (xs.map (lisD k))
  | _, d => d
def tupD : Nat → D → D
  | k + 1, .tup xs => .tup (xs.map (tupD k))
  | k + 1, .lst xs => .tup (xs.map (tupD k))
  | _, d => d
theorem lisD_pl : ∀ {k : Nat} {d : D}, plD k d = true → plD k (lisD k d) = true := by
  intro k
  induction k with
  | zero => intro d h; cases d <;> first | exact h | cases h
  | succ k ih =>
    intro d h
    cases d with
    | tup xs =>
      simp only [plD, lisD, Bool.and_eq_true, List.all_eq_true, decide_eq_true_eq, List.length_map] at h ⊢
      exact ⟨fun x hx => by obtain ⟨y, hy, rfl⟩ := List.mem_map.mp hx; exact ih (h.1 y hy), h.2⟩
    | lst xs =>
      simp only [plD, lisD, Bool.and_eq_true, List.all_eq_true, decide_eq_true_eq, List.length_map] at h ⊢
      exact ⟨fun x hx => by obtain ⟨y, hy, rfl⟩ := List.mem_map.mp hx; exact ih (h.1 y hy), h.2⟩
    | _ => exact h
theorem tupD_pl : ∀ {k : Nat} {d : D}, plD k d = true → plD k (tupD k d) = true := by
  intro k
  induction k with
  | zero => intro d h; cases d <;> first | exact h | cases h
  | succ k ih =>
    intro d h
    cases d with
    | tup xs =>
      simp only [plD, tupD, Bool.and_eq_true, List.all_eq_true, decide_eq_true_eq, List.length_map] at h ⊢
      exact ⟨fun x hx => by obtain ⟨y, hy, rfl⟩ := List.mem_map.mp hx; exact ih (h.1 y hy), h.2⟩
    | lst xs =>
      simp only [plD, tupD, Bool.and_eq_true, List.all_eq_true, decide_eq_true_eq, List.length_map] at h ⊢
      exact ⟨fun x hx => by obtain ⟨y, hy, rfl⟩ := List.mem_map.mp hx; exact ih (h.1 y hy), h.2⟩
    | _ => exact h
theorem lists_ok (hT : FT 10 = some f10_law_lists) : ∀ {k : Nat} {d : D} {st : Store}, plD k d = true → callN FT n (k + 1) 10 [d] st = .ok (lisD k d) st := by
  intro k
  induction k with
  | zero =>
    intro d st h
    rw [callN, hT]
    cases d <;> first | cases h; done | (simp (disch := omega) only [f10_law_lists, evE, evA, evs, evs', evI, evsP, exS, bind_ok, bind_ex, bind_bad, so_ok, so_ex, so_bad, then_nx, then_rt, then_bk, then_ex, then_bad, lift_some, lift_none, soE_some', soE_none, noEx_ok, p_nm, p_tup, p_lst, pN_nil, pN_cons, p_frz, p_fls, p_int, p_bl, p_non, p_tupm, p_lstm, f_int, f_bl, f_str, f_non, f_tup, f_lst, f_fls, f_box, f_scr, u_int, u_bl, u_str, u_non, u_tup, u_lst, u_fls, t_bl, t_non, t_int, t_tup, t_lst, t_mls, t_fls, bd_int, bk_fls, bk_flsb, bk_int, bk_bl, bk_non, bk_str, bk_tup, bk_lst, bk_box, back_rt, back_nx, back_ex, idx_int, ix_tup, ix_lst, ix_mls, ix_fls, ix_box, sl_tup, sl_lst, sl_mls, sl_fls, sl_scr, b_add, b_sub, c_lt, c_le, c_gt, c_ge, c_eq, c_ne, c_eqB, c_neB, c_isN, c_notN, i_int, i_intB, i_abs, i_max, i_min, l_lst, l_tup, l_mls, l_fls, li_lst, li_tup, li_fls, tu_lst, tu_tup, tu_fls, tu_mls, su_2, frzM, getM, isS, subM, isNil, isNon, Gb.start, Option.bind_some, Option.bind_none, Option.map_some, Option.map_none, id_eq, List.getElem?_cons_zero, List.getElem?_cons_succ, List.getElem?_nil, List.set_cons_zero, List.set_cons_succ, List.map_cons, List.map_nil, List.length_cons, List.length_nil, List.cons_append, List.nil_append, List.replicate_succ, List.replicate_zero, Nat.reduceSub, Nat.reduceAdd, Nat.zero_add, Nat.reduceLT, if_true, if_false, reduceIte, Bool.false_eq_true, Bool.not_true, Bool.not_false, Bool.not_not, decide_true, decide_false, decide_not, is0_non, is0_bl, is0_int, is0_str, is0_tup, is0_lst, is0_mls, is0_fls, is1_non, is1_bl, is1_int, is1_str, is1_tup, is1_lst, is1_mls, is1_fls, is2_non, is2_bl, is2_int, is2_str, is2_tup, is2_lst, is2_mls, is2_fls, is3_non, is3_bl, is3_int, is3_str, is3_tup, is3_lst, is3_mls, is3_fls, is4_non, is4_bl, is4_int, is4_str, is4_tup, is4_lst, is4_mls, is4_fls, is5_non, is5_bl, is5_int, is5_str, is5_tup, is5_lst, is5_mls, is5_fls, is6_non, is6_bl, is6_int, is6_str, is6_tup, is6_lst, is6_mls, is6_fls, is7_non, is7_bl, is7_int, is7_str, is7_tup, is7_lst, is7_mls, is7_fls, beq_self_eq_true, Bool.true_beq, Bool.false_beq, Bool.and_true, Bool.true_and, Bool.and_false, Bool.false_and, Bool.or_true, Bool.true_or, Bool.or_false, Bool.false_or, wipeE, lisD])
  | succ k ih =>
    intro d st h
    have go : ∀ (xs : List D) (f : D → Store → Out (Option D)), (∀ x ∈ xs, plD k x = true) → xs.length ≤ 10000 → (∀ x, plD k x = true → f x st = .ok (some (lisD k x)) st) → compL f xs [] st = .ok (xs.map (lisD k)) st := fun xs f hx hl hf => by
      rw [compL_map (g := lisD k) _ _ (fun d hd => hf d (hx d hd)) (by rw [List.length_nil]; exact sz (by omega)), List.nil_append]
    have one : ∀ x, plD k x = true → frzD x = some x ∧ purD (lisD k x) = some (lisD k x) ∧ callN FT n (k + 1) 10 [x] st = .ok (lisD k x) st := fun x hx => ⟨(plD_frz hx).1, (plD_frz (lisD_pl hx)).2, ih hx⟩
    rw [callN, hT]
    cases d with
    | tup xs =>
      simp only [plD, Bool.and_eq_true, List.all_eq_true, decide_eq_true_eq] at h
      simp (disch := omega) only [f10_law_lists, evE, evA, evs, evs', evI, evsP, exS, bind_ok, bind_ex, bind_bad, so_ok, so_ex, so_bad, then_nx, then_rt, then_bk, then_ex, then_bad, lift_some, lift_none, soE_some', soE_none, noEx_ok, p_nm, p_tup, p_lst, pN_nil, pN_cons, p_frz, p_fls, p_int, p_bl, p_non, p_tupm, p_lstm, f_int, f_bl, f_str, f_non, f_tup, f_lst, f_fls, f_box, f_scr, u_int, u_bl, u_str, u_non, u_tup, u_lst, u_fls, t_bl, t_non, t_int, t_tup, t_lst, t_mls, t_fls, bd_int, bk_fls, bk_flsb, bk_int, bk_bl, bk_non, bk_str, bk_tup, bk_lst, bk_box, back_rt, back_nx, back_ex, idx_int, ix_tup, ix_lst, ix_mls, ix_fls, ix_box, sl_tup, sl_lst, sl_mls, sl_fls, sl_scr, b_add, b_sub, c_lt, c_le, c_gt, c_ge, c_eq, c_ne, c_eqB, c_neB, c_isN, c_notN, i_int, i_intB, i_abs, i_max, i_min, l_lst, l_tup, l_mls, l_fls, li_lst, li_tup, li_fls, tu_lst, tu_tup, tu_fls, tu_mls, su_2, frzM, getM, isS, subM, isNil, isNon, Gb.start, Option.bind_some, Option.bind_none, Option.map_some, Option.map_none, id_eq, List.getElem?_cons_zero, List.getElem?_cons_succ, List.getElem?_nil, List.set_cons_zero, List.set_cons_succ, List.map_cons, List.map_nil, List.length_cons, List.length_nil, List.cons_append, List.nil_append, List.replicate_succ, List.replicate_zero, Nat.reduceSub, Nat.reduceAdd, Nat.zero_add, Nat.reduceLT, if_true, if_false, reduceIte, Bool.false_eq_true, Bool.not_true, Bool.not_false, Bool.not_not, decide_true, decide_false, decide_not, is0_non, is0_bl, is0_int, is0_str, is0_tup, is0_lst, is0_mls, is0_fls, is1_non, is1_bl, is1_int, is1_str, is1_tup, is1_lst, is1_mls, is1_fls, is2_non, is2_bl, is2_int, is2_str, is2_tup, is2_lst, is2_mls, is2_fls, is3_non, is3_bl, is3_int, is3_str, is3_tup, is3_lst, is3_mls, is3_fls, is4_non, is4_bl, is4_int, is4_str, is4_tup, is4_lst, is4_mls, is4_fls, is5_non, is5_bl, is5_int, is5_str, is5_tup, is5_lst, is5_mls, is5_fls, is6_non, is6_bl, is6_int, is6_str, is6_tup, is6_lst, is6_mls, is6_fls, is7_non, is7_bl, is7_int, is7_str, is7_tup, is7_lst, is7_mls, is7_fls, beq_self_eq_true, Bool.true_beq, Bool.false_beq, Bool.and_true, Bool.true_and, Bool.and_false, Bool.false_and, Bool.or_true, Bool.true_or, Bool.or_false, Bool.false_or, wipeE, lisD]
      rw [go xs _ h.1 h.2 fun x hx => by simp only [evE, evA, evs, evs', evI, evsP, exS, bind_ok, bind_ex, bind_bad, so_ok, so_ex, so_bad, then_nx, then_rt, then_bk, then_ex, then_bad, lift_some, lift_none, soE_some', soE_none, noEx_ok, p_nm, p_tup, p_lst, pN_nil, pN_cons, p_frz, p_fls, p_int, p_bl, p_non, p_tupm, p_lstm, f_int, f_bl, f_str, f_non, f_tup, f_lst, f_fls, f_box, f_scr, u_int, u_bl, u_str, u_non, u_tup, u_lst, u_fls, t_bl, t_non, t_int, t_tup, t_lst, t_mls, t_fls, bd_int, bk_fls, bk_flsb, bk_int, bk_bl, bk_non, bk_str, bk_tup, bk_lst, bk_box, back_rt, back_nx, back_ex, idx_int, ix_tup, ix_lst, ix_mls, ix_fls, ix_box, sl_tup, sl_lst, sl_mls, sl_fls, sl_scr, b_add, b_sub, c_lt, c_le, c_gt, c_ge, c_eq, c_ne, c_eqB, c_neB, c_isN, c_notN, i_int, i_intB, i_abs, i_max, i_min, l_lst, l_tup, l_mls, l_fls, li_lst, li_tup, li_fls, tu_lst, tu_tup, tu_fls, tu_mls, su_2, frzM, getM, isS, subM, isNil, isNon, Gb.start, Option.bind_some, Option.bind_none, Option.map_some, Option.map_none, id_eq, List.getElem?_cons_zero, List.getElem?_cons_succ, List.getElem?_nil, List.set_cons_zero, List.set_cons_succ, List.map_cons, List.map_nil, List.length_cons, List.length_nil, List.cons_append, List.nil_append, List.replicate_succ, List.replicate_zero, Nat.reduceSub, Nat.reduceAdd, Nat.zero_add, Nat.reduceLT, if_true, if_false, reduceIte, Bool.false_eq_true, Bool.not_true, Bool.not_false, Bool.not_not, decide_true, decide_false, decide_not, is0_non, is0_bl, is0_int, is0_str, is0_tup, is0_lst, is0_mls, is0_fls, is1_non, is1_bl, is1_int, is1_str, is1_tup, is1_lst, is1_mls, is1_fls, is2_non, is2_bl, is2_int, is2_str, is2_tup, is2_lst, is2_mls, is2_fls, is3_non, is3_bl, is3_int, is3_str, is3_tup, is3_lst, is3_mls, is3_fls, is4_non, is4_bl, is4_int, is4_str, is4_tup, is4_lst, is4_mls, is4_fls, is5_non, is5_bl, is5_int, is5_str, is5_tup, is5_lst, is5_mls, is5_fls, is6_non, is6_bl, is6_int, is6_str, is6_tup, is6_lst, is6_mls, is6_fls, is7_non, is7_bl, is7_int, is7_str, is7_tup, is7_lst, is7_mls, is7_fls, beq_self_eq_true, Bool.true_beq, Bool.false_beq, Bool.and_true, Bool.true_and, Bool.and_false, Bool.false_and, Bool.or_true, Bool.true_or, Bool.or_false, Bool.false_or, wipeE, (one x hx).1, (one x hx).2.1, (one x hx).2.2]]
      simp (disch := omega) only [evE, evA, evs, evs', evI, evsP, exS, bind_ok, bind_ex, bind_bad, so_ok, so_ex, so_bad, then_nx, then_rt, then_bk, then_ex, then_bad, lift_some, lift_none, soE_some', soE_none, noEx_ok, p_nm, p_tup, p_lst, pN_nil, pN_cons, p_frz, p_fls, p_int, p_bl, p_non, p_tupm, p_lstm, f_int, f_bl, f_str, f_non, f_tup, f_lst, f_fls, f_box, f_scr, u_int, u_bl, u_str, u_non, u_tup, u_lst, u_fls, t_bl, t_non, t_int, t_tup, t_lst, t_mls, t_fls, bd_int, bk_fls, bk_flsb, bk_int, bk_bl, bk_non, bk_str, bk_tup, bk_lst, bk_box, back_rt, back_nx, back_ex, idx_int, ix_tup, ix_lst, ix_mls, ix_fls, ix_box, sl_tup, sl_lst, sl_mls, sl_fls, sl_scr, b_add, b_sub, c_lt, c_le, c_gt, c_ge, c_eq, c_ne, c_eqB, c_neB, c_isN, c_notN, i_int, i_intB, i_abs, i_max, i_min, l_lst, l_tup, l_mls, l_fls, li_lst, li_tup, li_fls, tu_lst, tu_tup, tu_fls, tu_mls, su_2, frzM, getM, isS, subM, isNil, isNon, Gb.start, Option.bind_some, Option.bind_none, Option.map_some, Option.map_none, id_eq, List.getElem?_cons_zero, List.getElem?_cons_succ, List.getElem?_nil, List.set_cons_zero, List.set_cons_succ, List.map_cons, List.map_nil, List.length_cons, List.length_nil, List.cons_append, List.nil_append, List.replicate_succ, List.replicate_zero, Nat.reduceSub, Nat.reduceAdd, Nat.zero_add, Nat.reduceLT, if_true, if_false, reduceIte, Bool.false_eq_true, Bool.not_true, Bool.not_false, Bool.not_not, decide_true, decide_false, decide_not, is0_non, is0_bl, is0_int, is0_str, is0_tup, is0_lst, is0_mls, is0_fls, is1_non, is1_bl, is1_int, is1_str, is1_tup, is1_lst, is1_mls, is1_fls, is2_non, is2_bl, is2_int, is2_str, is2_tup, is2_lst, is2_mls, is2_fls, is3_non, is3_bl, is3_int, is3_str, is3_tup, is3_lst, is3_mls, is3_fls, is4_non, is4_bl, is4_int, is4_str, is4_tup, is4_lst, is4_mls, is4_fls, is5_non, is5_bl, is5_int, is5_str, is5_tup, is5_lst, is5_mls, is5_fls, is6_non, is6_bl, is6_int, is6_str, is6_tup, is6_lst, is6_mls, is6_fls, is7_non, is7_bl, is7_int, is7_str, is7_tup, is7_lst, is7_mls, is7_fls, beq_self_eq_true, Bool.true_beq, Bool.false_beq, Bool.and_true, Bool.true_and, Bool.and_false, Bool.false_and, Bool.or_true, Bool.true_or, Bool.or_false, Bool.false_or, wipeE]
    | lst xs =>
      simp only [plD, Bool.and_eq_true, List.all_eq_true, decide_eq_true_eq] at h
      simp (disch := omega) only [f10_law_lists, evE, evA, evs, evs', evI, evsP, exS, bind_ok, bind_ex, bind_bad, so_ok, so_ex, so_bad, then_nx, then_rt, then_bk, then_ex, then_bad, lift_some, lift_none, soE_some', soE_none, noEx_ok, p_nm, p_tup, p_lst, pN_nil, pN_cons, p_frz, p_fls, p_int, p_bl, p_non, p_tupm, p_lstm, f_int, f_bl, f_str, f_non, f_tup, f_lst, f_fls, f_box, f_scr, u_int, u_bl, u_str, u_non, u_tup, u_lst, u_fls, t_bl, t_non, t_int, t_tup, t_lst, t_mls, t_fls, bd_int, bk_fls, bk_flsb, bk_int, bk_bl, bk_non, bk_str, bk_tup, bk_lst, bk_box, back_rt, back_nx, back_ex, idx_int, ix_tup, ix_lst, ix_mls, ix_fls, ix_box, sl_tup, sl_lst, sl_mls, sl_fls, sl_scr, b_add, b_sub, c_lt, c_le, c_gt, c_ge, c_eq, c_ne, c_eqB, c_neB, c_isN, c_notN, i_int, i_intB, i_abs, i_max, i_min, l_lst, l_tup, l_mls, l_fls, li_lst, li_tup, li_fls, tu_lst, tu_tup, tu_fls, tu_mls, su_2, frzM, getM, isS, subM, isNil, isNon, Gb.start, Option.bind_some, Option.bind_none, Option.map_some, Option.map_none, id_eq, List.getElem?_cons_zero, List.getElem?_cons_succ, List.getElem?_nil, List.set_cons_zero, List.set_cons_succ, List.map_cons, List.map_nil, List.length_cons, List.length_nil, List.cons_append, List.nil_append, List.replicate_succ, List.replicate_zero, Nat.reduceSub, Nat.reduceAdd, Nat.zero_add, Nat.reduceLT, if_true, if_false, reduceIte, Bool.false_eq_true, Bool.not_true, Bool.not_false, Bool.not_not, decide_true, decide_false, decide_not, is0_non, is0_bl, is0_int, is0_str, is0_tup, is0_lst, is0_mls, is0_fls, is1_non, is1_bl, is1_int, is1_str, is1_tup, is1_lst, is1_mls, is1_fls, is2_non, is2_bl, is2_int, is2_str, is2_tup, is2_lst, is2_mls, is2_fls, is3_non, is3_bl, is3_int, is3_str, is3_tup, is3_lst, is3_mls, is3_fls, is4_non, is4_bl, is4_int, is4_str, is4_tup, is4_lst, is4_mls, is4_fls, is5_non, is5_bl, is5_int, is5_str, is5_tup, is5_lst, is5_mls, is5_fls, is6_non, is6_bl, is6_int, is6_str, is6_tup, is6_lst, is6_mls, is6_fls, is7_non, is7_bl, is7_int, is7_str, is7_tup, is7_lst, is7_mls, is7_fls, beq_self_eq_true, Bool.true_beq, Bool.false_beq, Bool.and_true, Bool.true_and, Bool.and_false, Bool.false_and, Bool.or_true, Bool.true_or, Bool.or_false, Bool.false_or, wipeE, lisD]
      rw [go xs _ h.1 h.2 fun x hx => by simp only [evE, evA, evs, evs', evI, evsP, exS, bind_ok, bind_ex, bind_bad, so_ok, so_ex, so_bad, then_nx, then_rt, then_bk, then_ex, then_bad, lift_some, lift_none, soE_some', soE_none, noEx_ok, p_nm, p_tup, p_lst, pN_nil, pN_cons, p_frz, p_fls, p_int, p_bl, p_non, p_tupm, p_lstm, f_int, f_bl, f_str, f_non, f_tup, f_lst, f_fls, f_box, f_scr, u_int, u_bl, u_str, u_non, u_tup, u_lst, u_fls, t_bl, t_non, t_int, t_tup, t_lst, t_mls, t_fls, bd_int, bk_fls, bk_flsb, bk_int, bk_bl, bk_non, bk_str, bk_tup, bk_lst, bk_box, back_rt, back_nx, back_ex, idx_int, ix_tup, ix_lst, ix_mls, ix_fls, ix_box, sl_tup, sl_lst, sl_mls, sl_fls, sl_scr, b_add, b_sub, c_lt, c_le, c_gt, c_ge, c_eq, c_ne, c_eqB, c_neB, c_isN, c_notN, i_int, i_intB, i_abs, i_max, i_min, l_lst, l_tup, l_mls, l_fls, li_lst, li_tup, li_fls, tu_lst, tu_tup, tu_fls, tu_mls, su_2, frzM, getM, isS, subM, isNil, isNon, Gb.start, Option.bind_some, Option.bind_none, Option.map_some, Option.map_none, id_eq, List.getElem?_cons_zero, List.getElem?_cons_succ, List.getElem?_nil, List.set_cons_zero, List.set_cons_succ, List.map_cons, List.map_nil, List.length_cons, List.length_nil, List.cons_append, List.nil_append, List.replicate_succ, List.replicate_zero, Nat.reduceSub, Nat.reduceAdd, Nat.zero_add, Nat.reduceLT, if_true, if_false, reduceIte, Bool.false_eq_true, Bool.not_true, Bool.not_false, Bool.not_not, decide_true, decide_false, decide_not, is0_non, is0_bl, is0_int, is0_str, is0_tup, is0_lst, is0_mls, is0_fls, is1_non, is1_bl, is1_int, is1_str, is1_tup, is1_lst, is1_mls, is1_fls, is2_non, is2_bl, is2_int, is2_str, is2_tup, is2_lst, is2_mls, is2_fls, is3_non, is3_bl, is3_int, is3_str, is3_tup, is3_lst, is3_mls, is3_fls, is4_non, is4_bl, is4_int, is4_str, is4_tup, is4_lst, is4_mls, is4_fls, is5_non, is5_bl, is5_int, is5_str, is5_tup, is5_lst, is5_mls, is5_fls, is6_non, is6_bl, is6_int, is6_str, is6_tup, is6_lst, is6_mls, is6_fls, is7_non, is7_bl, is7_int, is7_str, is7_tup, is7_lst, is7_mls, is7_fls, beq_self_eq_true, Bool.true_beq, Bool.false_beq, Bool.and_true, Bool.true_and, Bool.and_false, Bool.false_and, Bool.or_true, Bool.true_or, Bool.or_false, Bool.false_or, wipeE, (one x hx).1, (one x hx).2.1, (one x hx).2.2]]
      simp (disch := omega) only [evE, evA, evs, evs', evI, evsP, exS, bind_ok, bind_ex, bind_bad, so_ok, so_ex, so_bad, then_nx, then_rt, then_bk, then_ex, then_bad, lift_some, lift_none, soE_some', soE_none, noEx_ok, p_nm, p_tup, p_lst, pN_nil, pN_cons, p_frz, p_fls, p_int, p_bl, p_non, p_tupm, p_lstm, f_int, f_bl, f_str, f_non, f_tup, f_lst, f_fls, f_box, f_scr, u_int, u_bl, u_str, u_non, u_tup, u_lst, u_fls, t_bl, t_non, t_int, t_tup, t_lst, t_mls, t_fls, bd_int, bk_fls, bk_flsb, bk_int, bk_bl, bk_non, bk_str, bk_tup, bk_lst, bk_box, back_rt, back_nx, back_ex, idx_int, ix_tup, ix_lst, ix_mls, ix_fls, ix_box, sl_tup, sl_lst, sl_mls, sl_fls, sl_scr, b_add, b_sub, c_lt, c_le, c_gt, c_ge, c_eq, c_ne, c_eqB, c_neB, c_isN, c_notN, i_int, i_intB, i_abs, i_max, i_min, l_lst, l_tup, l_mls, l_fls, li_lst, li_tup, li_fls, tu_lst, tu_tup, tu_fls, tu_mls, su_2, frzM, getM, isS, subM, isNil, isNon, Gb.start, Option.bind_some, Option.bind_none, Option.map_some, Option.map_none, id_eq, List.getElem?_cons_zero, List.getElem?_cons_succ, List.getElem?_nil, List.set_cons_zero, List.set_cons_succ, List.map_cons, List.map_nil, List.length_cons, List.length_nil, List.cons_append, List.nil_append, List.replicate_succ, List.replicate_zero, Nat.reduceSub, Nat.reduceAdd, Nat.zero_add, Nat.reduceLT, if_true, if_false, reduceIte, Bool.false_eq_true, Bool.not_true, Bool.not_false, Bool.not_not, decide_true, decide_false, decide_not, is0_non, is0_bl, is0_int, is0_str, is0_tup, is0_lst, is0_mls, is0_fls, is1_non, is1_bl, is1_int, is1_str, is1_tup, is1_lst, is1_mls, is1_fls, is2_non, is2_bl, is2_int, is2_str, is2_tup, is2_lst, is2_mls, is2_fls, is3_non, is3_bl, is3_int, is3_str, is3_tup, is3_lst, is3_mls, is3_fls, is4_non, is4_bl, is4_int, is4_str, is4_tup, is4_lst, is4_mls, is4_fls, is5_non, is5_bl, is5_int, is5_str, is5_tup, is5_lst, is5_mls, is5_fls, is6_non, is6_bl, is6_int, is6_str, is6_tup, is6_lst, is6_mls, is6_fls, is7_non, is7_bl, is7_int, is7_str, is7_tup, is7_lst, is7_mls, is7_fls, beq_self_eq_true, Bool.true_beq, Bool.false_beq, Bool.and_true, Bool.true_and, Bool.and_false, Bool.false_and, Bool.or_true, Bool.true_or, Bool.or_false, Bool.false_or, wipeE]
    | _ => first | cases h; done | (simp (disch := omega) only [f10_law_lists, evE, evA, evs, evs', evI, evsP, exS, bind_ok, bind_ex, bind_bad, so_ok, so_ex, so_bad, then_nx, then_rt, then_bk, then_ex, then_bad, lift_some, lift_none, soE_some', soE_none, noEx_ok, p_nm, p_tup, p_lst, pN_nil, pN_cons, p_frz, p_fls, p_int, p_bl, p_non, p_tupm, p_lstm, f_int, f_bl, f_str, f_non, f_tup, f_lst, f_fls, f_box, f_scr, u_int, u_bl, u_str, u_non, u_tup, u_lst, u_fls, t_bl, t_non, t_int, t_tup, t_lst, t_mls, t_fls, bd_int, bk_fls, bk_flsb, bk_int, bk_bl, bk_non, bk_str, bk_tup, bk_lst, bk_box, back_rt, back_nx, back_ex, idx_int, ix_tup, ix_lst, ix_mls, ix_fls, ix_box, sl_tup, sl_lst, sl_mls, sl_fls, sl_scr, b_add, b_sub, c_lt, c_le, c_gt, c_ge, c_eq, c_ne, c_eqB, c_neB, c_isN, c_notN, i_int, i_intB, i_abs, i_max, i_min, l_lst, l_tup, l_mls, l_fls, li_lst, li_tup, li_fls, tu_lst, tu_tup, tu_fls, tu_mls, su_2, frzM, getM, isS, subM, isNil, isNon, Gb.start, Option.bind_some, Option.bind_none, Option.map_some, Option.map_none, id_eq, List.getElem?_cons_zero, List.getElem?_cons_succ, List.getElem?_nil, List.set_cons_zero, List.set_cons_succ, List.map_cons, List.map_nil, List.length_cons, List.length_nil, List.cons_append, List.nil_append, List.replicate_succ, List.replicate_zero, Nat.reduceSub, Nat.reduceAdd, Nat.zero_add, Nat.reduceLT, if_true, if_false, reduceIte, Bool.false_eq_true, Bool.not_true, Bool.not_false, Bool.not_not, decide_true, decide_false, decide_not, is0_non, is0_bl, is0_int, is0_str, is0_tup, is0_lst, is0_mls, is0_fls, is1_non, is1_bl, is1_int, is1_str, is1_tup, is1_lst, is1_mls, is1_fls, is2_non, is2_bl, is2_int, is2_str, is2_tup, is2_lst, is2_mls, is2_fls, is3_non, is3_bl, is3_int, is3_str, is3_tup, is3_lst, is3_mls, is3_fls, is4_non, is4_bl, is4_int, is4_str, is4_tup, is4_lst, is4_mls, is4_fls, is5_non, is5_bl, is5_int, is5_str, is5_tup, is5_lst, is5_mls, is5_fls, is6_non, is6_bl, is6_int, is6_str, is6_tup, is6_lst, is6_mls, is6_fls, is7_non, is7_bl, is7_int, is7_str, is7_tup, is7_lst, is7_mls, is7_fls, beq_self_eq_true, Bool.true_beq, Bool.false_beq, Bool.and_true, Bool.true_and, Bool.and_false, Bool.false_and, Bool.or_true, Bool.true_or, Bool.or_false, Bool.false_or, wipeE, lisD])
theorem tupled_ok (hT : FT 22 = some f22_tupled) : ∀ {k : Nat} {d : D} {st : Store}, plD k d = true → callN FT n (k + 1) 22 [d] st = .ok (tupD k d) st := by
  intro k
  induction k with
  | zero =>
    intro d st h
    rw [callN, hT]
    cases d <;> first | cases h; done | (simp (disch := omega) only [f22_tupled, evE, evA, evs, evs', evI, evsP, exS, bind_ok, bind_ex, bind_bad, so_ok, so_ex, so_bad, then_nx, then_rt, then_bk, then_ex, then_bad, lift_some, lift_none, soE_some', soE_none, noEx_ok, p_nm, p_tup, p_lst, pN_nil, pN_cons, p_frz, p_fls, p_int, p_bl, p_non, p_tupm, p_lstm, f_int, f_bl, f_str, f_non, f_tup, f_lst, f_fls, f_box, f_scr, u_int, u_bl, u_str, u_non, u_tup, u_lst, u_fls, t_bl, t_non, t_int, t_tup, t_lst, t_mls, t_fls, bd_int, bk_fls, bk_flsb, bk_int, bk_bl, bk_non, bk_str, bk_tup, bk_lst, bk_box, back_rt, back_nx, back_ex, idx_int, ix_tup, ix_lst, ix_mls, ix_fls, ix_box, sl_tup, sl_lst, sl_mls, sl_fls, sl_scr, b_add, b_sub, c_lt, c_le, c_gt, c_ge, c_eq, c_ne, c_eqB, c_neB, c_isN, c_notN, i_int, i_intB, i_abs, i_max, i_min, l_lst, l_tup, l_mls, l_fls, li_lst, li_tup, li_fls, tu_lst, tu_tup, tu_fls, tu_mls, su_2, frzM, getM, isS, subM, isNil, isNon, Gb.start, Option.bind_some, Option.bind_none, Option.map_some, Option.map_none, id_eq, List.getElem?_cons_zero, List.getElem?_cons_succ, List.getElem?_nil, List.set_cons_zero, List.set_cons_succ, List.map_cons, List.map_nil, List.length_cons, List.length_nil, List.cons_append, List.nil_append, List.replicate_succ, List.replicate_zero, Nat.reduceSub, Nat.reduceAdd, Nat.zero_add, Nat.reduceLT, if_true, if_false, reduceIte, Bool.false_eq_true, Bool.not_true, Bool.not_false, Bool.not_not, decide_true, decide_false, decide_not, is0_non, is0_bl, is0_int, is0_str, is0_tup, is0_lst, is0_mls, is0_fls, is1_non, is1_bl, is1_int, is1_str, is1_tup, is1_lst, is1_mls, is1_fls, is2_non, is2_bl, is2_int, is2_str, is2_tup, is2_lst, is2_mls, is2_fls, is3_non, is3_bl, is3_int, is3_str, is3_tup, is3_lst, is3_mls, is3_fls, is4_non, is4_bl, is4_int, is4_str, is4_tup, is4_lst, is4_mls, is4_fls, is5_non, is5_bl, is5_int, is5_str, is5_tup, is5_lst, is5_mls, is5_fls, is6_non, is6_bl, is6_int, is6_str, is6_tup, is6_lst, is6_mls, is6_fls, is7_non, is7_bl, is7_int, is7_str, is7_tup, is7_lst, is7_mls, is7_fls, beq_self_eq_true, Bool.true_beq, Bool.false_beq, Bool.and_true, Bool.true_and, Bool.and_false, Bool.false_and, Bool.or_true, Bool.true_or, Bool.or_false, Bool.false_or, wipeE, tupD])
  | succ k ih =>
    intro d st h
    have go : ∀ (xs : List D) (f : D → Store → Out (Option D)), (∀ x ∈ xs, plD k x = true) → xs.length ≤ 10000 → (∀ x, plD k x = true → f x st = .ok (some (tupD k x)) st) → compL f xs [] st = .ok (xs.map (tupD k)) st := fun xs f hx hl hf => by
      rw [compL_map (g := tupD k) _ _ (fun d hd => hf d (hx d hd)) (by rw [List.length_nil]; exact sz (by omega)), List.nil_append]
    have one : ∀ x, plD k x = true → frzD x = some x ∧ purD (tupD k x) = some (tupD k x) ∧ callN FT n (k + 1) 22 [x] st = .ok (tupD k x) st := fun x hx => ⟨(plD_frz hx).1, (plD_frz (tupD_pl hx)).2, ih hx⟩
    rw [callN, hT]
    cases d with
    | tup xs =>
      simp only [plD, Bool.and_eq_true, List.all_eq_true, decide_eq_true_eq] at h
      simp (disch := omega) only [f22_tupled, evE, evA, evs, evs', evI, evsP, exS, bind_ok, bind_ex, bind_bad, so_ok, so_ex, so_bad, then_nx, then_rt, then_bk, then_ex, then_bad, lift_some, lift_none, soE_some', soE_none, noEx_ok, p_nm, p_tup, p_lst, pN_nil, pN_cons, p_frz, p_fls, p_int, p_bl, p_non, p_tupm, p_lstm, f_int, f_bl, f_str, f_non, f_tup, f_lst, f_fls, f_box, f_scr, u_int, u_bl, u_str, u_non, u_tup, u_lst, u_fls, t_bl, t_non, t_int, t_tup, t_lst, t_mls, t_fls, bd_int, bk_fls, bk_flsb, bk_int, bk_bl, bk_non, bk_str, bk_tup, bk_lst, bk_box, back_rt, back_nx, back_ex, idx_int, ix_tup, ix_lst, ix_mls, ix_fls, ix_box, sl_tup, sl_lst, sl_mls, sl_fls, sl_scr, b_add, b_sub, c_lt, c_le, c_gt, c_ge, c_eq, c_ne, c_eqB, c_neB, c_isN, c_notN, i_int, i_intB, i_abs, i_max, i_min, l_lst, l_tup, l_mls, l_fls, li_lst, li_tup, li_fls, tu_lst, tu_tup, tu_fls, tu_mls, su_2, frzM, getM, isS, subM, isNil, isNon, Gb.start, Option.bind_some, Option.bind_none, Option.map_some, Option.map_none, id_eq, List.getElem?_cons_zero, List.getElem?_cons_succ, List.getElem?_nil, List.set_cons_zero, List.set_cons_succ, List.map_cons, List.map_nil, List.length_cons, List.length_nil, List.cons_append, List.nil_append, List.replicate_succ, List.replicate_zero, Nat.reduceSub, Nat.reduceAdd, Nat.zero_add, Nat.reduceLT, if_true, if_false, reduceIte, Bool.false_eq_true, Bool.not_true, Bool.not_false, Bool.not_not, decide_true, decide_false, decide_not, is0_non, is0_bl, is0_int, is0_str, is0_tup, is0_lst, is0_mls, is0_fls, is1_non, is1_bl, is1_int, is1_str, is1_tup, is1_lst, is1_mls, is1_fls, is2_non, is2_bl, is2_int, is2_str, is2_tup, is2_lst, is2_mls, is2_fls, is3_non, is3_bl, is3_int, is3_str, is3_tup, is3_lst, is3_mls, is3_fls, is4_non, is4_bl, is4_int, is4_str, is4_tup, is4_lst, is4_mls, is4_fls, is5_non, is5_bl, is5_int, is5_str, is5_tup, is5_lst, is5_mls, is5_fls, is6_non, is6_bl, is6_int, is6_str, is6_tup, is6_lst, is6_mls, is6_fls, is7_non, is7_bl, is7_int, is7_str, is7_tup, is7_lst, is7_mls, is7_fls, beq_self_eq_true, Bool.true_beq, Bool.false_beq, Bool.and_true, Bool.true_and, Bool.and_false, Bool.false_and, Bool.or_true, Bool.true_or, Bool.or_false, Bool.false_or, wipeE, tupD]
      rw [go xs _ h.1 h.2 fun x hx => by simp only [evE, evA, evs, evs', evI, evsP, exS, bind_ok, bind_ex, bind_bad, so_ok, so_ex, so_bad, then_nx, then_rt, then_bk, then_ex, then_bad, lift_some, lift_none, soE_some', soE_none, noEx_ok, p_nm, p_tup, p_lst, pN_nil, pN_cons, p_frz, p_fls, p_int, p_bl, p_non, p_tupm, p_lstm, f_int, f_bl, f_str, f_non, f_tup, f_lst, f_fls, f_box, f_scr, u_int, u_bl, u_str, u_non, u_tup, u_lst, u_fls, t_bl, t_non, t_int, t_tup, t_lst, t_mls, t_fls, bd_int, bk_fls, bk_flsb, bk_int, bk_bl, bk_non, bk_str, bk_tup, bk_lst, bk_box, back_rt, back_nx, back_ex, idx_int, ix_tup, ix_lst, ix_mls, ix_fls, ix_box, sl_tup, sl_lst, sl_mls, sl_fls, sl_scr, b_add, b_sub, c_lt, c_le, c_gt, c_ge, c_eq, c_ne, c_eqB, c_neB, c_isN, c_notN, i_int, i_intB, i_abs, i_max, i_min, l_lst, l_tup, l_mls, l_fls, li_lst, li_tup, li_fls, tu_lst, tu_tup, tu_fls, tu_mls, su_2, frzM, getM, isS, subM, isNil, isNon, Gb.start, Option.bind_some, Option.bind_none, Option.map_some, Option.map_none, id_eq, List.getElem?_cons_zero, List.getElem?_cons_succ, List.getElem?_nil, List.set_cons_zero, List.set_cons_succ, List.map_cons, List.map_nil, List.length_cons, List.length_nil, List.cons_append, List.nil_append, List.replicate_succ, List.replicate_zero, Nat.reduceSub, Nat.reduceAdd, Nat.zero_add, Nat.reduceLT, if_true, if_false, reduceIte, Bool.false_eq_true, Bool.not_true, Bool.not_false, Bool.not_not, decide_true, decide_false, decide_not, is0_non, is0_bl, is0_int, is0_str, is0_tup, is0_lst, is0_mls, is0_fls, is1_non, is1_bl, is1_int, is1_str, is1_tup, is1_lst, is1_mls, is1_fls, is2_non, is2_bl, is2_int, is2_str, is2_tup, is2_lst, is2_mls, is2_fls, is3_non, is3_bl, is3_int, is3_str, is3_tup, is3_lst, is3_mls, is3_fls, is4_non, is4_bl, is4_int, is4_str, is4_tup, is4_lst, is4_mls, is4_fls, is5_non, is5_bl, is5_int, is5_str, is5_tup, is5_lst, is5_mls, is5_fls, is6_non, is6_bl, is6_int, is6_str, is6_tup, is6_lst, is6_mls, is6_fls, is7_non, is7_bl, is7_int, is7_str, is7_tup, is7_lst, is7_mls, is7_fls, beq_self_eq_true, Bool.true_beq, Bool.false_beq, Bool.and_true, Bool.true_and, Bool.and_false, Bool.false_and, Bool.or_true, Bool.true_or, Bool.or_false, Bool.false_or, wipeE, (one x hx).1, (one x hx).2.1, (one x hx).2.2]]
      simp (disch := omega) only [evE, evA, evs, evs', evI, evsP, exS, bind_ok, bind_ex, bind_bad, so_ok, so_ex, so_bad, then_nx, then_rt, then_bk, then_ex, then_bad, lift_some, lift_none, soE_some', soE_none, noEx_ok, p_nm, p_tup, p_lst, pN_nil, pN_cons, p_frz, p_fls, p_int, p_bl, p_non, p_tupm, p_lstm, f_int, f_bl, f_str, f_non, f_tup, f_lst, f_fls, f_box, f_scr, u_int, u_bl, u_str, u_non, u_tup, u_lst, u_fls, t_bl, t_non, t_int, t_tup, t_lst, t_mls, t_fls, bd_int, bk_fls, bk_flsb, bk_int, bk_bl, bk_non, bk_str, bk_tup, bk_lst, bk_box, back_rt, back_nx, back_ex, idx_int, ix_tup, ix_lst, ix_mls, ix_fls, ix_box, sl_tup, sl_lst, sl_mls, sl_fls, sl_scr, b_add, b_sub, c_lt, c_le, c_gt, c_ge, c_eq, c_ne, c_eqB, c_neB, c_isN, c_notN, i_int, i_intB, i_abs, i_max, i_min, l_lst, l_tup, l_mls, l_fls, li_lst, li_tup, li_fls, tu_lst, tu_tup, tu_fls, tu_mls, su_2, frzM, getM, isS, subM, isNil, isNon, Gb.start, Option.bind_some, Option.bind_none, Option.map_some, Option.map_none, id_eq, List.getElem?_cons_zero, List.getElem?_cons_succ, List.getElem?_nil, List.set_cons_zero, List.set_cons_succ, List.map_cons, List.map_nil, List.length_cons, List.length_nil, List.cons_append, List.nil_append, List.replicate_succ, List.replicate_zero, Nat.reduceSub, Nat.reduceAdd, Nat.zero_add, Nat.reduceLT, if_true, if_false, reduceIte, Bool.false_eq_true, Bool.not_true, Bool.not_false, Bool.not_not, decide_true, decide_false, decide_not, is0_non, is0_bl, is0_int, is0_str, is0_tup, is0_lst, is0_mls, is0_fls, is1_non, is1_bl, is1_int, is1_str, is1_tup, is1_lst, is1_mls, is1_fls, is2_non, is2_bl, is2_int, is2_str, is2_tup, is2_lst, is2_mls, is2_fls, is3_non, is3_bl, is3_int, is3_str, is3_tup, is3_lst, is3_mls, is3_fls, is4_non, is4_bl, is4_int, is4_str, is4_tup, is4_lst, is4_mls, is4_fls, is5_non, is5_bl, is5_int, is5_str, is5_tup, is5_lst, is5_mls, is5_fls, is6_non, is6_bl, is6_int, is6_str, is6_tup, is6_lst, is6_mls, is6_fls, is7_non, is7_bl, is7_int, is7_str, is7_tup, is7_lst, is7_mls, is7_fls, beq_self_eq_true, Bool.true_beq, Bool.false_beq, Bool.and_true, Bool.true_and, Bool.and_false, Bool.false_and, Bool.or_true, Bool.true_or, Bool.or_false, Bool.false_or, wipeE]
    | lst xs =>
      simp only [plD, Bool.and_eq_true, List.all_eq_true, decide_eq_true_eq] at h
      simp (disch := omega) only [f22_tupled, evE, evA, evs, evs', evI, evsP, exS, bind_ok, bind_ex, bind_bad, so_ok, so_ex, so_bad, then_nx, then_rt, then_bk, then_ex, then_bad, lift_some, lift_none, soE_some', soE_none, noEx_ok, p_nm, p_tup, p_lst, pN_nil, pN_cons, p_frz, p_fls, p_int, p_bl, p_non, p_tupm, p_lstm, f_int, f_bl, f_str, f_non, f_tup, f_lst, f_fls, f_box, f_scr, u_int, u_bl, u_str, u_non, u_tup, u_lst, u_fls, t_bl, t_non, t_int, t_tup, t_lst, t_mls, t_fls, bd_int, bk_fls, bk_flsb, bk_int, bk_bl, bk_non, bk_str, bk_tup, bk_lst, bk_box, back_rt, back_nx, back_ex, idx_int, ix_tup, ix_lst, ix_mls, ix_fls, ix_box, sl_tup, sl_lst, sl_mls, sl_fls, sl_scr, b_add, b_sub, c_lt, c_le, c_gt, c_ge, c_eq, c_ne, c_eqB, c_neB, c_isN, c_notN, i_int, i_intB, i_abs, i_max, i_min, l_lst, l_tup, l_mls, l_fls, li_lst, li_tup, li_fls, tu_lst, tu_tup, tu_fls, tu_mls, su_2, frzM, getM, isS, subM, isNil, isNon, Gb.start, Option.bind_some, Option.bind_none, Option.map_some, Option.map_none, id_eq, List.getElem?_cons_zero, List.getElem?_cons_succ, List.getElem?_nil, List.set_cons_zero, List.set_cons_succ, List.map_cons, List.map_nil, List.length_cons, List.length_nil, List.cons_append, List.nil_append, List.replicate_succ, List.replicate_zero, Nat.reduceSub, Nat.reduceAdd, Nat.zero_add, Nat.reduceLT, if_true, if_false, reduceIte, Bool.false_eq_true, Bool.not_true, Bool.not_false, Bool.not_not, decide_true, decide_false, decide_not, is0_non, is0_bl, is0_int, is0_str, is0_tup, is0_lst, is0_mls, is0_fls, is1_non, is1_bl, is1_int, is1_str, is1_tup, is1_lst, is1_mls, is1_fls, is2_non, is2_bl, is2_int, is2_str, is2_tup, is2_lst, is2_mls, is2_fls, is3_non, is3_bl, is3_int, is3_str, is3_tup, is3_lst, is3_mls, is3_fls, is4_non, is4_bl, is4_int, is4_str, is4_tup, is4_lst, is4_mls, is4_fls, is5_non, is5_bl, is5_int, is5_str, is5_tup, is5_lst, is5_mls, is5_fls, is6_non, is6_bl, is6_int, is6_str, is6_tup, is6_lst, is6_mls, is6_fls, is7_non, is7_bl, is7_int, is7_str, is7_tup, is7_lst, is7_mls, is7_fls, beq_self_eq_true, Bool.true_beq, Bool.false_beq, Bool.and_true, Bool.true_and, Bool.and_false, Bool.false_and, Bool.or_true, Bool.true_or, Bool.or_false, Bool.false_or, wipeE, tupD]
      rw [go xs _ h.1 h.2 fun x hx => by simp only [evE, evA, evs, evs', evI, evsP, exS, bind_ok, bind_ex, bind_bad, so_ok, so_ex, so_bad, then_nx, then_rt, then_bk, then_ex, then_bad, lift_some, lift_none, soE_some', soE_none, noEx_ok, p_nm, p_tup, p_lst, pN_nil, pN_cons, p_frz, p_fls, p_int, p_bl, p_non, p_tupm, p_lstm, f_int, f_bl, f_str, f_non, f_tup, f_lst, f_fls, f_box, f_scr, u_int, u_bl, u_str, u_non, u_tup, u_lst, u_fls, t_bl, t_non, t_int, t_tup, t_lst, t_mls, t_fls, bd_int, bk_fls, bk_flsb, bk_int, bk_bl, bk_non, bk_str, bk_tup, bk_lst, bk_box, back_rt, back_nx, back_ex, idx_int, ix_tup, ix_lst, ix_mls, ix_fls, ix_box, sl_tup, sl_lst, sl_mls, sl_fls, sl_scr, b_add, b_sub, c_lt, c_le, c_gt, c_ge, c_eq, c_ne, c_eqB, c_neB, c_isN, c_notN, i_int, i_intB, i_abs, i_max, i_min, l_lst, l_tup, l_mls, l_fls, li_lst, li_tup, li_fls, tu_lst, tu_tup, tu_fls, tu_mls, su_2, frzM, getM, isS, subM, isNil, isNon, Gb.start, Option.bind_some, Option.bind_none, Option.map_some, Option.map_none, id_eq, List.getElem?_cons_zero, List.getElem?_cons_succ, List.getElem?_nil, List.set_cons_zero, List.set_cons_succ, List.map_cons, List.map_nil, List.length_cons, List.length_nil, List.cons_append, List.nil_append, List.replicate_succ, List.replicate_zero, Nat.reduceSub, Nat.reduceAdd, Nat.zero_add, Nat.reduceLT, if_true, if_false, reduceIte, Bool.false_eq_true, Bool.not_true, Bool.not_false, Bool.not_not, decide_true, decide_false, decide_not, is0_non, is0_bl, is0_int, is0_str, is0_tup, is0_lst, is0_mls, is0_fls, is1_non, is1_bl, is1_int, is1_str, is1_tup, is1_lst, is1_mls, is1_fls, is2_non, is2_bl, is2_int, is2_str, is2_tup, is2_lst, is2_mls, is2_fls, is3_non, is3_bl, is3_int, is3_str, is3_tup, is3_lst, is3_mls, is3_fls, is4_non, is4_bl, is4_int, is4_str, is4_tup, is4_lst, is4_mls, is4_fls, is5_non, is5_bl, is5_int, is5_str, is5_tup, is5_lst, is5_mls, is5_fls, is6_non, is6_bl, is6_int, is6_str, is6_tup, is6_lst, is6_mls, is6_fls, is7_non, is7_bl, is7_int, is7_str, is7_tup, is7_lst, is7_mls, is7_fls, beq_self_eq_true, Bool.true_beq, Bool.false_beq, Bool.and_true, Bool.true_and, Bool.and_false, Bool.false_and, Bool.or_true, Bool.true_or, Bool.or_false, Bool.false_or, wipeE, (one x hx).1, (one x hx).2.1, (one x hx).2.2]]
      simp (disch := omega) only [evE, evA, evs, evs', evI, evsP, exS, bind_ok, bind_ex, bind_bad, so_ok, so_ex, so_bad, then_nx, then_rt, then_bk, then_ex, then_bad, lift_some, lift_none, soE_some', soE_none, noEx_ok, p_nm, p_tup, p_lst, pN_nil, pN_cons, p_frz, p_fls, p_int, p_bl, p_non, p_tupm, p_lstm, f_int, f_bl, f_str, f_non, f_tup, f_lst, f_fls, f_box, f_scr, u_int, u_bl, u_str, u_non, u_tup, u_lst, u_fls, t_bl, t_non, t_int, t_tup, t_lst, t_mls, t_fls, bd_int, bk_fls, bk_flsb, bk_int, bk_bl, bk_non, bk_str, bk_tup, bk_lst, bk_box, back_rt, back_nx, back_ex, idx_int, ix_tup, ix_lst, ix_mls, ix_fls, ix_box, sl_tup, sl_lst, sl_mls, sl_fls, sl_scr, b_add, b_sub, c_lt, c_le, c_gt, c_ge, c_eq, c_ne, c_eqB, c_neB, c_isN, c_notN, i_int, i_intB, i_abs, i_max, i_min, l_lst, l_tup, l_mls, l_fls, li_lst, li_tup, li_fls, tu_lst, tu_tup, tu_fls, tu_mls, su_2, frzM, getM, isS, subM, isNil, isNon, Gb.start, Option.bind_some, Option.bind_none, Option.map_some, Option.map_none, id_eq, List.getElem?_cons_zero, List.getElem?_cons_succ, List.getElem?_nil, List.set_cons_zero, List.set_cons_succ, List.map_cons, List.map_nil, List.length_cons, List.length_nil, List.cons_append, List.nil_append, List.replicate_succ, List.replicate_zero, Nat.reduceSub, Nat.reduceAdd, Nat.zero_add, Nat.reduceLT, if_true, if_false, reduceIte, Bool.false_eq_true, Bool.not_true, Bool.not_false, Bool.not_not, decide_true, decide_false, decide_not, is0_non, is0_bl, is0_int, is0_str, is0_tup, is0_lst, is0_mls, is0_fls, is1_non, is1_bl, is1_int, is1_str, is1_tup, is1_lst, is1_mls, is1_fls, is2_non, is2_bl, is2_int, is2_str, is2_tup, is2_lst, is2_mls, is2_fls, is3_non, is3_bl, is3_int, is3_str, is3_tup, is3_lst, is3_mls, is3_fls, is4_non, is4_bl, is4_int, is4_str, is4_tup, is4_lst, is4_mls, is4_fls, is5_non, is5_bl, is5_int, is5_str, is5_tup, is5_lst, is5_mls, is5_fls, is6_non, is6_bl, is6_int, is6_str, is6_tup, is6_lst, is6_mls, is6_fls, is7_non, is7_bl, is7_int, is7_str, is7_tup, is7_lst, is7_mls, is7_fls, beq_self_eq_true, Bool.true_beq, Bool.false_beq, Bool.and_true, Bool.true_and, Bool.and_false, Bool.false_and, Bool.or_true, Bool.true_or, Bool.or_false, Bool.false_or, wipeE]
    | _ => first | cases h; done | (simp (disch := omega) only [f22_tupled, evE, evA, evs, evs', evI, evsP, exS, bind_ok, bind_ex, bind_bad, so_ok, so_ex, so_bad, then_nx, then_rt, then_bk, then_ex, then_bad, lift_some, lift_none, soE_some', soE_none, noEx_ok, p_nm, p_tup, p_lst, pN_nil, pN_cons, p_frz, p_fls, p_int, p_bl, p_non, p_tupm, p_lstm, f_int, f_bl, f_str, f_non, f_tup, f_lst, f_fls, f_box, f_scr, u_int, u_bl, u_str, u_non, u_tup, u_lst, u_fls, t_bl, t_non, t_int, t_tup, t_lst, t_mls, t_fls, bd_int, bk_fls, bk_flsb, bk_int, bk_bl, bk_non, bk_str, bk_tup, bk_lst, bk_box, back_rt, back_nx, back_ex, idx_int, ix_tup, ix_lst, ix_mls, ix_fls, ix_box, sl_tup, sl_lst, sl_mls, sl_fls, sl_scr, b_add, b_sub, c_lt, c_le, c_gt, c_ge, c_eq, c_ne, c_eqB, c_neB, c_isN, c_notN, i_int, i_intB, i_abs, i_max, i_min, l_lst, l_tup, l_mls, l_fls, li_lst, li_tup, li_fls, tu_lst, tu_tup, tu_fls, tu_mls, su_2, frzM, getM, isS, subM, isNil, isNon, Gb.start, Option.bind_some, Option.bind_none, Option.map_some, Option.map_none, id_eq, List.getElem?_cons_zero, List.getElem?_cons_succ, List.getElem?_nil, List.set_cons_zero, List.set_cons_succ, List.map_cons, List.map_nil, List.length_cons, List.length_nil, List.cons_append, List.nil_append, List.replicate_succ, List.replicate_zero, Nat.reduceSub, Nat.reduceAdd, Nat.zero_add, Nat.reduceLT, if_true, if_false, reduceIte, Bool.false_eq_true, Bool.not_true, Bool.not_false, Bool.not_not, decide_true, decide_false, decide_not, is0_non, is0_bl, is0_int, is0_str, is0_tup, is0_lst, is0_mls, is0_fls, is1_non, is1_bl, is1_int, is1_str, is1_tup, is1_lst, is1_mls, is1_fls, is2_non, is2_bl, is2_int, is2_str, is2_tup, is2_lst, is2_mls, is2_fls, is3_non, is3_bl, is3_int, is3_str, is3_tup, is3_lst, is3_mls, is3_fls, is4_non, is4_bl, is4_int, is4_str, is4_tup, is4_lst, is4_mls, is4_fls, is5_non, is5_bl, is5_int, is5_str, is5_tup, is5_lst, is5_mls, is5_fls, is6_non, is6_bl, is6_int, is6_str, is6_tup, is6_lst, is6_mls, is6_fls, is7_non, is7_bl, is7_int, is7_str, is7_tup, is7_lst, is7_mls, is7_fls, beq_self_eq_true, Bool.true_beq, Bool.false_beq, Bool.and_true, Bool.true_and, Bool.and_false, Bool.false_and, Bool.or_true, Bool.true_or, Bool.or_false, Bool.false_or, wipeE, tupD])
theorem plD_le {j : Nat} {d : D} (h : plD j d = true) : ∀ {k : Nat}, j ≤ k → plD k d = true := by
  intro k hk
  induction k with
  | zero => rw [Nat.le_zero.mp hk] at h; exact h
  | succ k ih =>
    by_cases e : j = k + 1
    · subst e; exact h
    · exact plD_up (ih (by omega))
theorem tupD_up : ∀ {k : Nat} {d : D}, plD k d = true → tupD (k + 1) d = tupD k d := by
  intro k
  induction k with
  | zero => intro d h; cases d <;> first | rfl | cases h
  | succ k ih =>
    intro d h
    cases d with
    | tup xs =>
      simp only [plD, Bool.and_eq_true, List.all_eq_true, decide_eq_true_eq] at h
      show D.tup (xs.map (tupD (k + 1))) = D.tup (xs.map (tupD k))
      rw [List.map_congr_left fun x hx => ih (h.1 x hx)]
    | lst xs =>
      simp only [plD, Bool.and_eq_true, List.all_eq_true, decide_eq_true_eq] at h
      show D.tup (xs.map (tupD (k + 1))) = D.tup (xs.map (tupD k))
      rw [List.map_congr_left fun x hx => ih (h.1 x hx)]
    | _ => rfl
theorem lisD_up : ∀ {k : Nat} {d : D}, plD k d = true → lisD (k + 1) d = lisD k d := by
  intro k
  induction k with
  | zero => intro d h; cases d <;> first | rfl | cases h
  | succ k ih =>
    intro d h
    cases d with
    | tup xs =>
      simp only [plD, Bool.and_eq_true, List.all_eq_true, decide_eq_true_eq] at h
      show D.lst (xs.map (lisD (k + 1))) = D.lst (xs.map (lisD k))
      rw [List.map_congr_left fun x hx => ih (h.1 x hx)]
    | lst xs =>
      simp only [plD, Bool.and_eq_true, List.all_eq_true, decide_eq_true_eq] at h
      show D.lst (xs.map (lisD (k + 1))) = D.lst (xs.map (lisD k))
      rw [List.map_congr_left fun x hx => ih (h.1 x hx)]
    | _ => rfl
theorem tupD_le {j : Nat} {d : D} (h : plD j d = true) : ∀ {k : Nat}, j ≤ k → tupD k d = tupD j d := by
  intro k hk
  induction k with
  | zero => rw [Nat.le_zero.mp hk]
  | succ k ih =>
    by_cases e : j = k + 1
    · subst e; rfl
    · rw [tupD_up (plD_le h (by omega)), ih (by omega)]
theorem lisD_le {j : Nat} {d : D} (h : plD j d = true) : ∀ {k : Nat}, j ≤ k → lisD k d = lisD j d := by
  intro k hk
  induction k with
  | zero => rw [Nat.le_zero.mp hk]
  | succ k ih =>
    by_cases e : j = k + 1
    · subst e; rfl
    · rw [lisD_up (plD_le h (by omega)), ih (by omega)]
/-- the three, at any greater depth -/
theorem same_at (hT : FT 11 = some f11_law_same) {K j : Nat} {d : D} (h : plD j d = true) (hk : j + 1 ≤ K) : callN FT n K 11 [d, d] st = .ok (.bl true) st := by
  obtain ⟨k, rfl⟩ : ∃ k, K = k + 1 := ⟨K - 1, by omega⟩
  exact same_ok hT (plD_le h (by omega))
theorem lists_at (hT : FT 10 = some f10_law_lists) {K j : Nat} {d : D} (h : plD j d = true) (hk : j + 1 ≤ K) : callN FT n K 10 [d] st = .ok (lisD j d) st := by
  obtain ⟨k, rfl⟩ : ∃ k, K = k + 1 := ⟨K - 1, by omega⟩
  rw [lists_ok hT (plD_le h (by omega)), lisD_le h (by omega)]
theorem tupled_at (hT : FT 22 = some f22_tupled) {K j : Nat} {d : D} (h : plD j d = true) (hk : j + 1 ≤ K) : callN FT n K 22 [d] st = .ok (tupD j d) st := by
  obtain ⟨k, rfl⟩ : ∃ k, K = k + 1 := ⟨K - 1, by omega⟩
  rw [tupled_ok hT (plD_le h (by omega)), tupD_le h (by omega)]
theorem pl_ints {L : List Int} (h : L.length ≤ 10000) : plD 1 (.tup (L.map .int)) = true ∧ plD 1 (.lst (L.map .int)) = true := by
  have e : (L.map D.int).all (plD 0) = true := List.all_eq_true.mpr fun x hx => by obtain ⟨i, _, rfl⟩ := List.mem_map.mp hx; rfl
  constructor
  · show ((L.map D.int).all (plD 0) && decide ((L.map D.int).length ≤ 10000)) = true
    rw [e, List.length_map, decide_eq_true h]
    rfl
  · show ((L.map D.int).all (plD 0) && decide ((L.map D.int).length ≤ 10000)) = true
    rw [e, List.length_map, decide_eq_true h]
    rfl
theorem tup_ints {K : Nat} (hT : FT 22 = some f22_tupled) {L : List Int} {d : D} (h : L.length ≤ 10000) (hd : d = .tup (L.map .int) ∨ d = .lst (L.map .int)) (hk : 2 ≤ K) : callN FT n K 22 [d] st = .ok (.tup (L.map .int)) st := by
  have e : (L.map D.int).map (tupD 0) = L.map .int := by rw [List.map_map]; rfl
  rcases hd with rfl | rfl
  · rw [tupled_at hT (pl_ints h).1 (by omega)]
    show Out.ok (D.tup ((L.map D.int).map (tupD 0))) st = _
    rw [e]
  · rw [tupled_at hT (pl_ints h).2 (by omega)]
    show Out.ok (D.tup ((L.map D.int).map (tupD 0))) st = _
    rw [e]
theorem kin_ok {K : Nat} (hT : FT 7 = some f7_law_take) (hK : FT 12 = some f12_law_kin) {j m : Nat} {P M : Int} (h : Tin st j m) (hm : m + 3 < 2 ^ 61) (p0 : 1 ≤ P) (p1 : P < 10000) (m0 : 0 ≤ M) (m1 : M < 10000) (hk : 2 ≤ K) :
    ∃ (p q r : Int) (st' : Store), callN FT n K 12 [.box j, .int P, .int M] st = .ok (.tup [.int p, .int q, .int r]) st' ∧ 1 ≤ q ∧ q ≤ p ∧ p ≤ P ∧ 0 ≤ r ∧ r ≤ max 1 M ∧ (p = q → 1 ≤ r) ∧ Tin st' j (m + 3) := by
  obtain ⟨k, rfl⟩ : ∃ k, K = k + 2 := ⟨K - 2, by omega⟩
  obtain ⟨r1, st1, e1, a1, b1, T1⟩ := take_ok (n := n) (K := k + 1) hT h (by omega) (top := P) (by omega) (by omega) (by omega)
  obtain ⟨r2, st2, e2, a2, b2, T2⟩ := take_ok (n := n) (K := k + 1) hT T1 (by omega) (top := P + 1 - (1 + r1)) (by omega) (by omega) (by omega)
  obtain ⟨r3, st3, e3, a3, b3, T3⟩ := take_ok (n := n) (K := k + 1) hT T2 (by omega) (top := M + 1) (by omega) (by omega) (by omega)
  rw [callN, hK]
  by_cases hpq : 1 + r1 + r2 = 1 + r1
  · simp (disch := omega) only [f12_law_kin, evE, evA, evs, evs', evI, evsP, exS, bind_ok, bind_ex, bind_bad, so_ok, so_ex, so_bad, then_nx, then_rt, then_bk, then_ex, then_bad, lift_some, lift_none, soE_some', soE_none, noEx_ok, p_nm, p_tup, p_lst, pN_nil, pN_cons, p_frz, p_fls, p_int, p_bl, p_non, p_tupm, p_lstm, f_int, f_bl, f_str, f_non, f_tup, f_lst, f_fls, f_box, f_scr, u_int, u_bl, u_str, u_non, u_tup, u_lst, u_fls, t_bl, t_non, t_int, t_tup, t_lst, t_mls, t_fls, bd_int, bk_fls, bk_flsb, bk_int, bk_bl, bk_non, bk_str, bk_tup, bk_lst, bk_box, back_rt, back_nx, back_ex, idx_int, ix_tup, ix_lst, ix_mls, ix_fls, ix_box, sl_tup, sl_lst, sl_mls, sl_fls, sl_scr, b_add, b_sub, c_lt, c_le, c_gt, c_ge, c_eq, c_ne, c_eqB, c_neB, c_isN, c_notN, i_int, i_intB, i_abs, i_max, i_min, l_lst, l_tup, l_mls, l_fls, li_lst, li_tup, li_fls, tu_lst, tu_tup, tu_fls, tu_mls, su_2, frzM, getM, isS, subM, isNil, isNon, Gb.start, Option.bind_some, Option.bind_none, Option.map_some, Option.map_none, id_eq, List.getElem?_cons_zero, List.getElem?_cons_succ, List.getElem?_nil, List.set_cons_zero, List.set_cons_succ, List.map_cons, List.map_nil, List.length_cons, List.length_nil, List.cons_append, List.nil_append, List.replicate_succ, List.replicate_zero, Nat.reduceSub, Nat.reduceAdd, Nat.zero_add, Nat.reduceLT, if_true, if_false, reduceIte, Bool.false_eq_true, Bool.not_true, Bool.not_false, Bool.not_not, decide_true, decide_false, decide_not, is0_non, is0_bl, is0_int, is0_str, is0_tup, is0_lst, is0_mls, is0_fls, is1_non, is1_bl, is1_int, is1_str, is1_tup, is1_lst, is1_mls, is1_fls, is2_non, is2_bl, is2_int, is2_str, is2_tup, is2_lst, is2_mls, is2_fls, is3_non, is3_bl, is3_int, is3_str, is3_tup, is3_lst, is3_mls, is3_fls, is4_non, is4_bl, is4_int, is4_str, is4_tup, is4_lst, is4_mls, is4_fls, is5_non, is5_bl, is5_int, is5_str, is5_tup, is5_lst, is5_mls, is5_fls, is6_non, is6_bl, is6_int, is6_str, is6_tup, is6_lst, is6_mls, is6_fls, is7_non, is7_bl, is7_int, is7_str, is7_tup, is7_lst, is7_mls, is7_fls, beq_self_eq_true, Bool.true_beq, Bool.false_beq, Bool.and_true, Bool.true_and, Bool.and_false, Bool.false_and, Bool.or_true, Bool.true_or, Bool.or_false, Bool.false_or, wipeE, e1, e2, e3, hpq, if_sz]
    refine ⟨_, _, _, _, rfl, ?_, ?_, ?_, ?_, ?_, ?_, T3⟩ <;> (try split) <;> omega
  · simp (disch := omega) only [f12_law_kin, evE, evA, evs, evs', evI, evsP, exS, bind_ok, bind_ex, bind_bad, so_ok, so_ex, so_bad, then_nx, then_rt, then_bk, then_ex, then_bad, lift_some, lift_none, soE_some', soE_none, noEx_ok, p_nm, p_tup, p_lst, pN_nil, pN_cons, p_frz, p_fls, p_int, p_bl, p_non, p_tupm, p_lstm, f_int, f_bl, f_str, f_non, f_tup, f_lst, f_fls, f_box, f_scr, u_int, u_bl, u_str, u_non, u_tup, u_lst, u_fls, t_bl, t_non, t_int, t_tup, t_lst, t_mls, t_fls, bd_int, bk_fls, bk_flsb, bk_int, bk_bl, bk_non, bk_str, bk_tup, bk_lst, bk_box, back_rt, back_nx, back_ex, idx_int, ix_tup, ix_lst, ix_mls, ix_fls, ix_box, sl_tup, sl_lst, sl_mls, sl_fls, sl_scr, b_add, b_sub, c_lt, c_le, c_gt, c_ge, c_eq, c_ne, c_eqB, c_neB, c_isN, c_notN, i_int, i_intB, i_abs, i_max, i_min, l_lst, l_tup, l_mls, l_fls, li_lst, li_tup, li_fls, tu_lst, tu_tup, tu_fls, tu_mls, su_2, frzM, getM, isS, subM, isNil, isNon, Gb.start, Option.bind_some, Option.bind_none, Option.map_some, Option.map_none, id_eq, List.getElem?_cons_zero, List.getElem?_cons_succ, List.getElem?_nil, List.set_cons_zero, List.set_cons_succ, List.map_cons, List.map_nil, List.length_cons, List.length_nil, List.cons_append, List.nil_append, List.replicate_succ, List.replicate_zero, Nat.reduceSub, Nat.reduceAdd, Nat.zero_add, Nat.reduceLT, if_true, if_false, reduceIte, Bool.false_eq_true, Bool.not_true, Bool.not_false, Bool.not_not, decide_true, decide_false, decide_not, is0_non, is0_bl, is0_int, is0_str, is0_tup, is0_lst, is0_mls, is0_fls, is1_non, is1_bl, is1_int, is1_str, is1_tup, is1_lst, is1_mls, is1_fls, is2_non, is2_bl, is2_int, is2_str, is2_tup, is2_lst, is2_mls, is2_fls, is3_non, is3_bl, is3_int, is3_str, is3_tup, is3_lst, is3_mls, is3_fls, is4_non, is4_bl, is4_int, is4_str, is4_tup, is4_lst, is4_mls, is4_fls, is5_non, is5_bl, is5_int, is5_str, is5_tup, is5_lst, is5_mls, is5_fls, is6_non, is6_bl, is6_int, is6_str, is6_tup, is6_lst, is6_mls, is6_fls, is7_non, is7_bl, is7_int, is7_str, is7_tup, is7_lst, is7_mls, is7_fls, beq_self_eq_true, Bool.true_beq, Bool.false_beq, Bool.and_true, Bool.true_and, Bool.and_false, Bool.false_and, Bool.or_true, Bool.true_or, Bool.or_false, Bool.false_or, wipeE, e1, e2, e3, hpq, if_sz]
    refine ⟨_, _, _, _, rfl, ?_, ?_, ?_, ?_, ?_, ?_, T3⟩ <;> omega
end
end Gb

/-! The laws' outer shapes. -/
namespace Gb
open PySem

def rightFn (c : Nat) (T : Int) : Fn := ⟨1, 2,
    (.ret (.bi .all (.cons (.comp [1] (.nm 1 false) (.rng1 (.con (.int T))) (.con (.bl true)) (.call c (.cons (.var 0) .nil))) .nil))), false⟩
def lawFn (h r b : Nat) (most : Int) : Fn := ⟨1, 3,
    (.seq (.ite (.not (.call h .nil)) (.ret (.con (.bl false))) .pass)
    (.seq (.asg (.nm 1 false) (.call 8 (.cons (.var 0) (.cons (.con (.int most)) .nil))))
    (.ret (.bi .all (.cons (.comp [2] (.nm 2 false) (.rng1 (.bi .len (.cons (.var 1) .nil))) (.con (.bl true)) (.call r (.cons (.call b (.cons (.var 1) (.cons (.var 2) .nil))) .nil))) .nil))))), false⟩
def lawFn2 (h r b : Nat) (most : Int) : Fn := ⟨1, 4,
    (.seq (.ite (.not (.call h .nil)) (.ret (.con (.bl false))) .pass)
    (.seq (.asg (.nm 1 false) (.call 8 (.cons (.var 0) (.cons (.con (.int most)) .nil))))
    (.seq (.for (.nm 2 false) (.rng1 (.bi .len (.cons (.var 1) .nil))) (.seq (.asg (.nm 3 false) (.call b (.cons (.var 1) (.cons (.var 2) .nil))))
    (.ite (.or (.not (.call r (.cons (.var 3) .nil))) (.not (.call r (.cons (.var 3) .nil)))) (.ret (.con (.bl false))) .pass)))
    (.ret (.con (.bl true)))))), false⟩

theorem rngOk_t {z : Int} (h1 : -(2 ^ 62) < z) (h2 : z < 2 ^ 62) : rngOk z = true := by
  unfold rngOk
  exact decide_eq_true (by omega)
theorem rng0_mem {z : Int} {d : D} (h : d ∈ rng 0 z) : ∃ i : Nat, (i : Int) < z ∧ d = .int (i : Nat) := by
  unfold rng at h
  obtain ⟨i, hi, rfl⟩ := List.mem_map.mp h
  rw [List.mem_range, Int.sub_zero] at hi
  exact ⟨i, by omega, by rw [Int.zero_add]⟩
theorem rng0_len (z : Int) : (rng 0 z).length = z.toNat := by
  unfold rng
  rw [List.length_map, List.length_range, Int.sub_zero]
/-- this many turns of a case that keeps the box -/
def CaseOk (FT : Nat → Option Fn) (n k c N : Nat) : Prop := ∀ (st : Store) (j m : Nat), Tin st j m → m < 2 ^ 60 → ∃ st', callN FT n k c [.box j] st = .ok (.bl true) st' ∧ Tin st' j (m + N)
section
variable {FT : Nat → Option Fn} {n k : Nat} {st : Store}
theorem right_ok {r c N : Nat} {T : Int} (hT : FT r = some (rightFn c T)) (t0 : 0 ≤ T) (t1 : T ≤ 1000) (hN : N < 2 ^ 40) (hc : CaseOk FT n k c N) {j m : Nat} (h : Tin st j m) (hm : m ≤ 2 ^ 58) :
    ∃ st', callN FT n (k + 1) r [.box j] st = .ok (.bl true) st' ∧ Tin st' j (m + T.toNat * N) := by
  rw [callN, hT]
  simp (disch := omega) only [rightFn, evE, evA, evs, evs', evI, evsP, exS, bind_ok, bind_ex, bind_bad, so_ok, so_ex, so_bad, then_nx, then_rt, then_bk, then_ex, then_bad, lift_some, lift_none, soE_some', soE_none, noEx_ok, p_nm, p_tup, p_lst, pN_nil, pN_cons, p_frz, p_fls, p_int, p_bl, p_non, p_tupm, p_lstm, f_int, f_bl, f_str, f_non, f_tup, f_lst, f_fls, f_box, f_scr, u_int, u_bl, u_str, u_non, u_tup, u_lst, u_fls, t_bl, t_non, t_int, t_tup, t_lst, t_mls, t_fls, bd_int, bk_fls, bk_flsb, bk_int, bk_bl, bk_non, bk_str, bk_tup, bk_lst, bk_box, back_rt, back_nx, back_ex, idx_int, ix_tup, ix_lst, ix_mls, ix_fls, ix_box, sl_tup, sl_lst, sl_mls, sl_fls, sl_scr, b_add, b_sub, c_lt, c_le, c_gt, c_ge, c_eq, c_ne, c_eqB, c_neB, c_isN, c_notN, i_int, i_intB, i_abs, i_max, i_min, l_lst, l_tup, l_mls, l_fls, li_lst, li_tup, li_fls, tu_lst, tu_tup, tu_fls, tu_mls, su_2, frzM, getM, isS, subM, isNil, isNon, Gb.start, Option.bind_some, Option.bind_none, Option.map_some, Option.map_none, id_eq, List.getElem?_cons_zero, List.getElem?_cons_succ, List.getElem?_nil, List.set_cons_zero, List.set_cons_succ, List.map_cons, List.map_nil, List.length_cons, List.length_nil, List.cons_append, List.nil_append, List.replicate_succ, List.replicate_zero, Nat.reduceSub, Nat.reduceAdd, Nat.zero_add, Nat.reduceLT, if_true, if_false, reduceIte, Bool.false_eq_true, Bool.not_true, Bool.not_false, Bool.not_not, decide_true, decide_false, decide_not, is0_non, is0_bl, is0_int, is0_str, is0_tup, is0_lst, is0_mls, is0_fls, is1_non, is1_bl, is1_int, is1_str, is1_tup, is1_lst, is1_mls, is1_fls, is2_non, is2_bl, is2_int, is2_str, is2_tup, is2_lst, is2_mls, is2_fls, is3_non, is3_bl, is3_int, is3_str, is3_tup, is3_lst, is3_mls, is3_fls, is4_non, is4_bl, is4_int, is4_str, is4_tup, is4_lst, is4_mls, is4_fls, is5_non, is5_bl, is5_int, is5_str, is5_tup, is5_lst, is5_mls, is5_fls, is6_non, is6_bl, is6_int, is6_str, is6_tup, is6_lst, is6_mls, is6_fls, is7_non, is7_bl, is7_int, is7_str, is7_tup, is7_lst, is7_mls, is7_fls, beq_self_eq_true, Bool.true_beq, Bool.false_beq, Bool.and_true, Bool.true_and, Bool.and_false, Bool.false_and, Bool.or_true, Bool.true_or, Bool.or_false, Bool.false_or, wipeE, rngOk_t]
  generalize hr : compL _ _ _ _ = q
  let P : List D → List D → Store → Prop := fun ds acc st => ∃ i : Nat, acc = (List.replicate i true).map .bl ∧ i + ds.length = T.toNat ∧ Tin st j (m + i * N) ∧ ∀ d ∈ ds, ∃ z : Int, d = .int z
  obtain ⟨xs, st', rfl, i, rfl, hi, hT2, _⟩ : ∃ xs st', q = .ok xs st' ∧ P [] xs st' := by
    rw [← hr]
    refine compL_run P ?_ _ _ _ ?_
    · rintro d ds acc st ⟨i, e1, e2, e3, e4⟩
      obtain ⟨z, rfl⟩ := e4 d List.mem_cons_self
      rw [List.length_cons] at e2
      have hb : i * N ≤ 1000 * 2 ^ 40 := Nat.mul_le_mul (by omega) (Nat.le_of_lt hN)
      obtain ⟨st2, q1, q2⟩ := hc st j (m + i * N) e3 (by omega)
      refine ⟨some (.bl true), st2, ?_, ?_, i + 1, ?_, by omega, ?_, fun d hd => e4 d (List.mem_cons_of_mem _ hd)⟩
      · simp (disch := omega) only [evE, evA, evs, evs', evI, evsP, exS, bind_ok, bind_ex, bind_bad, so_ok, so_ex, so_bad, then_nx, then_rt, then_bk, then_ex, then_bad, lift_some, lift_none, soE_some', soE_none, noEx_ok, p_nm, p_tup, p_lst, pN_nil, pN_cons, p_frz, p_fls, p_int, p_bl, p_non, p_tupm, p_lstm, f_int, f_bl, f_str, f_non, f_tup, f_lst, f_fls, f_box, f_scr, u_int, u_bl, u_str, u_non, u_tup, u_lst, u_fls, t_bl, t_non, t_int, t_tup, t_lst, t_mls, t_fls, bd_int, bk_fls, bk_flsb, bk_int, bk_bl, bk_non, bk_str, bk_tup, bk_lst, bk_box, back_rt, back_nx, back_ex, idx_int, ix_tup, ix_lst, ix_mls, ix_fls, ix_box, sl_tup, sl_lst, sl_mls, sl_fls, sl_scr, b_add, b_sub, c_lt, c_le, c_gt, c_ge, c_eq, c_ne, c_eqB, c_neB, c_isN, c_notN, i_int, i_intB, i_abs, i_max, i_min, l_lst, l_tup, l_mls, l_fls, li_lst, li_tup, li_fls, tu_lst, tu_tup, tu_fls, tu_mls, su_2, frzM, getM, isS, subM, isNil, isNon, Gb.start, Option.bind_some, Option.bind_none, Option.map_some, Option.map_none, id_eq, List.getElem?_cons_zero, List.getElem?_cons_succ, List.getElem?_nil, List.set_cons_zero, List.set_cons_succ, List.map_cons, List.map_nil, List.length_cons, List.length_nil, List.cons_append, List.nil_append, List.replicate_succ, List.replicate_zero, Nat.reduceSub, Nat.reduceAdd, Nat.zero_add, Nat.reduceLT, if_true, if_false, reduceIte, Bool.false_eq_true, Bool.not_true, Bool.not_false, Bool.not_not, decide_true, decide_false, decide_not, is0_non, is0_bl, is0_int, is0_str, is0_tup, is0_lst, is0_mls, is0_fls, is1_non, is1_bl, is1_int, is1_str, is1_tup, is1_lst, is1_mls, is1_fls, is2_non, is2_bl, is2_int, is2_str, is2_tup, is2_lst, is2_mls, is2_fls, is3_non, is3_bl, is3_int, is3_str, is3_tup, is3_lst, is3_mls, is3_fls, is4_non, is4_bl, is4_int, is4_str, is4_tup, is4_lst, is4_mls, is4_fls, is5_non, is5_bl, is5_int, is5_str, is5_tup, is5_lst, is5_mls, is5_fls, is6_non, is6_bl, is6_int, is6_str, is6_tup, is6_lst, is6_mls, is6_fls, is7_non, is7_bl, is7_int, is7_str, is7_tup, is7_lst, is7_mls, is7_fls, beq_self_eq_true, Bool.true_beq, Bool.false_beq, Bool.and_true, Bool.true_and, Bool.and_false, Bool.false_and, Bool.or_true, Bool.true_or, Bool.or_false, Bool.false_or, wipeE, q1]
      · rw [e1, List.length_map, List.length_replicate, sizeLine_eq]; omega
      · rw [e1, List.replicate_succ', List.map_append]; rfl
      · rw [Nat.add_mul, Nat.one_mul, ← Nat.add_assoc]; exact q2
    · exact ⟨0, rfl, by rw [rng0_len]; omega, by rw [Nat.zero_mul]; exact h, fun d hd => by obtain ⟨i, _, e⟩ := rng0_mem hd; exact ⟨_, e⟩⟩
  rw [List.length_nil, Nat.add_zero] at hi
  simp (disch := omega) only [evE, evA, evs, evs', evI, evsP, exS, bind_ok, bind_ex, bind_bad, so_ok, so_ex, so_bad, then_nx, then_rt, then_bk, then_ex, then_bad, lift_some, lift_none, soE_some', soE_none, noEx_ok, p_nm, p_tup, p_lst, pN_nil, pN_cons, p_frz, p_fls, p_int, p_bl, p_non, p_tupm, p_lstm, f_int, f_bl, f_str, f_non, f_tup, f_lst, f_fls, f_box, f_scr, u_int, u_bl, u_str, u_non, u_tup, u_lst, u_fls, t_bl, t_non, t_int, t_tup, t_lst, t_mls, t_fls, bd_int, bk_fls, bk_flsb, bk_int, bk_bl, bk_non, bk_str, bk_tup, bk_lst, bk_box, back_rt, back_nx, back_ex, idx_int, ix_tup, ix_lst, ix_mls, ix_fls, ix_box, sl_tup, sl_lst, sl_mls, sl_fls, sl_scr, b_add, b_sub, c_lt, c_le, c_gt, c_ge, c_eq, c_ne, c_eqB, c_neB, c_isN, c_notN, i_int, i_intB, i_abs, i_max, i_min, l_lst, l_tup, l_mls, l_fls, li_lst, li_tup, li_fls, tu_lst, tu_tup, tu_fls, tu_mls, su_2, frzM, getM, isS, subM, isNil, isNon, Gb.start, Option.bind_some, Option.bind_none, Option.map_some, Option.map_none, id_eq, List.getElem?_cons_zero, List.getElem?_cons_succ, List.getElem?_nil, List.set_cons_zero, List.set_cons_succ, List.map_cons, List.map_nil, List.length_cons, List.length_nil, List.cons_append, List.nil_append, List.replicate_succ, List.replicate_zero, Nat.reduceSub, Nat.reduceAdd, Nat.zero_add, Nat.reduceLT, if_true, if_false, reduceIte, Bool.false_eq_true, Bool.not_true, Bool.not_false, Bool.not_not, decide_true, decide_false, decide_not, is0_non, is0_bl, is0_int, is0_str, is0_tup, is0_lst, is0_mls, is0_fls, is1_non, is1_bl, is1_int, is1_str, is1_tup, is1_lst, is1_mls, is1_fls, is2_non, is2_bl, is2_int, is2_str, is2_tup, is2_lst, is2_mls, is2_fls, is3_non, is3_bl, is3_int, is3_str, is3_tup, is3_lst, is3_mls, is3_fls, is4_non, is4_bl, is4_int, is4_str, is4_tup, is4_lst, is4_mls, is4_fls, is5_non, is5_bl, is5_int, is5_str, is5_tup, is5_lst, is5_mls, is5_fls, is6_non, is6_bl, is6_int, is6_str, is6_tup, is6_lst, is6_mls, is6_fls, is7_non, is7_bl, is7_int, is7_str, is7_tup, is7_lst, is7_mls, is7_fls, beq_self_eq_true, Bool.true_beq, Bool.false_beq, Bool.and_true, Bool.true_and, Bool.and_false, Bool.false_and, Bool.or_true, Bool.true_or, Bool.or_false, Bool.false_or, wipeE, al_fls, all_true]
  exact ⟨_, rfl, hi ▸ hT2⟩
theorem law_ok {l h r b most : Nat} {c : Int} (hL : FT l = some (lawFn h r b most)) (hC : FT 8 = some f8_law_cells) (hB : FT b = some (boxFn c)) (c0 : 0 ≤ c) (c1 : c < 1000000) (m0 : 0 < most) (m1 : most ≤ 3) (hh : okT (callN FT n (k + 1) h [] []) = true)
    (hr : ∀ st j, Tin st j 0 → ∃ st', callN FT n (k + 1) r [.box j] st = .ok (.bl true) st') (ns : List Int) : okT (callN FT n (k + 2) l [.scr ns] []) = true := by
  unfold okT at hh
  split at hh
  · rename_i st1 he
    obtain ⟨L, e1, l0, l1⟩ := cells_ok (n := n) (K := k + 1) (st := st1) hC (ns := ns) m0 m1 (by omega)
    rw [callN, hL]
    simp (disch := omega) only [lawFn, evE, evA, evs, evs', evI, evsP, exS, bind_ok, bind_ex, bind_bad, so_ok, so_ex, so_bad, then_nx, then_rt, then_bk, then_ex, then_bad, lift_some, lift_none, soE_some', soE_none, noEx_ok, p_nm, p_tup, p_lst, pN_nil, pN_cons, p_frz, p_fls, p_int, p_bl, p_non, p_tupm, p_lstm, f_int, f_bl, f_str, f_non, f_tup, f_lst, f_fls, f_box, f_scr, u_int, u_bl, u_str, u_non, u_tup, u_lst, u_fls, t_bl, t_non, t_int, t_tup, t_lst, t_mls, t_fls, bd_int, bk_fls, bk_flsb, bk_int, bk_bl, bk_non, bk_str, bk_tup, bk_lst, bk_box, back_rt, back_nx, back_ex, idx_int, ix_tup, ix_lst, ix_mls, ix_fls, ix_box, sl_tup, sl_lst, sl_mls, sl_fls, sl_scr, b_add, b_sub, c_lt, c_le, c_gt, c_ge, c_eq, c_ne, c_eqB, c_neB, c_isN, c_notN, i_int, i_intB, i_abs, i_max, i_min, l_lst, l_tup, l_mls, l_fls, li_lst, li_tup, li_fls, tu_lst, tu_tup, tu_fls, tu_mls, su_2, frzM, getM, isS, subM, isNil, isNon, Gb.start, Option.bind_some, Option.bind_none, Option.map_some, Option.map_none, id_eq, List.getElem?_cons_zero, List.getElem?_cons_succ, List.getElem?_nil, List.set_cons_zero, List.set_cons_succ, List.map_cons, List.map_nil, List.length_cons, List.length_nil, List.cons_append, List.nil_append, List.replicate_succ, List.replicate_zero, Nat.reduceSub, Nat.reduceAdd, Nat.zero_add, Nat.reduceLT, if_true, if_false, reduceIte, Bool.false_eq_true, Bool.not_true, Bool.not_false, Bool.not_not, decide_true, decide_false, decide_not, is0_non, is0_bl, is0_int, is0_str, is0_tup, is0_lst, is0_mls, is0_fls, is1_non, is1_bl, is1_int, is1_str, is1_tup, is1_lst, is1_mls, is1_fls, is2_non, is2_bl, is2_int, is2_str, is2_tup, is2_lst, is2_mls, is2_fls, is3_non, is3_bl, is3_int, is3_str, is3_tup, is3_lst, is3_mls, is3_fls, is4_non, is4_bl, is4_int, is4_str, is4_tup, is4_lst, is4_mls, is4_fls, is5_non, is5_bl, is5_int, is5_str, is5_tup, is5_lst, is5_mls, is5_fls, is6_non, is6_bl, is6_int, is6_str, is6_tup, is6_lst, is6_mls, is6_fls, is7_non, is7_bl, is7_int, is7_str, is7_tup, is7_lst, is7_mls, is7_fls, beq_self_eq_true, Bool.true_beq, Bool.false_beq, Bool.and_true, Bool.true_and, Bool.and_false, Bool.false_and, Bool.or_true, Bool.true_or, Bool.or_false, Bool.false_or, wipeE, he, e1, List.length_map, rngOk_t]
    generalize hr2 : compL _ _ _ _ = q
    let P : List D → List D → Store → Prop := fun ds acc st => ∃ i : Nat, acc = (List.replicate i true).map .bl ∧ i + ds.length = L.length ∧ ∀ d ∈ ds, ∃ i : Nat, i < L.length ∧ d = .int (i : Nat)
    obtain ⟨xs, st', rfl, i, rfl, _⟩ : ∃ xs st', q = .ok xs st' ∧ P [] xs st' := by
      rw [← hr2]
      refine compL_run P ?_ _ _ _ ?_
      · rintro d ds acc st ⟨i, q1, q2, q3⟩
        obtain ⟨u, hu, rfl⟩ := q3 d List.mem_cons_self
        rw [List.length_cons] at q2
        obtain ⟨st2, w1, w2⟩ := box_ok (n := n) (K := k + 1) (st := st) hB c0 c1 hu l1 (by omega)
        obtain ⟨st3, w3⟩ := hr st2 st.length w2
        refine ⟨some (.bl true), st3, ?_, ?_, i + 1, ?_, by omega, fun d hd => q3 d (List.mem_cons_of_mem _ hd)⟩
        · simp (disch := omega) only [evE, evA, evs, evs', evI, evsP, exS, bind_ok, bind_ex, bind_bad, so_ok, so_ex, so_bad, then_nx, then_rt, then_bk, then_ex, then_bad, lift_some, lift_none, soE_some', soE_none, noEx_ok, p_nm, p_tup, p_lst, pN_nil, pN_cons, p_frz, p_fls, p_int, p_bl, p_non, p_tupm, p_lstm, f_int, f_bl, f_str, f_non, f_tup, f_lst, f_fls, f_box, f_scr, u_int, u_bl, u_str, u_non, u_tup, u_lst, u_fls, t_bl, t_non, t_int, t_tup, t_lst, t_mls, t_fls, bd_int, bk_fls, bk_flsb, bk_int, bk_bl, bk_non, bk_str, bk_tup, bk_lst, bk_box, back_rt, back_nx, back_ex, idx_int, ix_tup, ix_lst, ix_mls, ix_fls, ix_box, sl_tup, sl_lst, sl_mls, sl_fls, sl_scr, b_add, b_sub, c_lt, c_le, c_gt, c_ge, c_eq, c_ne, c_eqB, c_neB, c_isN, c_notN, i_int, i_intB, i_abs, i_max, i_min, l_lst, l_tup, l_mls, l_fls, li_lst, li_tup, li_fls, tu_lst, tu_tup, tu_fls, tu_mls, su_2, frzM, getM, isS, subM, isNil, isNon, Gb.start, Option.bind_some, Option.bind_none, Option.map_some, Option.map_none, id_eq, List.getElem?_cons_zero, List.getElem?_cons_succ, List.getElem?_nil, List.set_cons_zero, List.set_cons_succ, List.map_cons, List.map_nil, List.length_cons, List.length_nil, List.cons_append, List.nil_append, List.replicate_succ, List.replicate_zero, Nat.reduceSub, Nat.reduceAdd, Nat.zero_add, Nat.reduceLT, if_true, if_false, reduceIte, Bool.false_eq_true, Bool.not_true, Bool.not_false, Bool.not_not, decide_true, decide_false, decide_not, is0_non, is0_bl, is0_int, is0_str, is0_tup, is0_lst, is0_mls, is0_fls, is1_non, is1_bl, is1_int, is1_str, is1_tup, is1_lst, is1_mls, is1_fls, is2_non, is2_bl, is2_int, is2_str, is2_tup, is2_lst, is2_mls, is2_fls, is3_non, is3_bl, is3_int, is3_str, is3_tup, is3_lst, is3_mls, is3_fls, is4_non, is4_bl, is4_int, is4_str, is4_tup, is4_lst, is4_mls, is4_fls, is5_non, is5_bl, is5_int, is5_str, is5_tup, is5_lst, is5_mls, is5_fls, is6_non, is6_bl, is6_int, is6_str, is6_tup, is6_lst, is6_mls, is6_fls, is7_non, is7_bl, is7_int, is7_str, is7_tup, is7_lst, is7_mls, is7_fls, beq_self_eq_true, Bool.true_beq, Bool.false_beq, Bool.and_true, Bool.true_and, Bool.and_false, Bool.false_and, Bool.or_true, Bool.true_or, Bool.or_false, Bool.false_or, wipeE, w1, w3]
        · rw [q1, List.length_map, List.length_replicate, sizeLine_eq]; omega
        · rw [q1, List.replicate_succ', List.map_append]; rfl
      · exact ⟨0, rfl, by rw [rng0_len]; simp, fun d hd => by obtain ⟨i, hi, e⟩ := rng0_mem hd; exact ⟨i, by omega, e⟩⟩
    simp (disch := omega) only [evE, evA, evs, evs', evI, evsP, exS, bind_ok, bind_ex, bind_bad, so_ok, so_ex, so_bad, then_nx, then_rt, then_bk, then_ex, then_bad, lift_some, lift_none, soE_some', soE_none, noEx_ok, p_nm, p_tup, p_lst, pN_nil, pN_cons, p_frz, p_fls, p_int, p_bl, p_non, p_tupm, p_lstm, f_int, f_bl, f_str, f_non, f_tup, f_lst, f_fls, f_box, f_scr, u_int, u_bl, u_str, u_non, u_tup, u_lst, u_fls, t_bl, t_non, t_int, t_tup, t_lst, t_mls, t_fls, bd_int, bk_fls, bk_flsb, bk_int, bk_bl, bk_non, bk_str, bk_tup, bk_lst, bk_box, back_rt, back_nx, back_ex, idx_int, ix_tup, ix_lst, ix_mls, ix_fls, ix_box, sl_tup, sl_lst, sl_mls, sl_fls, sl_scr, b_add, b_sub, c_lt, c_le, c_gt, c_ge, c_eq, c_ne, c_eqB, c_neB, c_isN, c_notN, i_int, i_intB, i_abs, i_max, i_min, l_lst, l_tup, l_mls, l_fls, li_lst, li_tup, li_fls, tu_lst, tu_tup, tu_fls, tu_mls, su_2, frzM, getM, isS, subM, isNil, isNon, Gb.start, Option.bind_some, Option.bind_none, Option.map_some, Option.map_none, id_eq, List.getElem?_cons_zero, List.getElem?_cons_succ, List.getElem?_nil, List.set_cons_zero, List.set_cons_succ, List.map_cons, List.map_nil, List.length_cons, List.length_nil, List.cons_append, List.nil_append, List.replicate_succ, List.replicate_zero, Nat.reduceSub, Nat.reduceAdd, Nat.zero_add, Nat.reduceLT, if_true, if_false, reduceIte, Bool.false_eq_true, Bool.not_true, Bool.not_false, Bool.not_not, decide_true, decide_false, decide_not, is0_non, is0_bl, is0_int, is0_str, is0_tup, is0_lst, is0_mls, is0_fls, is1_non, is1_bl, is1_int, is1_str, is1_tup, is1_lst, is1_mls, is1_fls, is2_non, is2_bl, is2_int, is2_str, is2_tup, is2_lst, is2_mls, is2_fls, is3_non, is3_bl, is3_int, is3_str, is3_tup, is3_lst, is3_mls, is3_fls, is4_non, is4_bl, is4_int, is4_str, is4_tup, is4_lst, is4_mls, is4_fls, is5_non, is5_bl, is5_int, is5_str, is5_tup, is5_lst, is5_mls, is5_fls, is6_non, is6_bl, is6_int, is6_str, is6_tup, is6_lst, is6_mls, is6_fls, is7_non, is7_bl, is7_int, is7_str, is7_tup, is7_lst, is7_mls, is7_fls, beq_self_eq_true, Bool.true_beq, Bool.false_beq, Bool.and_true, Bool.true_and, Bool.and_false, Bool.false_and, Bool.or_true, Bool.true_or, Bool.or_false, Bool.false_or, wipeE, al_fls, all_true]
    rfl
  · cases hh
theorem law_ok2 {l h r b most N : Nat} {c : Int} (hL : FT l = some (lawFn2 h r b most)) (hC : FT 8 = some f8_law_cells) (hB : FT b = some (boxFn c)) (c0 : 0 ≤ c) (c1 : c < 1000000) (m0 : 0 < most) (m1 : most ≤ 3) (hh : okT (callN FT n (k + 1) h [] []) = true)
    (hr : CaseOk FT n (k + 1) r N) (hN : N < 2 ^ 60) (ns : List Int) : okT (callN FT n (k + 2) l [.scr ns] []) = true := by
  unfold okT at hh
  split at hh
  · rename_i st1 he
    obtain ⟨L, e1, l0, l1⟩ := cells_ok (n := n) (K := k + 1) (st := st1) hC (ns := ns) m0 m1 (by omega)
    rw [callN, hL]
    simp (disch := omega) only [lawFn2, evE, evA, evs, evs', evI, evsP, exS, bind_ok, bind_ex, bind_bad, so_ok, so_ex, so_bad, then_nx, then_rt, then_bk, then_ex, then_bad, lift_some, lift_none, soE_some', soE_none, noEx_ok, p_nm, p_tup, p_lst, pN_nil, pN_cons, p_frz, p_fls, p_int, p_bl, p_non, p_tupm, p_lstm, f_int, f_bl, f_str, f_non, f_tup, f_lst, f_fls, f_box, f_scr, u_int, u_bl, u_str, u_non, u_tup, u_lst, u_fls, t_bl, t_non, t_int, t_tup, t_lst, t_mls, t_fls, bd_int, bk_fls, bk_flsb, bk_int, bk_bl, bk_non, bk_str, bk_tup, bk_lst, bk_box, back_rt, back_nx, back_ex, idx_int, ix_tup, ix_lst, ix_mls, ix_fls, ix_box, sl_tup, sl_lst, sl_mls, sl_fls, sl_scr, b_add, b_sub, c_lt, c_le, c_gt, c_ge, c_eq, c_ne, c_eqB, c_neB, c_isN, c_notN, i_int, i_intB, i_abs, i_max, i_min, l_lst, l_tup, l_mls, l_fls, li_lst, li_tup, li_fls, tu_lst, tu_tup, tu_fls, tu_mls, su_2, frzM, getM, isS, subM, isNil, isNon, Gb.start, Option.bind_some, Option.bind_none, Option.map_some, Option.map_none, id_eq, List.getElem?_cons_zero, List.getElem?_cons_succ, List.getElem?_nil, List.set_cons_zero, List.set_cons_succ, List.map_cons, List.map_nil, List.length_cons, List.length_nil, List.cons_append, List.nil_append, List.replicate_succ, List.replicate_zero, Nat.reduceSub, Nat.reduceAdd, Nat.zero_add, Nat.reduceLT, if_true, if_false, reduceIte, Bool.false_eq_true, Bool.not_true, Bool.not_false, Bool.not_not, decide_true, decide_false, decide_not, is0_non, is0_bl, is0_int, is0_str, is0_tup, is0_lst, is0_mls, is0_fls, is1_non, is1_bl, is1_int, is1_str, is1_tup, is1_lst, is1_mls, is1_fls, is2_non, is2_bl, is2_int, is2_str, is2_tup, is2_lst, is2_mls, is2_fls, is3_non, is3_bl, is3_int, is3_str, is3_tup, is3_lst, is3_mls, is3_fls, is4_non, is4_bl, is4_int, is4_str, is4_tup, is4_lst, is4_mls, is4_fls, is5_non, is5_bl, is5_int, is5_str, is5_tup, is5_lst, is5_mls, is5_fls, is6_non, is6_bl, is6_int, is6_str, is6_tup, is6_lst, is6_mls, is6_fls, is7_non, is7_bl, is7_int, is7_str, is7_tup, is7_lst, is7_mls, is7_fls, beq_self_eq_true, Bool.true_beq, Bool.false_beq, Bool.and_true, Bool.true_and, Bool.and_false, Bool.false_and, Bool.or_true, Bool.true_or, Bool.or_false, Bool.false_or, wipeE, he, e1, List.length_map, rngOk_t]
    generalize hr2 : forL _ _ _ _ = q
    let P : List D → Env → Store → Prop := fun ds ρ st => (∃ a b : Option D, ρ = [some (.scr ns), some (.lst (L.map .int)), a, b]) ∧ ∀ d ∈ ds, ∃ i : Nat, i < L.length ∧ d = .int (i : Nat)
    obtain ⟨ρ', st', rfl, ⟨a, b', rfl⟩, _⟩ : ∃ ρ' st', q = .nx ρ' st' ∧ P [] ρ' st' := by
      rw [← hr2]
      refine forL_run P ?_ _ _ _ ?_
      · rintro d ds ρ st ⟨⟨a, b', rfl⟩, q3⟩
        obtain ⟨u, hu, rfl⟩ := q3 d List.mem_cons_self
        obtain ⟨st2, w1, w2⟩ := box_ok (n := n) (K := k + 1) (st := st) hB c0 c1 hu l1 (by omega)
        obtain ⟨st3, w3, w4⟩ := hr st2 st.length 0 w2 (by omega)
        obtain ⟨st4, w5, w6⟩ := hr st3 st.length (0 + N) w4 (by omega)
        simp (disch := omega) only [evE, evA, evs, evs', evI, evsP, exS, bind_ok, bind_ex, bind_bad, so_ok, so_ex, so_bad, then_nx, then_rt, then_bk, then_ex, then_bad, lift_some, lift_none, soE_some', soE_none, noEx_ok, p_nm, p_tup, p_lst, pN_nil, pN_cons, p_frz, p_fls, p_int, p_bl, p_non, p_tupm, p_lstm, f_int, f_bl, f_str, f_non, f_tup, f_lst, f_fls, f_box, f_scr, u_int, u_bl, u_str, u_non, u_tup, u_lst, u_fls, t_bl, t_non, t_int, t_tup, t_lst, t_mls, t_fls, bd_int, bk_fls, bk_flsb, bk_int, bk_bl, bk_non, bk_str, bk_tup, bk_lst, bk_box, back_rt, back_nx, back_ex, idx_int, ix_tup, ix_lst, ix_mls, ix_fls, ix_box, sl_tup, sl_lst, sl_mls, sl_fls, sl_scr, b_add, b_sub, c_lt, c_le, c_gt, c_ge, c_eq, c_ne, c_eqB, c_neB, c_isN, c_notN, i_int, i_intB, i_abs, i_max, i_min, l_lst, l_tup, l_mls, l_fls, li_lst, li_tup, li_fls, tu_lst, tu_tup, tu_fls, tu_mls, su_2, frzM, getM, isS, subM, isNil, isNon, Gb.start, Option.bind_some, Option.bind_none, Option.map_some, Option.map_none, id_eq, List.getElem?_cons_zero, List.getElem?_cons_succ, List.getElem?_nil, List.set_cons_zero, List.set_cons_succ, List.map_cons, List.map_nil, List.length_cons, List.length_nil, List.cons_append, List.nil_append, List.replicate_succ, List.replicate_zero, Nat.reduceSub, Nat.reduceAdd, Nat.zero_add, Nat.reduceLT, if_true, if_false, reduceIte, Bool.false_eq_true, Bool.not_true, Bool.not_false, Bool.not_not, decide_true, decide_false, decide_not, is0_non, is0_bl, is0_int, is0_str, is0_tup, is0_lst, is0_mls, is0_fls, is1_non, is1_bl, is1_int, is1_str, is1_tup, is1_lst, is1_mls, is1_fls, is2_non, is2_bl, is2_int, is2_str, is2_tup, is2_lst, is2_mls, is2_fls, is3_non, is3_bl, is3_int, is3_str, is3_tup, is3_lst, is3_mls, is3_fls, is4_non, is4_bl, is4_int, is4_str, is4_tup, is4_lst, is4_mls, is4_fls, is5_non, is5_bl, is5_int, is5_str, is5_tup, is5_lst, is5_mls, is5_fls, is6_non, is6_bl, is6_int, is6_str, is6_tup, is6_lst, is6_mls, is6_fls, is7_non, is7_bl, is7_int, is7_str, is7_tup, is7_lst, is7_mls, is7_fls, beq_self_eq_true, Bool.true_beq, Bool.false_beq, Bool.and_true, Bool.true_and, Bool.and_false, Bool.false_and, Bool.or_true, Bool.true_or, Bool.or_false, Bool.false_or, wipeE, w1, w3, w5]
        exact ⟨_, _, rfl, ⟨_, _, rfl⟩, fun d hd => q3 d (List.mem_cons_of_mem _ hd)⟩
      · exact ⟨⟨none, none, rfl⟩, fun d hd => by obtain ⟨i, hi, e⟩ := rng0_mem hd; exact ⟨i, by omega, e⟩⟩
    simp (disch := omega) only [evE, evA, evs, evs', evI, evsP, exS, bind_ok, bind_ex, bind_bad, so_ok, so_ex, so_bad, then_nx, then_rt, then_bk, then_ex, then_bad, lift_some, lift_none, soE_some', soE_none, noEx_ok, p_nm, p_tup, p_lst, pN_nil, pN_cons, p_frz, p_fls, p_int, p_bl, p_non, p_tupm, p_lstm, f_int, f_bl, f_str, f_non, f_tup, f_lst, f_fls, f_box, f_scr, u_int, u_bl, u_str, u_non, u_tup, u_lst, u_fls, t_bl, t_non, t_int, t_tup, t_lst, t_mls, t_fls, bd_int, bk_fls, bk_flsb, bk_int, bk_bl, bk_non, bk_str, bk_tup, bk_lst, bk_box, back_rt, back_nx, back_ex, idx_int, ix_tup, ix_lst, ix_mls, ix_fls, ix_box, sl_tup, sl_lst, sl_mls, sl_fls, sl_scr, b_add, b_sub, c_lt, c_le, c_gt, c_ge, c_eq, c_ne, c_eqB, c_neB, c_isN, c_notN, i_int, i_intB, i_abs, i_max, i_min, l_lst, l_tup, l_mls, l_fls, li_lst, li_tup, li_fls, tu_lst, tu_tup, tu_fls, tu_mls, su_2, frzM, getM, isS, subM, isNil, isNon, Gb.start, Option.bind_some, Option.bind_none, Option.map_some, Option.map_none, id_eq, List.getElem?_cons_zero, List.getElem?_cons_succ, List.getElem?_nil, List.set_cons_zero, List.set_cons_succ, List.map_cons, List.map_nil, List.length_cons, List.length_nil, List.cons_append, List.nil_append, List.replicate_succ, List.replicate_zero, Nat.reduceSub, Nat.reduceAdd, Nat.zero_add, Nat.reduceLT, if_true, if_false, reduceIte, Bool.false_eq_true, Bool.not_true, Bool.not_false, Bool.not_not, decide_true, decide_false, decide_not, is0_non, is0_bl, is0_int, is0_str, is0_tup, is0_lst, is0_mls, is0_fls, is1_non, is1_bl, is1_int, is1_str, is1_tup, is1_lst, is1_mls, is1_fls, is2_non, is2_bl, is2_int, is2_str, is2_tup, is2_lst, is2_mls, is2_fls, is3_non, is3_bl, is3_int, is3_str, is3_tup, is3_lst, is3_mls, is3_fls, is4_non, is4_bl, is4_int, is4_str, is4_tup, is4_lst, is4_mls, is4_fls, is5_non, is5_bl, is5_int, is5_str, is5_tup, is5_lst, is5_mls, is5_fls, is6_non, is6_bl, is6_int, is6_str, is6_tup, is6_lst, is6_mls, is6_fls, is7_non, is7_bl, is7_int, is7_str, is7_tup, is7_lst, is7_mls, is7_fls, beq_self_eq_true, Bool.true_beq, Bool.false_beq, Bool.and_true, Bool.true_and, Bool.and_false, Bool.false_and, Bool.or_true, Bool.true_or, Bool.or_false, Bool.false_or, wipeE]
    rfl
  · cases hh
end
end Gb

/-! The law's end. -/
namespace Gb
open PySem PySem.Spec PyProof.Rows L2

/-- as the kit's end by facts, what is let out told by the world -/
theorem walk_X {l : PySem.W.OpenLaw} {n k : Nat} {q : Program} {loose : List Str} {XP : (Str → Option Value) → Heap → Prop} {YP : World → Heap → Prop} {d : DefRec} {CX : World → CXT} {x : Str}
    (hn : l.most = some n) (hn2 : n ≤ sizeLine) (hdf : d.params.defaults = []) (hr : Room k callerA)
    (F : ∀ (w : World) (mg : Str → Option Value) (fa : Addr) (h : Heap), YP w h → h.Ns mainGlobals mg → mg d.name = some (.ref fa) →
      ∃ (K : PySem.W.Frag) (fd : FuncData) (sp : Sp), K.In h ∧ (∀ (s : Shared) (u : Value), BindsTo s fd ⟨[u], []⟩ [(x, u)]) ∧
        (∀ (H : Hp) (a : Addr) (ns : List Int), ns.length ≤ n → Only H → SqL K H a (ns.map V.int) → sp [.ref a] H (fun v _ => v = .bl true) fun _ _ _ => False) ∧
        ∀ base : Heap, K.In base → base.Ns mainGlobals mg → FnOk l.prog w K mg base (CX w) k fa fd [x] sp)
    (hCX : ∀ (w : World) (H : Hp) (s : Shared) (e : Value) (s' : Shared), CX w [] H s (fun _ _ _ => False) e s' → False) :
    PySem.W.WalkO q loose XP YP l.row.toRowW d [] (fun f vs => PySem.call f vs) := by
  refine Att.attach_call hn hdf fun w s₀ s₁ mg mb fa o pm cd doc a vs ns G Y ho hd hcd hmg hobj hints hlen hg => ?_
  obtain ⟨K, fd, sp, KX, hb, hsp, hF⟩ := F w mg fa _ Y G.T.g hmg
  exact law_call KX G.T.g G.T.b G.T.builtins G.T.nolimit hg hobj hints (Nat.le_trans hlen hn2) hr hF hb (fun H hO hS => hsp H a ns hlen hO hS) fun H e s' => hCX w H s₁ e s'
theorem no_out (P : Program) (w : World) (H : Hp) (s : Shared) (e : Value) (s' : Shared) (h : L2.CX P w [] H s (fun _ _ _ => False) e s') : False := by
  obtain ⟨_, _, _, _, _, _, _, _, _, _, _, _, z⟩ := h
  exact z.elim
end Gb

/-! Sizes one after another; starts; rows of blocks. -/
namespace Gb
open PySem
def f21_is_number : Fn := ⟨1, 1,
    (.ret (.and (.isi (.var 0) [.int]) (.not (.isi (.var 0) [.bool])))), false⟩
def f24_next_size : Fn := ⟨2, 5,
    (.seq (.asg (.tp [(2, false), (3, false), (4, false)]) (.var 0))
    (.ret (.bin .add (.bin .fdiv (.bin .mul (.var 2) (.var 1)) (.var 3)) (.var 4)))), false⟩
def f25_is_start : Fn := ⟨2, 2,
    (.ret (.and (.call 21 (.cons (.var 1) .nil)) (.and (.cmp .ge (.var 1) (.con (.int 1))) (.cmp .gt (.call 24 (.cons (.var 0) (.cons (.var 1) .nil))) (.var 1))))), false⟩
def f43_law_next : Fn := ⟨2, 2,
    (.ret (.bin .add (.bin .fdiv (.bin .mul (.idx (.var 0) (.con (.int 0))) (.var 1)) (.idx (.var 0) (.con (.int 1)))) (.idx (.var 0) (.con (.int 2))))), false⟩
def f44_law_least : Fn := ⟨1, 2,
    (.seq (.asg (.nm 1 false) (.con (.int 1)))
    (.seq (.whl (.cmp .le (.call 43 (.cons (.var 0) (.cons (.var 1) .nil))) (.var 1)) (.asg (.nm 1 false) (.bin .add (.var 1) (.con (.int 1)))))
    (.ret (.var 1)))), false⟩
def f45_law_first : Fn := ⟨3, 3,
    (.ret (.bin .add (.call 44 (.cons (.var 1) .nil)) (.call 7 (.cons (.var 0) (.cons (.bin .add (.var 2) (.con (.int 1))) .nil))))), false⟩
def f185_law_rows : Fn := ⟨3, 8,
    (.seq (.asg (.nm 3 true) (.lst (.cons (.tup (.cons (.con (.int 0)) (.cons (.var 1) .nil))) .nil)))
    (.seq (.for (.nm 4 false) (.rng1 (.var 2)) (.seq (.asg (.tp [(6, false), (7, false)]) (.idx (.var 3) (.neg (.con (.int 1)))))
    (.seq (.asg (.nm 5 false) (.bin .add (.bin .fdiv (.bin .mul (.idx (.var 0) (.con (.int 0))) (.var 7)) (.idx (.var 0) (.con (.int 1)))) (.idx (.var 0) (.con (.int 2)))))
    (.app 3 (.ite (.cmp .le (.var 5) (.var 6)) (.tup (.cons (.con (.int 0)) (.cons (.var 5) .nil))) (.tup (.cons (.bin .add (.var 6) (.var 7)) (.cons (.var 5) .nil))))))))
    (.seq (.frz 3)
    (.ret (.var 3))))), false⟩

/-- a rule: a tuple or a list -/
def RuleD (d : D) (p q r : Int) : Prop := d = .tup [.int p, .int q, .int r] ∨ d = .lst [.int p, .int q, .int r]
/-- small enough -/
structure Kin (p q r : Int) : Prop where
  q1 : 1 ≤ q
  qp : q ≤ p
  p1 : p < 100000
  r0 : 0 ≤ r
  one : p = q → 1 ≤ r
def nxt (p q r s : Int) : Int := p * s / q + r
def stp (p q r : Int) (x : Int × Int) : Int × Int := if nxt p q r x.2 ≤ x.1 then (0, nxt p q r x.2) else (x.1 + x.2, nxt p q r x.2)
def itr (p q r s : Int) : Nat → Int × Int
  | 0 => (0, s)
  | i + 1 => stp p q r (itr p q r s i)
def encR (x : Int × Int) : D := .tup [.int x.1, .int x.2]
def rowsD (p q r s : Int) (i : Nat) : List D := (List.range i).map (fun j => encR (itr p q r s j)) ++ [encR (itr p q r s i)]
theorem rowsD_succ (p q r s : Int) (i : Nat) : rowsD p q r s (i + 1) = rowsD p q r s i ++ [encR (stp p q r (itr p q r s i))] := by
  unfold rowsD
  rw [List.range_succ, List.map_append]
  rfl
theorem rowsD_len (p q r s : Int) (i : Nat) : (rowsD p q r s i).length = i + 1 := by
  unfold rowsD
  simp
/-- what a step adds grows with the size -/
theorem nxt_up {p q r s t : Int} (h : Kin p q r) (h0 : 0 ≤ s) (hst : s ≤ t) (hs : s < nxt p q r s) : t < nxt p q r t := by
  unfold nxt at *
  have hq := h.q1
  have e : ∀ x : Int, p * x / q = x + (p - q) * x / q := fun x => by
    have : p * x = x * q + (p - q) * x := by rw [Int.sub_mul, Int.mul_comm x q]; omega
    rw [this, Int.add_comm, Int.add_mul_ediv_right _ _ (by omega), Int.add_comm]
  rw [e] at hs ⊢
  have hm : (p - q) * s / q ≤ (p - q) * t / q := Int.ediv_le_ediv (by omega) (Int.mul_le_mul_of_nonneg_left hst (by have := h.qp; omega))
  omega
theorem nxt_far {p q r s : Int} (h : Kin p q r) (hs : q ≤ s) : s < nxt p q r s := by
  unfold nxt
  have hq := h.q1
  have e : p * s / q = s + (p - q) * s / q := by
    have : p * s = s * q + (p - q) * s := by rw [Int.sub_mul, Int.mul_comm s q]; omega
    rw [this, Int.add_comm, Int.add_mul_ediv_right _ _ (by omega), Int.add_comm]
  rw [e]
  by_cases hpq : p = q
  · have := h.one hpq
    subst hpq
    rw [Int.sub_self, Int.zero_mul, Int.zero_ediv]
    omega
  · have h1 : 1 ≤ (p - q) * s / q := by
      have : 1 * q ≤ (p - q) * s := Int.mul_le_mul (by have := h.qp; omega) hs (by omega) (by have := h.qp; omega)
      exact (Int.le_ediv_iff_mul_le (by omega)).mpr this
    have := h.r0
    omega
section
variable {FT : Nat → Option Fn} {n k : Nat} {st : Store} {d : D} {p q r s : Int}
theorem next_ok {K : Nat} (h24 : FT 24 = some f24_next_size) (hd : RuleD d p q r) (hp : p.natAbs < 2 ^ 64) (q0 : 0 < q) (q1 : q < 2 ^ 62) (hk : 1 ≤ K) : callN FT n K 24 [d, .int s] st = .ok (.int (nxt p q r s)) st := by
  obtain ⟨k, rfl⟩ : ∃ k, K = k + 1 := ⟨K - 1, by omega⟩
  rw [callN, h24]
  rcases hd with rfl | rfl
  · simp (disch := omega) only [f24_next_size, evE, evA, evs, evs', evI, evsP, exS, bind_ok, bind_ex, bind_bad, so_ok, so_ex, so_bad, then_nx, then_rt, then_bk, then_ex, then_bad, lift_some, lift_none, soE_some', soE_none, noEx_ok, p_nm, p_tup, p_lst, pN_nil, pN_cons, p_frz, p_fls, p_int, p_bl, p_non, p_tupm, p_lstm, f_int, f_bl, f_str, f_non, f_tup, f_lst, f_fls, f_box, f_scr, u_int, u_bl, u_str, u_non, u_tup, u_lst, u_fls, t_bl, t_non, t_int, t_tup, t_lst, t_mls, t_fls, bd_int, bk_fls, bk_flsb, bk_int, bk_bl, bk_non, bk_str, bk_tup, bk_lst, bk_box, back_rt, back_nx, back_ex, idx_int, ix_tup, ix_lst, ix_mls, ix_fls, ix_box, sl_tup, sl_lst, sl_mls, sl_fls, sl_scr, b_add, b_sub, c_lt, c_le, c_gt, c_ge, c_eq, c_ne, c_eqB, c_neB, c_isN, c_notN, i_int, i_intB, i_abs, i_max, i_min, l_lst, l_tup, l_mls, l_fls, li_lst, li_tup, li_fls, tu_lst, tu_tup, tu_fls, tu_mls, su_2, frzM, getM, isS, subM, isNil, isNon, Gb.start, Option.bind_some, Option.bind_none, Option.map_some, Option.map_none, id_eq, List.getElem?_cons_zero, List.getElem?_cons_succ, List.getElem?_nil, List.set_cons_zero, List.set_cons_succ, List.map_cons, List.map_nil, List.length_cons, List.length_nil, List.cons_append, List.nil_append, List.replicate_succ, List.replicate_zero, Nat.reduceSub, Nat.reduceAdd, Nat.zero_add, Nat.reduceLT, if_true, if_false, reduceIte, Bool.false_eq_true, Bool.not_true, Bool.not_false, Bool.not_not, decide_true, decide_false, decide_not, is0_non, is0_bl, is0_int, is0_str, is0_tup, is0_lst, is0_mls, is0_fls, is1_non, is1_bl, is1_int, is1_str, is1_tup, is1_lst, is1_mls, is1_fls, is2_non, is2_bl, is2_int, is2_str, is2_tup, is2_lst, is2_mls, is2_fls, is3_non, is3_bl, is3_int, is3_str, is3_tup, is3_lst, is3_mls, is3_fls, is4_non, is4_bl, is4_int, is4_str, is4_tup, is4_lst, is4_mls, is4_fls, is5_non, is5_bl, is5_int, is5_str, is5_tup, is5_lst, is5_mls, is5_fls, is6_non, is6_bl, is6_int, is6_str, is6_tup, is6_lst, is6_mls, is6_fls, is7_non, is7_bl, is7_int, is7_str, is7_tup, is7_lst, is7_mls, is7_fls, beq_self_eq_true, Bool.true_beq, Bool.false_beq, Bool.and_true, Bool.true_and, Bool.and_false, Bool.false_and, Bool.or_true, Bool.true_or, Bool.or_false, Bool.false_or, wipeE, b_mull, b_fdiv, nxt]
  · simp (disch := omega) only [f24_next_size, evE, evA, evs, evs', evI, evsP, exS, bind_ok, bind_ex, bind_bad, so_ok, so_ex, so_bad, then_nx, then_rt, then_bk, then_ex, then_bad, lift_some, lift_none, soE_some', soE_none, noEx_ok, p_nm, p_tup, p_lst, pN_nil, pN_cons, p_frz, p_fls, p_int, p_bl, p_non, p_tupm, p_lstm, f_int, f_bl, f_str, f_non, f_tup, f_lst, f_fls, f_box, f_scr, u_int, u_bl, u_str, u_non, u_tup, u_lst, u_fls, t_bl, t_non, t_int, t_tup, t_lst, t_mls, t_fls, bd_int, bk_fls, bk_flsb, bk_int, bk_bl, bk_non, bk_str, bk_tup, bk_lst, bk_box, back_rt, back_nx, back_ex, idx_int, ix_tup, ix_lst, ix_mls, ix_fls, ix_box, sl_tup, sl_lst, sl_mls, sl_fls, sl_scr, b_add, b_sub, c_lt, c_le, c_gt, c_ge, c_eq, c_ne, c_eqB, c_neB, c_isN, c_notN, i_int, i_intB, i_abs, i_max, i_min, l_lst, l_tup, l_mls, l_fls, li_lst, li_tup, li_fls, tu_lst, tu_tup, tu_fls, tu_mls, su_2, frzM, getM, isS, subM, isNil, isNon, Gb.start, Option.bind_some, Option.bind_none, Option.map_some, Option.map_none, id_eq, List.getElem?_cons_zero, List.getElem?_cons_succ, List.getElem?_nil, List.set_cons_zero, List.set_cons_succ, List.map_cons, List.map_nil, List.length_cons, List.length_nil, List.cons_append, List.nil_append, List.replicate_succ, List.replicate_zero, Nat.reduceSub, Nat.reduceAdd, Nat.zero_add, Nat.reduceLT, if_true, if_false, reduceIte, Bool.false_eq_true, Bool.not_true, Bool.not_false, Bool.not_not, decide_true, decide_false, decide_not, is0_non, is0_bl, is0_int, is0_str, is0_tup, is0_lst, is0_mls, is0_fls, is1_non, is1_bl, is1_int, is1_str, is1_tup, is1_lst, is1_mls, is1_fls, is2_non, is2_bl, is2_int, is2_str, is2_tup, is2_lst, is2_mls, is2_fls, is3_non, is3_bl, is3_int, is3_str, is3_tup, is3_lst, is3_mls, is3_fls, is4_non, is4_bl, is4_int, is4_str, is4_tup, is4_lst, is4_mls, is4_fls, is5_non, is5_bl, is5_int, is5_str, is5_tup, is5_lst, is5_mls, is5_fls, is6_non, is6_bl, is6_int, is6_str, is6_tup, is6_lst, is6_mls, is6_fls, is7_non, is7_bl, is7_int, is7_str, is7_tup, is7_lst, is7_mls, is7_fls, beq_self_eq_true, Bool.true_beq, Bool.false_beq, Bool.and_true, Bool.true_and, Bool.and_false, Bool.false_and, Bool.or_true, Bool.true_or, Bool.or_false, Bool.false_or, wipeE, b_mull, b_fdiv, nxt]
theorem start_ok {K : Nat} (h21 : FT 21 = some f21_is_number) (h24 : FT 24 = some f24_next_size) (h25 : FT 25 = some f25_is_start) (hd : RuleD d p q r) (hp : p.natAbs < 2 ^ 64) (q0 : 0 < q) (q1 : q < 2 ^ 62) (hk : 2 ≤ K) :
    callN FT n K 25 [d, .int s] st = .ok (.bl (decide (1 ≤ s) && decide (s < nxt p q r s))) st := by
  obtain ⟨k, rfl⟩ : ∃ k, K = k + 2 := ⟨K - 2, by omega⟩
  have e1 : ∀ st, callN FT n (k + 1) 21 [.int s] st = .ok (.bl true) st := fun st => by
    rw [callN, h21]
    simp (disch := omega) only [f21_is_number, evE, evA, evs, evs', evI, evsP, exS, bind_ok, bind_ex, bind_bad, so_ok, so_ex, so_bad, then_nx, then_rt, then_bk, then_ex, then_bad, lift_some, lift_none, soE_some', soE_none, noEx_ok, p_nm, p_tup, p_lst, pN_nil, pN_cons, p_frz, p_fls, p_int, p_bl, p_non, p_tupm, p_lstm, f_int, f_bl, f_str, f_non, f_tup, f_lst, f_fls, f_box, f_scr, u_int, u_bl, u_str, u_non, u_tup, u_lst, u_fls, t_bl, t_non, t_int, t_tup, t_lst, t_mls, t_fls, bd_int, bk_fls, bk_flsb, bk_int, bk_bl, bk_non, bk_str, bk_tup, bk_lst, bk_box, back_rt, back_nx, back_ex, idx_int, ix_tup, ix_lst, ix_mls, ix_fls, ix_box, sl_tup, sl_lst, sl_mls, sl_fls, sl_scr, b_add, b_sub, c_lt, c_le, c_gt, c_ge, c_eq, c_ne, c_eqB, c_neB, c_isN, c_notN, i_int, i_intB, i_abs, i_max, i_min, l_lst, l_tup, l_mls, l_fls, li_lst, li_tup, li_fls, tu_lst, tu_tup, tu_fls, tu_mls, su_2, frzM, getM, isS, subM, isNil, isNon, Gb.start, Option.bind_some, Option.bind_none, Option.map_some, Option.map_none, id_eq, List.getElem?_cons_zero, List.getElem?_cons_succ, List.getElem?_nil, List.set_cons_zero, List.set_cons_succ, List.map_cons, List.map_nil, List.length_cons, List.length_nil, List.cons_append, List.nil_append, List.replicate_succ, List.replicate_zero, Nat.reduceSub, Nat.reduceAdd, Nat.zero_add, Nat.reduceLT, if_true, if_false, reduceIte, Bool.false_eq_true, Bool.not_true, Bool.not_false, Bool.not_not, decide_true, decide_false, decide_not, is0_non, is0_bl, is0_int, is0_str, is0_tup, is0_lst, is0_mls, is0_fls, is1_non, is1_bl, is1_int, is1_str, is1_tup, is1_lst, is1_mls, is1_fls, is2_non, is2_bl, is2_int, is2_str, is2_tup, is2_lst, is2_mls, is2_fls, is3_non, is3_bl, is3_int, is3_str, is3_tup, is3_lst, is3_mls, is3_fls, is4_non, is4_bl, is4_int, is4_str, is4_tup, is4_lst, is4_mls, is4_fls, is5_non, is5_bl, is5_int, is5_str, is5_tup, is5_lst, is5_mls, is5_fls, is6_non, is6_bl, is6_int, is6_str, is6_tup, is6_lst, is6_mls, is6_fls, is7_non, is7_bl, is7_int, is7_str, is7_tup, is7_lst, is7_mls, is7_fls, beq_self_eq_true, Bool.true_beq, Bool.false_beq, Bool.and_true, Bool.true_and, Bool.and_false, Bool.false_and, Bool.or_true, Bool.true_or, Bool.or_false, Bool.false_or, wipeE]
  have hf : frzD d = some d := by rcases hd with rfl | rfl <;> rfl
  rw [callN, h25]
  by_cases h1 : 1 ≤ s
  · simp (disch := omega) only [f25_is_start, evE, evA, evs, evs', evI, evsP, exS, bind_ok, bind_ex, bind_bad, so_ok, so_ex, so_bad, then_nx, then_rt, then_bk, then_ex, then_bad, lift_some, lift_none, soE_some', soE_none, noEx_ok, p_nm, p_tup, p_lst, pN_nil, pN_cons, p_frz, p_fls, p_int, p_bl, p_non, p_tupm, p_lstm, f_int, f_bl, f_str, f_non, f_tup, f_lst, f_fls, f_box, f_scr, u_int, u_bl, u_str, u_non, u_tup, u_lst, u_fls, t_bl, t_non, t_int, t_tup, t_lst, t_mls, t_fls, bd_int, bk_fls, bk_flsb, bk_int, bk_bl, bk_non, bk_str, bk_tup, bk_lst, bk_box, back_rt, back_nx, back_ex, idx_int, ix_tup, ix_lst, ix_mls, ix_fls, ix_box, sl_tup, sl_lst, sl_mls, sl_fls, sl_scr, b_add, b_sub, c_lt, c_le, c_gt, c_ge, c_eq, c_ne, c_eqB, c_neB, c_isN, c_notN, i_int, i_intB, i_abs, i_max, i_min, l_lst, l_tup, l_mls, l_fls, li_lst, li_tup, li_fls, tu_lst, tu_tup, tu_fls, tu_mls, su_2, frzM, getM, isS, subM, isNil, isNon, Gb.start, Option.bind_some, Option.bind_none, Option.map_some, Option.map_none, id_eq, List.getElem?_cons_zero, List.getElem?_cons_succ, List.getElem?_nil, List.set_cons_zero, List.set_cons_succ, List.map_cons, List.map_nil, List.length_cons, List.length_nil, List.cons_append, List.nil_append, List.replicate_succ, List.replicate_zero, Nat.reduceSub, Nat.reduceAdd, Nat.zero_add, Nat.reduceLT, if_true, if_false, reduceIte, Bool.false_eq_true, Bool.not_true, Bool.not_false, Bool.not_not, decide_true, decide_false, decide_not, is0_non, is0_bl, is0_int, is0_str, is0_tup, is0_lst, is0_mls, is0_fls, is1_non, is1_bl, is1_int, is1_str, is1_tup, is1_lst, is1_mls, is1_fls, is2_non, is2_bl, is2_int, is2_str, is2_tup, is2_lst, is2_mls, is2_fls, is3_non, is3_bl, is3_int, is3_str, is3_tup, is3_lst, is3_mls, is3_fls, is4_non, is4_bl, is4_int, is4_str, is4_tup, is4_lst, is4_mls, is4_fls, is5_non, is5_bl, is5_int, is5_str, is5_tup, is5_lst, is5_mls, is5_fls, is6_non, is6_bl, is6_int, is6_str, is6_tup, is6_lst, is6_mls, is6_fls, is7_non, is7_bl, is7_int, is7_str, is7_tup, is7_lst, is7_mls, is7_fls, beq_self_eq_true, Bool.true_beq, Bool.false_beq, Bool.and_true, Bool.true_and, Bool.and_false, Bool.false_and, Bool.or_true, Bool.true_or, Bool.or_false, Bool.false_or, wipeE, e1, hf, next_ok h24 hd hp q0 q1, h1]
  · simp (disch := omega) only [f25_is_start, evE, evA, evs, evs', evI, evsP, exS, bind_ok, bind_ex, bind_bad, so_ok, so_ex, so_bad, then_nx, then_rt, then_bk, then_ex, then_bad, lift_some, lift_none, soE_some', soE_none, noEx_ok, p_nm, p_tup, p_lst, pN_nil, pN_cons, p_frz, p_fls, p_int, p_bl, p_non, p_tupm, p_lstm, f_int, f_bl, f_str, f_non, f_tup, f_lst, f_fls, f_box, f_scr, u_int, u_bl, u_str, u_non, u_tup, u_lst, u_fls, t_bl, t_non, t_int, t_tup, t_lst, t_mls, t_fls, bd_int, bk_fls, bk_flsb, bk_int, bk_bl, bk_non, bk_str, bk_tup, bk_lst, bk_box, back_rt, back_nx, back_ex, idx_int, ix_tup, ix_lst, ix_mls, ix_fls, ix_box, sl_tup, sl_lst, sl_mls, sl_fls, sl_scr, b_add, b_sub, c_lt, c_le, c_gt, c_ge, c_eq, c_ne, c_eqB, c_neB, c_isN, c_notN, i_int, i_intB, i_abs, i_max, i_min, l_lst, l_tup, l_mls, l_fls, li_lst, li_tup, li_fls, tu_lst, tu_tup, tu_fls, tu_mls, su_2, frzM, getM, isS, subM, isNil, isNon, Gb.start, Option.bind_some, Option.bind_none, Option.map_some, Option.map_none, id_eq, List.getElem?_cons_zero, List.getElem?_cons_succ, List.getElem?_nil, List.set_cons_zero, List.set_cons_succ, List.map_cons, List.map_nil, List.length_cons, List.length_nil, List.cons_append, List.nil_append, List.replicate_succ, List.replicate_zero, Nat.reduceSub, Nat.reduceAdd, Nat.zero_add, Nat.reduceLT, if_true, if_false, reduceIte, Bool.false_eq_true, Bool.not_true, Bool.not_false, Bool.not_not, decide_true, decide_false, decide_not, is0_non, is0_bl, is0_int, is0_str, is0_tup, is0_lst, is0_mls, is0_fls, is1_non, is1_bl, is1_int, is1_str, is1_tup, is1_lst, is1_mls, is1_fls, is2_non, is2_bl, is2_int, is2_str, is2_tup, is2_lst, is2_mls, is2_fls, is3_non, is3_bl, is3_int, is3_str, is3_tup, is3_lst, is3_mls, is3_fls, is4_non, is4_bl, is4_int, is4_str, is4_tup, is4_lst, is4_mls, is4_fls, is5_non, is5_bl, is5_int, is5_str, is5_tup, is5_lst, is5_mls, is5_fls, is6_non, is6_bl, is6_int, is6_str, is6_tup, is6_lst, is6_mls, is6_fls, is7_non, is7_bl, is7_int, is7_str, is7_tup, is7_lst, is7_mls, is7_fls, beq_self_eq_true, Bool.true_beq, Bool.false_beq, Bool.and_true, Bool.true_and, Bool.and_false, Bool.false_and, Bool.or_true, Bool.true_or, Bool.or_false, Bool.false_or, wipeE, e1, hf, h1]
theorem lnext_ok {K : Nat} (h43 : FT 43 = some f43_law_next) (hp : p.natAbs < 2 ^ 64) (q0 : 0 < q) (q1 : q < 2 ^ 62) (hk : 1 ≤ K) : callN FT n K 43 [.tup [.int p, .int q, .int r], .int s] st = .ok (.int (nxt p q r s)) st := by
  obtain ⟨k, rfl⟩ : ∃ k, K = k + 1 := ⟨K - 1, by omega⟩
  rw [callN, h43]
  have a0 : ∀ {x y z : D}, L2.atI [x, y, z] 0 = some x := rfl
  have a1 : ∀ {x y z : D}, L2.atI [x, y, z] 1 = some y := rfl
  have a2 : ∀ {x y z : D}, L2.atI [x, y, z] 2 = some z := rfl
  simp (disch := omega) only [f43_law_next, evE, evA, evs, evs', evI, evsP, exS, bind_ok, bind_ex, bind_bad, so_ok, so_ex, so_bad, then_nx, then_rt, then_bk, then_ex, then_bad, lift_some, lift_none, soE_some', soE_none, noEx_ok, p_nm, p_tup, p_lst, pN_nil, pN_cons, p_frz, p_fls, p_int, p_bl, p_non, p_tupm, p_lstm, f_int, f_bl, f_str, f_non, f_tup, f_lst, f_fls, f_box, f_scr, u_int, u_bl, u_str, u_non, u_tup, u_lst, u_fls, t_bl, t_non, t_int, t_tup, t_lst, t_mls, t_fls, bd_int, bk_fls, bk_flsb, bk_int, bk_bl, bk_non, bk_str, bk_tup, bk_lst, bk_box, back_rt, back_nx, back_ex, idx_int, ix_tup, ix_lst, ix_mls, ix_fls, ix_box, sl_tup, sl_lst, sl_mls, sl_fls, sl_scr, b_add, b_sub, c_lt, c_le, c_gt, c_ge, c_eq, c_ne, c_eqB, c_neB, c_isN, c_notN, i_int, i_intB, i_abs, i_max, i_min, l_lst, l_tup, l_mls, l_fls, li_lst, li_tup, li_fls, tu_lst, tu_tup, tu_fls, tu_mls, su_2, frzM, getM, isS, subM, isNil, isNon, Gb.start, Option.bind_some, Option.bind_none, Option.map_some, Option.map_none, id_eq, List.getElem?_cons_zero, List.getElem?_cons_succ, List.getElem?_nil, List.set_cons_zero, List.set_cons_succ, List.map_cons, List.map_nil, List.length_cons, List.length_nil, List.cons_append, List.nil_append, List.replicate_succ, List.replicate_zero, Nat.reduceSub, Nat.reduceAdd, Nat.zero_add, Nat.reduceLT, if_true, if_false, reduceIte, Bool.false_eq_true, Bool.not_true, Bool.not_false, Bool.not_not, decide_true, decide_false, decide_not, is0_non, is0_bl, is0_int, is0_str, is0_tup, is0_lst, is0_mls, is0_fls, is1_non, is1_bl, is1_int, is1_str, is1_tup, is1_lst, is1_mls, is1_fls, is2_non, is2_bl, is2_int, is2_str, is2_tup, is2_lst, is2_mls, is2_fls, is3_non, is3_bl, is3_int, is3_str, is3_tup, is3_lst, is3_mls, is3_fls, is4_non, is4_bl, is4_int, is4_str, is4_tup, is4_lst, is4_mls, is4_fls, is5_non, is5_bl, is5_int, is5_str, is5_tup, is5_lst, is5_mls, is5_fls, is6_non, is6_bl, is6_int, is6_str, is6_tup, is6_lst, is6_mls, is6_fls, is7_non, is7_bl, is7_int, is7_str, is7_tup, is7_lst, is7_mls, is7_fls, beq_self_eq_true, Bool.true_beq, Bool.false_beq, Bool.and_true, Bool.true_and, Bool.and_false, Bool.false_and, Bool.or_true, Bool.true_or, Bool.or_false, Bool.false_or, wipeE, b_mull, b_fdiv, nxt, a0, a1, a2]
theorem least_ok {K : Nat} (h43 : FT 43 = some f43_law_next) (h44 : FT 44 = some f44_law_least) (h : Kin p q r) (hn : 100000 < n) (hk : 2 ≤ K) :
    ∃ s : Int, callN FT n K 44 [.tup [.int p, .int q, .int r]] st = .ok (.int s) st ∧ 1 ≤ s ∧ s ≤ q ∧ s < nxt p q r s := by
  obtain ⟨k, rfl⟩ : ∃ k, K = k + 2 := ⟨K - 2, by omega⟩
  have hq := h.q1
  have hqp := h.qp
  have hp := h.p1
  rw [callN, h44]
  simp (disch := omega) only [f44_law_least, evE, evA, evs, evs', evI, evsP, exS, bind_ok, bind_ex, bind_bad, so_ok, so_ex, so_bad, then_nx, then_rt, then_bk, then_ex, then_bad, lift_some, lift_none, soE_some', soE_none, noEx_ok, p_nm, p_tup, p_lst, pN_nil, pN_cons, p_frz, p_fls, p_int, p_bl, p_non, p_tupm, p_lstm, f_int, f_bl, f_str, f_non, f_tup, f_lst, f_fls, f_box, f_scr, u_int, u_bl, u_str, u_non, u_tup, u_lst, u_fls, t_bl, t_non, t_int, t_tup, t_lst, t_mls, t_fls, bd_int, bk_fls, bk_flsb, bk_int, bk_bl, bk_non, bk_str, bk_tup, bk_lst, bk_box, back_rt, back_nx, back_ex, idx_int, ix_tup, ix_lst, ix_mls, ix_fls, ix_box, sl_tup, sl_lst, sl_mls, sl_fls, sl_scr, b_add, b_sub, c_lt, c_le, c_gt, c_ge, c_eq, c_ne, c_eqB, c_neB, c_isN, c_notN, i_int, i_intB, i_abs, i_max, i_min, l_lst, l_tup, l_mls, l_fls, li_lst, li_tup, li_fls, tu_lst, tu_tup, tu_fls, tu_mls, su_2, frzM, getM, isS, subM, isNil, isNon, Gb.start, Option.bind_some, Option.bind_none, Option.map_some, Option.map_none, id_eq, List.getElem?_cons_zero, List.getElem?_cons_succ, List.getElem?_nil, List.set_cons_zero, List.set_cons_succ, List.map_cons, List.map_nil, List.length_cons, List.length_nil, List.cons_append, List.nil_append, List.replicate_succ, List.replicate_zero, Nat.reduceSub, Nat.reduceAdd, Nat.zero_add, Nat.reduceLT, if_true, if_false, reduceIte, Bool.false_eq_true, Bool.not_true, Bool.not_false, Bool.not_not, decide_true, decide_false, decide_not, is0_non, is0_bl, is0_int, is0_str, is0_tup, is0_lst, is0_mls, is0_fls, is1_non, is1_bl, is1_int, is1_str, is1_tup, is1_lst, is1_mls, is1_fls, is2_non, is2_bl, is2_int, is2_str, is2_tup, is2_lst, is2_mls, is2_fls, is3_non, is3_bl, is3_int, is3_str, is3_tup, is3_lst, is3_mls, is3_fls, is4_non, is4_bl, is4_int, is4_str, is4_tup, is4_lst, is4_mls, is4_fls, is5_non, is5_bl, is5_int, is5_str, is5_tup, is5_lst, is5_mls, is5_fls, is6_non, is6_bl, is6_int, is6_str, is6_tup, is6_lst, is6_mls, is6_fls, is7_non, is7_bl, is7_int, is7_str, is7_tup, is7_lst, is7_mls, is7_fls, beq_self_eq_true, Bool.true_beq, Bool.false_beq, Bool.and_true, Bool.true_and, Bool.and_false, Bool.false_and, Bool.or_true, Bool.true_or, Bool.or_false, Bool.false_or, wipeE]
  generalize hr : whlL _ _ _ _ _ = w
  let P : Nat → Env → Store → Prop := fun m ρ st' => ∃ s : Int, ρ = [some (.tup [.int p, .int q, .int r]), some (.int s)] ∧ st' = st ∧ 1 ≤ s ∧ s ≤ q ∧ m = (q - s).toNat
  let Q : Env → Store → Prop := fun ρ st' => ∃ s : Int, ρ = [some (.tup [.int p, .int q, .int r]), some (.int s)] ∧ st' = st ∧ 1 ≤ s ∧ s ≤ q ∧ s < nxt p q r s
  obtain ⟨ρ', st', rfl, s, rfl, rfl, h1, h2, h3⟩ : ∃ ρ' st', w = .nx ρ' st' ∧ Q ρ' st' := by
    rw [← hr]
    refine whlL_run P Q ?_ n (q - 1).toNat _ _ (by omega) ⟨1, rfl, rfl, by omega, by omega, rfl⟩
    rintro m ρ st' ⟨s, rfl, rfl, h1, h2, rfl⟩
    by_cases hle : nxt p q r s ≤ s
    · right
      have hlt : s < q := by
        by_cases e : s = q
        · exact absurd (nxt_far h (by omega : q ≤ s)) (by omega)
        · omega
      simp (disch := omega) only [evE, evA, evs, evs', evI, evsP, exS, bind_ok, bind_ex, bind_bad, so_ok, so_ex, so_bad, then_nx, then_rt, then_bk, then_ex, then_bad, lift_some, lift_none, soE_some', soE_none, noEx_ok, p_nm, p_tup, p_lst, pN_nil, pN_cons, p_frz, p_fls, p_int, p_bl, p_non, p_tupm, p_lstm, f_int, f_bl, f_str, f_non, f_tup, f_lst, f_fls, f_box, f_scr, u_int, u_bl, u_str, u_non, u_tup, u_lst, u_fls, t_bl, t_non, t_int, t_tup, t_lst, t_mls, t_fls, bd_int, bk_fls, bk_flsb, bk_int, bk_bl, bk_non, bk_str, bk_tup, bk_lst, bk_box, back_rt, back_nx, back_ex, idx_int, ix_tup, ix_lst, ix_mls, ix_fls, ix_box, sl_tup, sl_lst, sl_mls, sl_fls, sl_scr, b_add, b_sub, c_lt, c_le, c_gt, c_ge, c_eq, c_ne, c_eqB, c_neB, c_isN, c_notN, i_int, i_intB, i_abs, i_max, i_min, l_lst, l_tup, l_mls, l_fls, li_lst, li_tup, li_fls, tu_lst, tu_tup, tu_fls, tu_mls, su_2, frzM, getM, isS, subM, isNil, isNon, Gb.start, Option.bind_some, Option.bind_none, Option.map_some, Option.map_none, id_eq, List.getElem?_cons_zero, List.getElem?_cons_succ, List.getElem?_nil, List.set_cons_zero, List.set_cons_succ, List.map_cons, List.map_nil, List.length_cons, List.length_nil, List.cons_append, List.nil_append, List.replicate_succ, List.replicate_zero, Nat.reduceSub, Nat.reduceAdd, Nat.zero_add, Nat.reduceLT, if_true, if_false, reduceIte, Bool.false_eq_true, Bool.not_true, Bool.not_false, Bool.not_not, decide_true, decide_false, decide_not, is0_non, is0_bl, is0_int, is0_str, is0_tup, is0_lst, is0_mls, is0_fls, is1_non, is1_bl, is1_int, is1_str, is1_tup, is1_lst, is1_mls, is1_fls, is2_non, is2_bl, is2_int, is2_str, is2_tup, is2_lst, is2_mls, is2_fls, is3_non, is3_bl, is3_int, is3_str, is3_tup, is3_lst, is3_mls, is3_fls, is4_non, is4_bl, is4_int, is4_str, is4_tup, is4_lst, is4_mls, is4_fls, is5_non, is5_bl, is5_int, is5_str, is5_tup, is5_lst, is5_mls, is5_fls, is6_non, is6_bl, is6_int, is6_str, is6_tup, is6_lst, is6_mls, is6_fls, is7_non, is7_bl, is7_int, is7_str, is7_tup, is7_lst, is7_mls, is7_fls, beq_self_eq_true, Bool.true_beq, Bool.false_beq, Bool.and_true, Bool.true_and, Bool.and_false, Bool.false_and, Bool.or_true, Bool.true_or, Bool.or_false, Bool.false_or, wipeE, lnext_ok h43, hle]
      exact ⟨True.intro, (q - (s + 1)).toNat, _, _, by omega, rfl, s + 1, rfl, rfl, by omega, by omega, rfl⟩
    · left
      simp (disch := omega) only [evE, evA, evs, evs', evI, evsP, exS, bind_ok, bind_ex, bind_bad, so_ok, so_ex, so_bad, then_nx, then_rt, then_bk, then_ex, then_bad, lift_some, lift_none, soE_some', soE_none, noEx_ok, p_nm, p_tup, p_lst, pN_nil, pN_cons, p_frz, p_fls, p_int, p_bl, p_non, p_tupm, p_lstm, f_int, f_bl, f_str, f_non, f_tup, f_lst, f_fls, f_box, f_scr, u_int, u_bl, u_str, u_non, u_tup, u_lst, u_fls, t_bl, t_non, t_int, t_tup, t_lst, t_mls, t_fls, bd_int, bk_fls, bk_flsb, bk_int, bk_bl, bk_non, bk_str, bk_tup, bk_lst, bk_box, back_rt, back_nx, back_ex, idx_int, ix_tup, ix_lst, ix_mls, ix_fls, ix_box, sl_tup, sl_lst, sl_mls, sl_fls, sl_scr, b_add, b_sub, c_lt, c_le, c_gt, c_ge, c_eq, c_ne, c_eqB, c_neB, c_isN, c_notN, i_int, i_intB, i_abs, i_max, i_min, l_lst, l_tup, l_mls, l_fls, li_lst, li_tup, li_fls, tu_lst, tu_tup, tu_fls, tu_mls, su_2, frzM, getM, isS, subM, isNil, isNon, Gb.start, Option.bind_some, Option.bind_none, Option.map_some, Option.map_none, id_eq, List.getElem?_cons_zero, List.getElem?_cons_succ, List.getElem?_nil, List.set_cons_zero, List.set_cons_succ, List.map_cons, List.map_nil, List.length_cons, List.length_nil, List.cons_append, List.nil_append, List.replicate_succ, List.replicate_zero, Nat.reduceSub, Nat.reduceAdd, Nat.zero_add, Nat.reduceLT, if_true, if_false, reduceIte, Bool.false_eq_true, Bool.not_true, Bool.not_false, Bool.not_not, decide_true, decide_false, decide_not, is0_non, is0_bl, is0_int, is0_str, is0_tup, is0_lst, is0_mls, is0_fls, is1_non, is1_bl, is1_int, is1_str, is1_tup, is1_lst, is1_mls, is1_fls, is2_non, is2_bl, is2_int, is2_str, is2_tup, is2_lst, is2_mls, is2_fls, is3_non, is3_bl, is3_int, is3_str, is3_tup, is3_lst, is3_mls, is3_fls, is4_non, is4_bl, is4_int, is4_str, is4_tup, is4_lst, is4_mls, is4_fls, is5_non, is5_bl, is5_int, is5_str, is5_tup, is5_lst, is5_mls, is5_fls, is6_non, is6_bl, is6_int, is6_str, is6_tup, is6_lst, is6_mls, is6_fls, is7_non, is7_bl, is7_int, is7_str, is7_tup, is7_lst, is7_mls, is7_fls, beq_self_eq_true, Bool.true_beq, Bool.false_beq, Bool.and_true, Bool.true_and, Bool.and_false, Bool.false_and, Bool.or_true, Bool.true_or, Bool.or_false, Bool.false_or, wipeE, lnext_ok h43, hle]
      exact ⟨True.intro, s, rfl, rfl, h1, h2, by omega⟩
  simp (disch := omega) only [evE, evA, evs, evs', evI, evsP, exS, bind_ok, bind_ex, bind_bad, so_ok, so_ex, so_bad, then_nx, then_rt, then_bk, then_ex, then_bad, lift_some, lift_none, soE_some', soE_none, noEx_ok, p_nm, p_tup, p_lst, pN_nil, pN_cons, p_frz, p_fls, p_int, p_bl, p_non, p_tupm, p_lstm, f_int, f_bl, f_str, f_non, f_tup, f_lst, f_fls, f_box, f_scr, u_int, u_bl, u_str, u_non, u_tup, u_lst, u_fls, t_bl, t_non, t_int, t_tup, t_lst, t_mls, t_fls, bd_int, bk_fls, bk_flsb, bk_int, bk_bl, bk_non, bk_str, bk_tup, bk_lst, bk_box, back_rt, back_nx, back_ex, idx_int, ix_tup, ix_lst, ix_mls, ix_fls, ix_box, sl_tup, sl_lst, sl_mls, sl_fls, sl_scr, b_add, b_sub, c_lt, c_le, c_gt, c_ge, c_eq, c_ne, c_eqB, c_neB, c_isN, c_notN, i_int, i_intB, i_abs, i_max, i_min, l_lst, l_tup, l_mls, l_fls, li_lst, li_tup, li_fls, tu_lst, tu_tup, tu_fls, tu_mls, su_2, frzM, getM, isS, subM, isNil, isNon, Gb.start, Option.bind_some, Option.bind_none, Option.map_some, Option.map_none, id_eq, List.getElem?_cons_zero, List.getElem?_cons_succ, List.getElem?_nil, List.set_cons_zero, List.set_cons_succ, List.map_cons, List.map_nil, List.length_cons, List.length_nil, List.cons_append, List.nil_append, List.replicate_succ, List.replicate_zero, Nat.reduceSub, Nat.reduceAdd, Nat.zero_add, Nat.reduceLT, if_true, if_false, reduceIte, Bool.false_eq_true, Bool.not_true, Bool.not_false, Bool.not_not, decide_true, decide_false, decide_not, is0_non, is0_bl, is0_int, is0_str, is0_tup, is0_lst, is0_mls, is0_fls, is1_non, is1_bl, is1_int, is1_str, is1_tup, is1_lst, is1_mls, is1_fls, is2_non, is2_bl, is2_int, is2_str, is2_tup, is2_lst, is2_mls, is2_fls, is3_non, is3_bl, is3_int, is3_str, is3_tup, is3_lst, is3_mls, is3_fls, is4_non, is4_bl, is4_int, is4_str, is4_tup, is4_lst, is4_mls, is4_fls, is5_non, is5_bl, is5_int, is5_str, is5_tup, is5_lst, is5_mls, is5_fls, is6_non, is6_bl, is6_int, is6_str, is6_tup, is6_lst, is6_mls, is6_fls, is7_non, is7_bl, is7_int, is7_str, is7_tup, is7_lst, is7_mls, is7_fls, beq_self_eq_true, Bool.true_beq, Bool.false_beq, Bool.and_true, Bool.true_and, Bool.and_false, Bool.false_and, Bool.or_true, Bool.true_or, Bool.or_false, Bool.false_or, wipeE]
  exact ⟨s, rfl, h1, h2, h3⟩
theorem first_ok {K : Nat} (h7 : FT 7 = some f7_law_take) (h43 : FT 43 = some f43_law_next) (h44 : FT 44 = some f44_law_least) (h45 : FT 45 = some f45_law_first) (h : Kin p q r) (hn : 100000 < n) {j m : Nat} (hT : Tin st j m) (hm : m + 1 < 2 ^ 61) {F : Int} (f0 : 0 ≤ F) (f1 : F < 2 ^ 60) (hk : 3 ≤ K) :
    ∃ (s : Int) (st' : Store), callN FT n K 45 [.box j, .tup [.int p, .int q, .int r], .int F] st = .ok (.int s) st' ∧ 1 ≤ s ∧ s ≤ q + F ∧ s < nxt p q r s ∧ Tin st' j (m + 1) := by
  obtain ⟨k, rfl⟩ : ∃ k, K = k + 3 := ⟨K - 3, by omega⟩
  obtain ⟨s, e1, h1, h2, h3⟩ := least_ok (K := k + 2) (st := st) h43 h44 h hn (by omega)
  obtain ⟨z, st', e2, z0, z1, T⟩ := take_ok (n := n) (K := k + 2) h7 hT (by omega) (top := F + 1) (by omega) (by omega) (by omega)
  rw [callN, h45]
  simp (disch := omega) only [f45_law_first, evE, evA, evs, evs', evI, evsP, exS, bind_ok, bind_ex, bind_bad, so_ok, so_ex, so_bad, then_nx, then_rt, then_bk, then_ex, then_bad, lift_some, lift_none, soE_some', soE_none, noEx_ok, p_nm, p_tup, p_lst, pN_nil, pN_cons, p_frz, p_fls, p_int, p_bl, p_non, p_tupm, p_lstm, f_int, f_bl, f_str, f_non, f_tup, f_lst, f_fls, f_box, f_scr, u_int, u_bl, u_str, u_non, u_tup, u_lst, u_fls, t_bl, t_non, t_int, t_tup, t_lst, t_mls, t_fls, bd_int, bk_fls, bk_flsb, bk_int, bk_bl, bk_non, bk_str, bk_tup, bk_lst, bk_box, back_rt, back_nx, back_ex, idx_int, ix_tup, ix_lst, ix_mls, ix_fls, ix_box, sl_tup, sl_lst, sl_mls, sl_fls, sl_scr, b_add, b_sub, c_lt, c_le, c_gt, c_ge, c_eq, c_ne, c_eqB, c_neB, c_isN, c_notN, i_int, i_intB, i_abs, i_max, i_min, l_lst, l_tup, l_mls, l_fls, li_lst, li_tup, li_fls, tu_lst, tu_tup, tu_fls, tu_mls, su_2, frzM, getM, isS, subM, isNil, isNon, Gb.start, Option.bind_some, Option.bind_none, Option.map_some, Option.map_none, id_eq, List.getElem?_cons_zero, List.getElem?_cons_succ, List.getElem?_nil, List.set_cons_zero, List.set_cons_succ, List.map_cons, List.map_nil, List.length_cons, List.length_nil, List.cons_append, List.nil_append, List.replicate_succ, List.replicate_zero, Nat.reduceSub, Nat.reduceAdd, Nat.zero_add, Nat.reduceLT, if_true, if_false, reduceIte, Bool.false_eq_true, Bool.not_true, Bool.not_false, Bool.not_not, decide_true, decide_false, decide_not, is0_non, is0_bl, is0_int, is0_str, is0_tup, is0_lst, is0_mls, is0_fls, is1_non, is1_bl, is1_int, is1_str, is1_tup, is1_lst, is1_mls, is1_fls, is2_non, is2_bl, is2_int, is2_str, is2_tup, is2_lst, is2_mls, is2_fls, is3_non, is3_bl, is3_int, is3_str, is3_tup, is3_lst, is3_mls, is3_fls, is4_non, is4_bl, is4_int, is4_str, is4_tup, is4_lst, is4_mls, is4_fls, is5_non, is5_bl, is5_int, is5_str, is5_tup, is5_lst, is5_mls, is5_fls, is6_non, is6_bl, is6_int, is6_str, is6_tup, is6_lst, is6_mls, is6_fls, is7_non, is7_bl, is7_int, is7_str, is7_tup, is7_lst, is7_mls, is7_fls, beq_self_eq_true, Bool.true_beq, Bool.false_beq, Bool.and_true, Bool.true_and, Bool.and_false, Bool.false_and, Bool.or_true, Bool.true_or, Bool.or_false, Bool.false_or, wipeE, e1, e2]
  exact ⟨_, _, rfl, by omega, by omega, nxt_up h (by omega) (by omega) h3, T⟩
theorem at3_0 {x y z : D} : L2.atI [x, y, z] 0 = some x := rfl
theorem at3_1 {x y z : D} : L2.atI [x, y, z] 1 = some y := rfl
theorem at3_2 {x y z : D} : L2.atI [x, y, z] 2 = some z := rfl
theorem rows_last (i : Nat) : L2.atI (rowsD p q r s i) (-1) = some (encR (itr p q r s i)) := at_last
theorem lrows_ok {K : Nat} (h185 : FT 185 = some f185_law_rows) (hp : p.natAbs < 2 ^ 64) (q0 : 0 < q) (q1 : q < 2 ^ 62) {m : Nat} (hm : m ≤ 100000) (hk : 1 ≤ K) :
    callN FT n K 185 [.tup [.int p, .int q, .int r], .int s, .int (m : Nat)] st = .ok (.lst (rowsD p q r s m)) st := by
  obtain ⟨k, rfl⟩ : ∃ k, K = k + 1 := ⟨K - 1, by omega⟩
  rw [callN, h185]
  simp (disch := omega) only [f185_law_rows, evE, evA, evs, evs', evI, evsP, exS, bind_ok, bind_ex, bind_bad, so_ok, so_ex, so_bad, then_nx, then_rt, then_bk, then_ex, then_bad, lift_some, lift_none, soE_some', soE_none, noEx_ok, p_nm, p_tup, p_lst, pN_nil, pN_cons, p_frz, p_fls, p_int, p_bl, p_non, p_tupm, p_lstm, f_int, f_bl, f_str, f_non, f_tup, f_lst, f_fls, f_box, f_scr, u_int, u_bl, u_str, u_non, u_tup, u_lst, u_fls, t_bl, t_non, t_int, t_tup, t_lst, t_mls, t_fls, bd_int, bk_fls, bk_flsb, bk_int, bk_bl, bk_non, bk_str, bk_tup, bk_lst, bk_box, back_rt, back_nx, back_ex, idx_int, ix_tup, ix_lst, ix_mls, ix_fls, ix_box, sl_tup, sl_lst, sl_mls, sl_fls, sl_scr, b_add, b_sub, c_lt, c_le, c_gt, c_ge, c_eq, c_ne, c_eqB, c_neB, c_isN, c_notN, i_int, i_intB, i_abs, i_max, i_min, l_lst, l_tup, l_mls, l_fls, li_lst, li_tup, li_fls, tu_lst, tu_tup, tu_fls, tu_mls, su_2, frzM, getM, isS, subM, isNil, isNon, Gb.start, Option.bind_some, Option.bind_none, Option.map_some, Option.map_none, id_eq, List.getElem?_cons_zero, List.getElem?_cons_succ, List.getElem?_nil, List.set_cons_zero, List.set_cons_succ, List.map_cons, List.map_nil, List.length_cons, List.length_nil, List.cons_append, List.nil_append, List.replicate_succ, List.replicate_zero, Nat.reduceSub, Nat.reduceAdd, Nat.zero_add, Nat.reduceLT, if_true, if_false, reduceIte, Bool.false_eq_true, Bool.not_true, Bool.not_false, Bool.not_not, decide_true, decide_false, decide_not, is0_non, is0_bl, is0_int, is0_str, is0_tup, is0_lst, is0_mls, is0_fls, is1_non, is1_bl, is1_int, is1_str, is1_tup, is1_lst, is1_mls, is1_fls, is2_non, is2_bl, is2_int, is2_str, is2_tup, is2_lst, is2_mls, is2_fls, is3_non, is3_bl, is3_int, is3_str, is3_tup, is3_lst, is3_mls, is3_fls, is4_non, is4_bl, is4_int, is4_str, is4_tup, is4_lst, is4_mls, is4_fls, is5_non, is5_bl, is5_int, is5_str, is5_tup, is5_lst, is5_mls, is5_fls, is6_non, is6_bl, is6_int, is6_str, is6_tup, is6_lst, is6_mls, is6_fls, is7_non, is7_bl, is7_int, is7_str, is7_tup, is7_lst, is7_mls, is7_fls, beq_self_eq_true, Bool.true_beq, Bool.false_beq, Bool.and_true, Bool.true_and, Bool.and_false, Bool.false_and, Bool.or_true, Bool.true_or, Bool.or_false, Bool.false_or, wipeE, if_sz, rngOk_t]
  generalize hr : forL _ _ _ _ = w
  let P : List D → Env → Store → Prop := fun ds ρ st' => ∃ (i : Nat) (a b c e : Option D), i + ds.length = m ∧ ρ = [some (.tup [.int p, .int q, .int r]), some (.int s), some (.int (m : Nat)), some (.mls (rowsD p q r s i)), a, b, c, e] ∧ st' = st ∧ ∀ d ∈ ds, ∃ z : Int, d = .int z
  obtain ⟨ρ', st', rfl, i, a, b, c, e, hi, rfl, rfl, _⟩ : ∃ ρ' st', w = .nx ρ' st' ∧ P [] ρ' st' := by
    rw [← hr]
    refine forL_run P ?_ _ _ _ ?_
    · rintro d ds ρ st' ⟨i, a, b, c, e, hi, rfl, rfl, h3⟩
      obtain ⟨z, rfl⟩ := h3 d List.mem_cons_self
      rw [List.length_cons] at hi
      have hl := rowsD_len p q r s i
      obtain ⟨x, y, hxy⟩ : ∃ x y, itr p q r s i = (x, y) := ⟨_, _, rfl⟩
      have hs := rowsD_succ p q r s i
      rw [hxy] at hs
      unfold stp at hs
      by_cases hle : nxt p q r y ≤ x
      · rw [if_pos hle] at hs
        unfold nxt at hle hs
        simp (disch := omega) only [evE, evA, evs, evs', evI, evsP, exS, bind_ok, bind_ex, bind_bad, so_ok, so_ex, so_bad, then_nx, then_rt, then_bk, then_ex, then_bad, lift_some, lift_none, soE_some', soE_none, noEx_ok, p_nm, p_tup, p_lst, pN_nil, pN_cons, p_frz, p_fls, p_int, p_bl, p_non, p_tupm, p_lstm, f_int, f_bl, f_str, f_non, f_tup, f_lst, f_fls, f_box, f_scr, u_int, u_bl, u_str, u_non, u_tup, u_lst, u_fls, t_bl, t_non, t_int, t_tup, t_lst, t_mls, t_fls, bd_int, bk_fls, bk_flsb, bk_int, bk_bl, bk_non, bk_str, bk_tup, bk_lst, bk_box, back_rt, back_nx, back_ex, idx_int, ix_tup, ix_lst, ix_mls, ix_fls, ix_box, sl_tup, sl_lst, sl_mls, sl_fls, sl_scr, b_add, b_sub, c_lt, c_le, c_gt, c_ge, c_eq, c_ne, c_eqB, c_neB, c_isN, c_notN, i_int, i_intB, i_abs, i_max, i_min, l_lst, l_tup, l_mls, l_fls, li_lst, li_tup, li_fls, tu_lst, tu_tup, tu_fls, tu_mls, su_2, frzM, getM, isS, subM, isNil, isNon, Gb.start, Option.bind_some, Option.bind_none, Option.map_some, Option.map_none, id_eq, List.getElem?_cons_zero, List.getElem?_cons_succ, List.getElem?_nil, List.set_cons_zero, List.set_cons_succ, List.map_cons, List.map_nil, List.length_cons, List.length_nil, List.cons_append, List.nil_append, List.replicate_succ, List.replicate_zero, Nat.reduceSub, Nat.reduceAdd, Nat.zero_add, Nat.reduceLT, if_true, if_false, reduceIte, Bool.false_eq_true, Bool.not_true, Bool.not_false, Bool.not_not, decide_true, decide_false, decide_not, is0_non, is0_bl, is0_int, is0_str, is0_tup, is0_lst, is0_mls, is0_fls, is1_non, is1_bl, is1_int, is1_str, is1_tup, is1_lst, is1_mls, is1_fls, is2_non, is2_bl, is2_int, is2_str, is2_tup, is2_lst, is2_mls, is2_fls, is3_non, is3_bl, is3_int, is3_str, is3_tup, is3_lst, is3_mls, is3_fls, is4_non, is4_bl, is4_int, is4_str, is4_tup, is4_lst, is4_mls, is4_fls, is5_non, is5_bl, is5_int, is5_str, is5_tup, is5_lst, is5_mls, is5_fls, is6_non, is6_bl, is6_int, is6_str, is6_tup, is6_lst, is6_mls, is6_fls, is7_non, is7_bl, is7_int, is7_str, is7_tup, is7_lst, is7_mls, is7_fls, beq_self_eq_true, Bool.true_beq, Bool.false_beq, Bool.and_true, Bool.true_and, Bool.and_false, Bool.false_and, Bool.or_true, Bool.true_or, Bool.or_false, Bool.false_or, wipeE, rows_last, encR, hxy, b_mull, b_fdiv, at3_0, at3_1, at3_2, hle, if_sz, if_szl, hl]
        refine ⟨_, _, rfl, i + 1, some (.int z), some (.int (p * y / q + r)), some (.int x), some (.int y), by omega, ?_, rfl, fun d hd => h3 d (List.mem_cons_of_mem _ hd)⟩
        rw [hs]
        rfl
      · rw [if_neg hle] at hs
        unfold nxt at hle hs
        simp (disch := omega) only [evE, evA, evs, evs', evI, evsP, exS, bind_ok, bind_ex, bind_bad, so_ok, so_ex, so_bad, then_nx, then_rt, then_bk, then_ex, then_bad, lift_some, lift_none, soE_some', soE_none, noEx_ok, p_nm, p_tup, p_lst, pN_nil, pN_cons, p_frz, p_fls, p_int, p_bl, p_non, p_tupm, p_lstm, f_int, f_bl, f_str, f_non, f_tup, f_lst, f_fls, f_box, f_scr, u_int, u_bl, u_str, u_non, u_tup, u_lst, u_fls, t_bl, t_non, t_int, t_tup, t_lst, t_mls, t_fls, bd_int, bk_fls, bk_flsb, bk_int, bk_bl, bk_non, bk_str, bk_tup, bk_lst, bk_box, back_rt, back_nx, back_ex, idx_int, ix_tup, ix_lst, ix_mls, ix_fls, ix_box, sl_tup, sl_lst, sl_mls, sl_fls, sl_scr, b_add, b_sub, c_lt, c_le, c_gt, c_ge, c_eq, c_ne, c_eqB, c_neB, c_isN, c_notN, i_int, i_intB, i_abs, i_max, i_min, l_lst, l_tup, l_mls, l_fls, li_lst, li_tup, li_fls, tu_lst, tu_tup, tu_fls, tu_mls, su_2, frzM, getM, isS, subM, isNil, isNon, Gb.start, Option.bind_some, Option.bind_none, Option.map_some, Option.map_none, id_eq, List.getElem?_cons_zero, List.getElem?_cons_succ, List.getElem?_nil, List.set_cons_zero, List.set_cons_succ, List.map_cons, List.map_nil, List.length_cons, List.length_nil, List.cons_append, List.nil_append, List.replicate_succ, List.replicate_zero, Nat.reduceSub, Nat.reduceAdd, Nat.zero_add, Nat.reduceLT, if_true, if_false, reduceIte, Bool.false_eq_true, Bool.not_true, Bool.not_false, Bool.not_not, decide_true, decide_false, decide_not, is0_non, is0_bl, is0_int, is0_str, is0_tup, is0_lst, is0_mls, is0_fls, is1_non, is1_bl, is1_int, is1_str, is1_tup, is1_lst, is1_mls, is1_fls, is2_non, is2_bl, is2_int, is2_str, is2_tup, is2_lst, is2_mls, is2_fls, is3_non, is3_bl, is3_int, is3_str, is3_tup, is3_lst, is3_mls, is3_fls, is4_non, is4_bl, is4_int, is4_str, is4_tup, is4_lst, is4_mls, is4_fls, is5_non, is5_bl, is5_int, is5_str, is5_tup, is5_lst, is5_mls, is5_fls, is6_non, is6_bl, is6_int, is6_str, is6_tup, is6_lst, is6_mls, is6_fls, is7_non, is7_bl, is7_int, is7_str, is7_tup, is7_lst, is7_mls, is7_fls, beq_self_eq_true, Bool.true_beq, Bool.false_beq, Bool.and_true, Bool.true_and, Bool.and_false, Bool.false_and, Bool.or_true, Bool.true_or, Bool.or_false, Bool.false_or, wipeE, rows_last, encR, hxy, b_mull, b_fdiv, at3_0, at3_1, at3_2, hle, if_sz, if_szl, hl]
        refine ⟨_, _, rfl, i + 1, some (.int z), some (.int (p * y / q + r)), some (.int x), some (.int y), by omega, ?_, rfl, fun d hd => h3 d (List.mem_cons_of_mem _ hd)⟩
        rw [hs]
        rfl
    · exact ⟨0, _, _, _, _, by rw [rng0_len]; omega, rfl, rfl, fun d hd => by obtain ⟨i, _, e⟩ := rng0_mem hd; exact ⟨_, e⟩⟩
  simp (disch := omega) only [evE, evA, evs, evs', evI, evsP, exS, bind_ok, bind_ex, bind_bad, so_ok, so_ex, so_bad, then_nx, then_rt, then_bk, then_ex, then_bad, lift_some, lift_none, soE_some', soE_none, noEx_ok, p_nm, p_tup, p_lst, pN_nil, pN_cons, p_frz, p_fls, p_int, p_bl, p_non, p_tupm, p_lstm, f_int, f_bl, f_str, f_non, f_tup, f_lst, f_fls, f_box, f_scr, u_int, u_bl, u_str, u_non, u_tup, u_lst, u_fls, t_bl, t_non, t_int, t_tup, t_lst, t_mls, t_fls, bd_int, bk_fls, bk_flsb, bk_int, bk_bl, bk_non, bk_str, bk_tup, bk_lst, bk_box, back_rt, back_nx, back_ex, idx_int, ix_tup, ix_lst, ix_mls, ix_fls, ix_box, sl_tup, sl_lst, sl_mls, sl_fls, sl_scr, b_add, b_sub, c_lt, c_le, c_gt, c_ge, c_eq, c_ne, c_eqB, c_neB, c_isN, c_notN, i_int, i_intB, i_abs, i_max, i_min, l_lst, l_tup, l_mls, l_fls, li_lst, li_tup, li_fls, tu_lst, tu_tup, tu_fls, tu_mls, su_2, frzM, getM, isS, subM, isNil, isNon, Gb.start, Option.bind_some, Option.bind_none, Option.map_some, Option.map_none, id_eq, List.getElem?_cons_zero, List.getElem?_cons_succ, List.getElem?_nil, List.set_cons_zero, List.set_cons_succ, List.map_cons, List.map_nil, List.length_cons, List.length_nil, List.cons_append, List.nil_append, List.replicate_succ, List.replicate_zero, Nat.reduceSub, Nat.reduceAdd, Nat.zero_add, Nat.reduceLT, if_true, if_false, reduceIte, Bool.false_eq_true, Bool.not_true, Bool.not_false, Bool.not_not, decide_true, decide_false, decide_not, is0_non, is0_bl, is0_int, is0_str, is0_tup, is0_lst, is0_mls, is0_fls, is1_non, is1_bl, is1_int, is1_str, is1_tup, is1_lst, is1_mls, is1_fls, is2_non, is2_bl, is2_int, is2_str, is2_tup, is2_lst, is2_mls, is2_fls, is3_non, is3_bl, is3_int, is3_str, is3_tup, is3_lst, is3_mls, is3_fls, is4_non, is4_bl, is4_int, is4_str, is4_tup, is4_lst, is4_mls, is4_fls, is5_non, is5_bl, is5_int, is5_str, is5_tup, is5_lst, is5_mls, is5_fls, is6_non, is6_bl, is6_int, is6_str, is6_tup, is6_lst, is6_mls, is6_fls, is7_non, is7_bl, is7_int, is7_str, is7_tup, is7_lst, is7_mls, is7_fls, beq_self_eq_true, Bool.true_beq, Bool.false_beq, Bool.and_true, Bool.true_and, Bool.and_false, Bool.false_and, Bool.or_true, Bool.true_or, Bool.or_false, Bool.false_or, wipeE]
  have : i = m := by simpa using hi
  rw [this]
/-- the places, from the second row on -/
def plc (p q r s : Int) (m : Nat) : List Int := (List.range m).map fun j => (itr p q r s (j + 1)).1
theorem plc_len (p q r s : Int) (m : Nat) : (plc p q r s m).length = m := by unfold plc; simp
theorem rows_tail (m : Nat) : (rowsD p q r s m).drop 1 = (List.range m).map fun j => encR (itr p q r s (j + 1)) := by
  have e : rowsD p q r s m = (List.range (m + 1)).map fun j => encR (itr p q r s j) := by
    unfold rowsD
    rw [List.range_succ, List.map_append]
    rfl
  rw [e, List.range_succ_eq_map, List.map_cons, List.drop_succ_cons, List.drop_zero, List.map_map]
  rfl
def fstD : D → D
  | .tup (x :: _) => x
  | d => d
theorem plc_map (m : Nat) : ((List.range m).map fun j => encR (itr p q r s (j + 1))).map fstD = (plc p q r s m).map .int := by
  unfold plc
  rw [List.map_map, List.map_map]
  rfl
end
end Gb

/-! Stays and cells: pairs, what they cover. -/
namespace Gb
open PySem
def f128_law_posts : Fn := ⟨3, 7,
    (.seq (.par [(4, true), (5, false)] (.cons (.lst .nil) (.cons (.con (.int 0)) .nil)))
    (.seq (.for (.nm 3 false) (.rng1 (.call 7 (.cons (.var 0) (.cons (.bin .add (.var 1) (.con (.int 1))) .nil)))) (.seq (.asg (.nm 5 false) (.bin .add (.var 5) (.call 7 (.cons (.var 0) (.cons (.bin .add (.var 2) (.con (.int 1))) .nil)))))
    (.seq (.asg (.nm 6 false) (.bin .add (.con (.int 1)) (.call 7 (.cons (.var 0) (.cons (.con (.int 4)) .nil)))))
    (.seq (.app 4 (.tup (.cons (.var 5) (.cons (.var 6) .nil))))
    (.asg (.nm 5 false) (.bin .add (.var 5) (.var 6)))))))
    (.ret (.bi .tuple (.cons (.var 4) .nil))))), false⟩
def f129_law_border : Fn := ⟨1, 1,
    (.ret (.ite (.cmp .ne (.var 0) (.tup .nil)) (.bi .sum (.cons (.idx (.var 0) (.neg (.con (.int 1)))) .nil)) (.con (.int 0)))), false⟩
def f80_law_filled : Fn := ⟨2, 6,
    (.seq (.asg (.nm 2 true) (.bin .mul (.lst (.cons (.con (.bl false)) .nil)) (.var 1)))
    (.seq (.for (.tp [(3, false), (4, false)]) (.seq (.var 0)) (.for (.nm 5 false) (.rng2 (.var 3) (.bin .add (.var 3) (.var 4))) (.sub 2 (.var 5) (.con (.bl true)))))
    (.seq (.frz 2)
    (.ret (.var 2))))), false⟩
/-! ### plain data as the model's data -/
mutual
theorem toP_pl : ∀ {k : Nat} {d : D}, plD k d = true → ∃ e, toP d = some e ∧ e.canLay0 = true ∧ e.depth ≤ k
  | _, .non, _ => ⟨_, rfl, rfl, Nat.zero_le _⟩
  | _, .bl b, _ => ⟨_, rfl, rfl, Nat.zero_le _⟩
  | _, .int i, _ => ⟨_, rfl, rfl, Nat.zero_le _⟩
  | k, .str s, h => ⟨.str s, rfl, by
      have h2 : SeqAt.shaped (.str s) = true := by cases k <;> exact h
      unfold SeqAt.shaped at h2
      exact (Bool.and_eq_true_iff.mp h2).1, Nat.zero_le _⟩
  | 0, .tup xs, h => by cases h
  | 0, .lst xs, h => by cases h
  | k + 1, .tup xs, h => by
    obtain ⟨es, e1, e2, e3, _⟩ := toPs_pl (k := k) (xs := xs) (Bool.and_eq_true_iff.mp h).1
    exact ⟨.tuple es, by rw [toP, e1]; rfl, e2, Nat.succ_le_succ e3⟩
  | k + 1, .lst xs, h => by
    obtain ⟨es, e1, e2, e3, _⟩ := toPs_pl (k := k) (xs := xs) (Bool.and_eq_true_iff.mp h).1
    exact ⟨.list es, by rw [toP, e1]; rfl, e2, Nat.succ_le_succ e3⟩
  | k, .scr _, h => by cases k <;> cases h
  | k, .mls _, h => by cases k <;> cases h
  | k, .fls _, h => by cases k <;> cases h
  | k, .box _, h => by cases k <;> cases h
theorem toPs_pl : ∀ {k : Nat} {xs : List D}, xs.all (plD k) = true → ∃ es, toPs xs = some es ∧ PyData.canLayAll0 es = true ∧ PyData.depthAll es ≤ k ∧ es.length = xs.length
  | _, [], _ => ⟨[], rfl, rfl, Nat.zero_le _, rfl⟩
  | k, x :: xs, h => by
    rw [List.all_cons, Bool.and_eq_true] at h
    obtain ⟨e, e1, e2, e3⟩ := toP_pl h.1
    obtain ⟨es, f1, f2, f3, f4⟩ := toPs_pl h.2
    refine ⟨e :: es, by rw [toPs, e1, f1], ?_, ?_, by rw [List.length_cons, List.length_cons, f4]⟩
    · show (e.canLay0 && PyData.canLayAll0 es) = true
      rw [e2, f2]; rfl
    · show max e.depth (PyData.depthAll es) ≤ k
      omega
end
theorem eqv_nil : ∀ es : List PyData, PyData.eqvAll es [] = es.isEmpty
  | [] => rfl
  | e :: es => rfl
theorem shp {e : List PyData} {k : Nat} (h1 : PyData.canLayAll0 e = true) (h2 : PyData.depthAll e ≤ k) (hk : k < 64) : SeqAt.shaped (.tuple e) = true ∧ SeqAt.shaped (.list e) = true := by
  constructor
  · show (PyData.canLayAll0 e && decide (PyData.depthAll e + 1 ≤ 64)) = true
    rw [h1, decide_eq_true (by omega)]; rfl
  · show (PyData.canLayAll0 e && decide (PyData.depthAll e + 1 ≤ 64)) = true
    rw [h1, decide_eq_true (by omega)]; rfl
theorem c_emT {k : Nat} {xs : List D} (h : xs.all (plD k) = true) (hk : k < 64) : cmpD .eq (.tup xs) (.tup []) = some xs.isEmpty := by
  obtain ⟨es, e1, e2, e3, e4⟩ := toPs_pl h
  show eqP (.tup xs) (.tup []) = _
  unfold eqP
  simp only [toP, toPs, e1, Option.map_some, (shp e2 e3 hk).1, Bool.true_and]
  rw [if_pos (show SeqAt.shaped (.tuple []) = true from rfl)]
  show some (PyData.eqvAll es []) = _
  rw [eqv_nil]
  cases es <;> cases xs <;> first | rfl | cases e4
theorem c_neT {k : Nat} {xs : List D} (h : xs.all (plD k) = true) (hk : k < 64) : cmpD .ne (.tup xs) (.tup []) = some (!xs.isEmpty) := by
  show (cmpD .eq (.tup xs) (.tup [])).map (!·) = _
  rw [c_emT h hk]; rfl
theorem c_emL {k : Nat} {x : D} {xs : List D} (hx : asL x = some xs) (h : xs.all (plD k) = true) (hk : k < 64) : cmpD .eq x (.fls []) = some xs.isEmpty := by
  obtain ⟨es, e1, e2, e3, e4⟩ := toPs_pl h
  show eqP x (.fls []) = _
  have ht : toP x = some (.list es) := by
    cases x <;> first | cases hx; done | (cases hx; rw [toP, e1]; rfl)
  unfold eqP
  simp only [ht, toP, toPs, Option.map_some, (shp e2 e3 hk).2, Bool.true_and]
  rw [if_pos (show SeqAt.shaped (.list []) = true from rfl)]
  show some (PyData.eqvAll es []) = _
  rw [eqv_nil]
  cases es <;> cases xs <;> first | rfl | cases e4
theorem c_neL {k : Nat} {x : D} {xs : List D} (hx : asL x = some xs) (h : xs.all (plD k) = true) (hk : k < 64) : cmpD .ne x (.fls []) = some (!xs.isEmpty) := by
  show (cmpD .eq x (.fls [])).map (!·) = _
  rw [c_emL hx h hk]; rfl

/-! ### pairs -/
abbrev Prs := List (Int × Int)
def encC (c : Int × Int) : D := .tup [.int c.1, .int c.2]
def encP (L : Prs) : List D := L.map encC
theorem encP_pl (L : Prs) : (encP L).all (plD 1) = true := by
  refine List.all_eq_true.mpr fun d hd => ?_
  obtain ⟨c, _, rfl⟩ := List.mem_map.mp hd
  rfl
theorem encP_len (L : Prs) : (encP L).length = L.length := List.length_map _
theorem plP {L : Prs} (h : L.length ≤ 10000) : plD 2 (.tup (encP L)) = true := by
  show ((encP L).all (plD 1) && decide ((encP L).length ≤ 10000)) = true
  rw [encP_pl, encP_len, decide_eq_true h]; rfl
theorem plP' {L : Prs} (h : L.length ≤ 10000) : plD 2 (.lst (encP L)) = true := by
  show ((encP L).all (plD 1) && decide ((encP L).length ≤ 10000)) = true
  rw [encP_pl, encP_len, decide_eq_true h]; rfl
theorem encP_app (A B : Prs) : encP (A ++ B) = encP A ++ encP B := List.map_append
theorem encP_emp (A : Prs) : (encP A).isEmpty = A.isEmpty := by cases A <;> rfl
/-- the cell is one of theirs -/
def cov (L : Prs) (k : Int) : Bool := L.any fun c => decide (c.1 ≤ k) && decide (k < c.1 + c.2)
theorem cov_nil (k : Int) : cov [] k = false := rfl
theorem cov_cons (c : Int × Int) (L : Prs) (k : Int) : cov (c :: L) k = (decide (c.1 ≤ k ∧ k < c.1 + c.2) || cov L k) := by
  unfold cov
  rw [List.any_cons]
  simp
theorem cov_app (A B : Prs) (k : Int) : cov (A ++ B) k = (cov A k || cov B k) := List.any_append
theorem cov_iff (L : Prs) (k : Int) : cov L k = true ↔ ∃ c ∈ L, c.1 ≤ k ∧ k < c.1 + c.2 := by
  unfold cov
  rw [List.any_eq_true]
  simp
/-- one behind another, each of a cell or more -/
def Srt : Int → Prs → Prop
  | _, [] => True
  | h, c :: r => h ≤ c.1 ∧ 1 ≤ c.2 ∧ Srt (c.1 + c.2) r
/-- where the last one ends -/
def endP : Int → Prs → Int
  | h, [] => h
  | _, c :: r => endP (c.1 + c.2) r
theorem Srt.snoc : ∀ {L : Prs} {h : Int} {c : Int × Int}, Srt h L → endP h L ≤ c.1 → 1 ≤ c.2 → Srt h (L ++ [c]) ∧ endP h (L ++ [c]) = c.1 + c.2
  | [], h, c, _, h1, h2 => ⟨⟨h1, h2, trivial⟩, rfl⟩
  | a :: L, h, c, hs, h1, h2 => by
    obtain ⟨q1, q2⟩ := Srt.snoc hs.2.2 h1 h2
    exact ⟨⟨hs.1, hs.2.1, q1⟩, q2⟩
theorem Srt.endP_le : ∀ {L : Prs} {h : Int}, Srt h L → h ≤ endP h L
  | [], h, _ => Int.le_refl _
  | a :: L, h, hs => by
    have := Srt.endP_le hs.2.2
    have h1 := hs.1
    have h2 := hs.2.1
    show h ≤ endP (a.1 + a.2) L
    omega
theorem Srt.mem : ∀ {L : Prs} {h : Int}, Srt h L → ∀ c ∈ L, h ≤ c.1 ∧ 1 ≤ c.2 ∧ c.1 + c.2 ≤ endP h L
  | [], h, _, c, hc => by cases hc
  | a :: L, h, hs, c, hc => by
    have h1 := hs.1
    have h2 := hs.2.1
    rcases List.mem_cons.mp hc with rfl | hc
    · exact ⟨h1, h2, Srt.endP_le hs.2.2⟩
    · obtain ⟨q1, q2, q3⟩ := Srt.mem hs.2.2 c hc
      exact ⟨by omega, q2, q3⟩
section
variable {FT : Nat → Option Fn} {n k : Nat} {st : Store}
theorem su_pair {i j : Int} : biD .sum [.tup [.int i, .int j]] = some (.int (i + j)) := su_2
/-- stays are drawn -/
theorem posts_ok {K : Nat} (h7 : FT 7 = some f7_law_take) (h128 : FT 128 = some f128_law_posts) {j m most : Nat} {gap : Int} (hT : Tin st j m) (hm : m + 1000 < 2 ^ 61) (hmost : most ≤ 100) (g0 : 0 ≤ gap) (g1 : gap ≤ 1000) (hk : 2 ≤ K) :
    ∃ (L : Prs) (st' : Store), callN FT n K 128 [.box j, .int (most : Nat), .int gap] st = .ok (.tup (encP L)) st' ∧ Srt 0 L ∧ L.length ≤ most ∧ endP 0 L ≤ L.length * (gap + 4) ∧ Tin st' j (m + 1 + 2 * most) := by
  obtain ⟨k, rfl⟩ : ∃ k, K = k + 2 := ⟨K - 2, by omega⟩
  obtain ⟨z, st1, e1, z0, z1, T1⟩ := take_ok (n := n) (K := k + 1) h7 hT (by omega) (top := (most : Int) + 1) (by omega) (by omega) (by omega)
  rw [callN, h128]
  simp (disch := omega) only [f128_law_posts, evE, evA, evs, evs', evI, evsP, exS, bind_ok, bind_ex, bind_bad, so_ok, so_ex, so_bad, then_nx, then_rt, then_bk, then_ex, then_bad, lift_some, lift_none, soE_some', soE_none, noEx_ok, p_nm, p_tup, p_lst, pN_nil, pN_cons, p_frz, p_fls, p_int, p_bl, p_non, p_tupm, p_lstm, f_int, f_bl, f_str, f_non, f_tup, f_lst, f_fls, f_box, f_scr, u_int, u_bl, u_str, u_non, u_tup, u_lst, u_fls, t_bl, t_non, t_int, t_tup, t_lst, t_mls, t_fls, bd_int, bk_fls, bk_flsb, bk_int, bk_bl, bk_non, bk_str, bk_tup, bk_lst, bk_box, back_rt, back_nx, back_ex, idx_int, ix_tup, ix_lst, ix_mls, ix_fls, ix_box, sl_tup, sl_lst, sl_mls, sl_fls, sl_scr, b_add, b_sub, c_lt, c_le, c_gt, c_ge, c_eq, c_ne, c_eqB, c_neB, c_isN, c_notN, i_int, i_intB, i_abs, i_max, i_min, l_lst, l_tup, l_mls, l_fls, li_lst, li_tup, li_fls, tu_lst, tu_tup, tu_fls, tu_mls, su_2, frzM, getM, isS, subM, isNil, isNon, Gb.start, Option.bind_some, Option.bind_none, Option.map_some, Option.map_none, id_eq, List.getElem?_cons_zero, List.getElem?_cons_succ, List.getElem?_nil, List.set_cons_zero, List.set_cons_succ, List.map_cons, List.map_nil, List.length_cons, List.length_nil, List.cons_append, List.nil_append, List.replicate_succ, List.replicate_zero, Nat.reduceSub, Nat.reduceAdd, Nat.zero_add, Nat.reduceLT, if_true, if_false, reduceIte, Bool.false_eq_true, Bool.not_true, Bool.not_false, Bool.not_not, decide_true, decide_false, decide_not, is0_non, is0_bl, is0_int, is0_str, is0_tup, is0_lst, is0_mls, is0_fls, is1_non, is1_bl, is1_int, is1_str, is1_tup, is1_lst, is1_mls, is1_fls, is2_non, is2_bl, is2_int, is2_str, is2_tup, is2_lst, is2_mls, is2_fls, is3_non, is3_bl, is3_int, is3_str, is3_tup, is3_lst, is3_mls, is3_fls, is4_non, is4_bl, is4_int, is4_str, is4_tup, is4_lst, is4_mls, is4_fls, is5_non, is5_bl, is5_int, is5_str, is5_tup, is5_lst, is5_mls, is5_fls, is6_non, is6_bl, is6_int, is6_str, is6_tup, is6_lst, is6_mls, is6_fls, is7_non, is7_bl, is7_int, is7_str, is7_tup, is7_lst, is7_mls, is7_fls, beq_self_eq_true, Bool.true_beq, Bool.false_beq, Bool.and_true, Bool.true_and, Bool.and_false, Bool.false_and, Bool.or_true, Bool.true_or, Bool.or_false, Bool.false_or, wipeE, if_sz, e1, rngOk_t]
  generalize hr : forL _ _ _ _ = w
  let P : List D → Env → Store → Prop := fun ds ρ st' => ∃ (L : Prs) (a b : Option D), L.length + ds.length = z.toNat ∧ ρ = [some (.box j), some (.int (most : Nat)), some (.int gap), a, some (.mls (encP L)), some (.int (endP 0 L)), b] ∧ Srt 0 L ∧ endP 0 L ≤ L.length * (gap + 4) ∧ Tin st' j (m + 1 + 2 * L.length) ∧ ∀ d ∈ ds, ∃ z : Int, d = .int z
  obtain ⟨ρ', st', rfl, L, a, b, hl, rfl, hs, he, hT2, _⟩ : ∃ ρ' st', w = .nx ρ' st' ∧ P [] ρ' st' := by
    rw [← hr]
    refine forL_run P ?_ _ _ _ ?_
    · rintro d ds ρ st' ⟨L, a, b, hl, rfl, hs, he, hT2, hd⟩
      obtain ⟨y, rfl⟩ := hd d List.mem_cons_self
      rw [List.length_cons] at hl
      obtain ⟨u, st2, e2, u0, u1, T2⟩ := take_ok (n := n) (K := k + 1) h7 hT2 (by omega) (top := gap + 1) (by omega) (by omega) (by omega)
      obtain ⟨v, st3, e3, v0, v1, T3⟩ := take_ok (n := n) (K := k + 1) h7 T2 (by omega) (top := 4) (by omega) (by omega) (by omega)
      have ll := encP_len L
      obtain ⟨s1, s2⟩ := Srt.snoc (c := (endP 0 L + u, 1 + v)) hs (by show endP 0 L ≤ endP 0 L + u; omega) (by show 1 ≤ 1 + v; omega)
      simp (disch := first | omega | (simp only [List.length_append, List.length_map, List.length_take, List.length_drop, List.length_cons, List.length_nil, List.length_range, List.length_replicate, List.length_set, List.length_zipWith, List.length_reverse]; omega)) only [evE, evA, evs, evs', evI, evsP, exS, bind_ok, bind_ex, bind_bad, so_ok, so_ex, so_bad, then_nx, then_rt, then_bk, then_ex, then_bad, lift_some, lift_none, soE_some', soE_none, noEx_ok, p_nm, p_tup, p_lst, pN_nil, pN_cons, p_frz, p_fls, p_int, p_bl, p_non, p_tupm, p_lstm, f_int, f_bl, f_str, f_non, f_tup, f_lst, f_fls, f_box, f_scr, u_int, u_bl, u_str, u_non, u_tup, u_lst, u_fls, t_bl, t_non, t_int, t_tup, t_lst, t_mls, t_fls, bd_int, bk_fls, bk_flsb, bk_int, bk_bl, bk_non, bk_str, bk_tup, bk_lst, bk_box, back_rt, back_nx, back_ex, idx_int, ix_tup, ix_lst, ix_mls, ix_fls, ix_box, sl_tup, sl_lst, sl_mls, sl_fls, sl_scr, b_add, b_sub, c_lt, c_le, c_gt, c_ge, c_eq, c_ne, c_eqB, c_neB, c_isN, c_notN, i_int, i_intB, i_abs, i_max, i_min, l_lst, l_tup, l_mls, l_fls, li_lst, li_tup, li_fls, tu_lst, tu_tup, tu_fls, tu_mls, su_2, frzM, getM, isS, subM, isNil, isNon, Gb.start, Option.bind_some, Option.bind_none, Option.map_some, Option.map_none, id_eq, List.getElem?_cons_zero, List.getElem?_cons_succ, List.getElem?_nil, List.set_cons_zero, List.set_cons_succ, List.map_cons, List.map_nil, List.length_cons, List.length_nil, List.cons_append, List.nil_append, List.replicate_succ, List.replicate_zero, Nat.reduceSub, Nat.reduceAdd, Nat.zero_add, Nat.reduceLT, if_true, if_false, reduceIte, Bool.false_eq_true, Bool.not_true, Bool.not_false, Bool.not_not, decide_true, decide_false, decide_not, is0_non, is0_bl, is0_int, is0_str, is0_tup, is0_lst, is0_mls, is0_fls, is1_non, is1_bl, is1_int, is1_str, is1_tup, is1_lst, is1_mls, is1_fls, is2_non, is2_bl, is2_int, is2_str, is2_tup, is2_lst, is2_mls, is2_fls, is3_non, is3_bl, is3_int, is3_str, is3_tup, is3_lst, is3_mls, is3_fls, is4_non, is4_bl, is4_int, is4_str, is4_tup, is4_lst, is4_mls, is4_fls, is5_non, is5_bl, is5_int, is5_str, is5_tup, is5_lst, is5_mls, is5_fls, is6_non, is6_bl, is6_int, is6_str, is6_tup, is6_lst, is6_mls, is6_fls, is7_non, is7_bl, is7_int, is7_str, is7_tup, is7_lst, is7_mls, is7_fls, beq_self_eq_true, Bool.true_beq, Bool.false_beq, Bool.and_true, Bool.true_and, Bool.and_false, Bool.false_and, Bool.or_true, Bool.true_or, Bool.or_false, Bool.false_or, wipeE, e2, e3, if_sz, if_szl, ll]
      refine ⟨_, _, rfl, L ++ [(endP 0 L + u, 1 + v)], some (.int y), some (.int (1 + v)), by rw [List.length_append]; simp; omega, ?_, s1, ?_, ?_, fun d h => hd d (List.mem_cons_of_mem _ h)⟩
      · rw [s2, encP_app]; rfl
      · rw [s2, List.length_append, List.length_singleton]
        show endP 0 L + u + (1 + v) ≤ ((L.length + 1 : Nat) : Int) * (gap + 4)
        have : ((L.length + 1 : Nat) : Int) * (gap + 4) = L.length * (gap + 4) + (gap + 4) := by
          rw [show ((L.length + 1 : Nat) : Int) = (L.length : Int) + 1 by omega, Int.add_mul, Int.one_mul]
        omega
      · rw [List.length_append, List.length_singleton]
        exact T3.weak (by omega)
    · exact ⟨[], _, _, by rw [rng0_len]; simp, rfl, trivial, by simp [endP], by simpa using T1, fun d hd => by obtain ⟨i, _, e⟩ := rng0_mem hd; exact ⟨_, e⟩⟩
  simp (disch := omega) only [evE, evA, evs, evs', evI, evsP, exS, bind_ok, bind_ex, bind_bad, so_ok, so_ex, so_bad, then_nx, then_rt, then_bk, then_ex, then_bad, lift_some, lift_none, soE_some', soE_none, noEx_ok, p_nm, p_tup, p_lst, pN_nil, pN_cons, p_frz, p_fls, p_int, p_bl, p_non, p_tupm, p_lstm, f_int, f_bl, f_str, f_non, f_tup, f_lst, f_fls, f_box, f_scr, u_int, u_bl, u_str, u_non, u_tup, u_lst, u_fls, t_bl, t_non, t_int, t_tup, t_lst, t_mls, t_fls, bd_int, bk_fls, bk_flsb, bk_int, bk_bl, bk_non, bk_str, bk_tup, bk_lst, bk_box, back_rt, back_nx, back_ex, idx_int, ix_tup, ix_lst, ix_mls, ix_fls, ix_box, sl_tup, sl_lst, sl_mls, sl_fls, sl_scr, b_add, b_sub, c_lt, c_le, c_gt, c_ge, c_eq, c_ne, c_eqB, c_neB, c_isN, c_notN, i_int, i_intB, i_abs, i_max, i_min, l_lst, l_tup, l_mls, l_fls, li_lst, li_tup, li_fls, tu_lst, tu_tup, tu_fls, tu_mls, su_2, frzM, getM, isS, subM, isNil, isNon, Gb.start, Option.bind_some, Option.bind_none, Option.map_some, Option.map_none, id_eq, List.getElem?_cons_zero, List.getElem?_cons_succ, List.getElem?_nil, List.set_cons_zero, List.set_cons_succ, List.map_cons, List.map_nil, List.length_cons, List.length_nil, List.cons_append, List.nil_append, List.replicate_succ, List.replicate_zero, Nat.reduceSub, Nat.reduceAdd, Nat.zero_add, Nat.reduceLT, if_true, if_false, reduceIte, Bool.false_eq_true, Bool.not_true, Bool.not_false, Bool.not_not, decide_true, decide_false, decide_not, is0_non, is0_bl, is0_int, is0_str, is0_tup, is0_lst, is0_mls, is0_fls, is1_non, is1_bl, is1_int, is1_str, is1_tup, is1_lst, is1_mls, is1_fls, is2_non, is2_bl, is2_int, is2_str, is2_tup, is2_lst, is2_mls, is2_fls, is3_non, is3_bl, is3_int, is3_str, is3_tup, is3_lst, is3_mls, is3_fls, is4_non, is4_bl, is4_int, is4_str, is4_tup, is4_lst, is4_mls, is4_fls, is5_non, is5_bl, is5_int, is5_str, is5_tup, is5_lst, is5_mls, is5_fls, is6_non, is6_bl, is6_int, is6_str, is6_tup, is6_lst, is6_mls, is6_fls, is7_non, is7_bl, is7_int, is7_str, is7_tup, is7_lst, is7_mls, is7_fls, beq_self_eq_true, Bool.true_beq, Bool.false_beq, Bool.and_true, Bool.true_and, Bool.and_false, Bool.false_and, Bool.or_true, Bool.true_or, Bool.or_false, Bool.false_or, wipeE]
  have hl2 : L.length = z.toNat := by simpa using hl
  exact ⟨L, st', rfl, hs, by omega, he, hT2.weak (by omega)⟩
/-- whether the cells up to far are theirs -/
def fillL (L : Prs) (far : Nat) : List Bool := (List.range far).map fun k => cov L (k : Nat)
theorem b_rep {x : D} {k : Nat} (hk : k ≤ 1000000) : binD .mul (.fls [x]) (.int (k : Nat)) = some (.fls (List.replicate k x)) := by
  show (if (decide (Int.natAbs (k : Nat) < 2 ^ 63) && decide ([x].length * Int.toNat (k : Nat) ≤ sizeLine)) = true then some (D.fls (List.replicate (Int.toNat (k : Nat)) [x]).flatten) else none) = _
  rw [if_pos (by rw [decide_eq_true (by omega), decide_eq_true (by rw [sizeLine_eq]; simp; omega)]; rfl), Int.toNat_natCast]
  congr 2
  induction k with
  | zero => rfl
  | succ k ih => rw [List.replicate_succ, List.flatten_cons, ih (by omega)]; rfl
theorem filled_ok {K : Nat} (h80 : FT 80 = some f80_law_filled) {L : Prs} {d : D} {far : Nat} (hd : d = .tup (encP L) ∨ d = .lst (encP L)) (hb : ∀ c ∈ L, 0 ≤ c.1 ∧ 0 ≤ c.2 ∧ c.1 + c.2 ≤ far) (hfar : far ≤ 1000000) (hk : 1 ≤ K) :
    callN FT n K 80 [d, .int (far : Nat)] st = .ok (.lst ((fillL L far).map .bl)) st := by
  obtain ⟨k, rfl⟩ : ∃ k, K = k + 1 := ⟨K - 1, by omega⟩
  rw [callN, h80]
  rcases hd with rfl | rfl
  all_goals
    simp (disch := omega) only [f80_law_filled, evE, evA, evs, evs', evI, evsP, exS, bind_ok, bind_ex, bind_bad, so_ok, so_ex, so_bad, then_nx, then_rt, then_bk, then_ex, then_bad, lift_some, lift_none, soE_some', soE_none, noEx_ok, p_nm, p_tup, p_lst, pN_nil, pN_cons, p_frz, p_fls, p_int, p_bl, p_non, p_tupm, p_lstm, f_int, f_bl, f_str, f_non, f_tup, f_lst, f_fls, f_box, f_scr, u_int, u_bl, u_str, u_non, u_tup, u_lst, u_fls, t_bl, t_non, t_int, t_tup, t_lst, t_mls, t_fls, bd_int, bk_fls, bk_flsb, bk_int, bk_bl, bk_non, bk_str, bk_tup, bk_lst, bk_box, back_rt, back_nx, back_ex, idx_int, ix_tup, ix_lst, ix_mls, ix_fls, ix_box, sl_tup, sl_lst, sl_mls, sl_fls, sl_scr, b_add, b_sub, c_lt, c_le, c_gt, c_ge, c_eq, c_ne, c_eqB, c_neB, c_isN, c_notN, i_int, i_intB, i_abs, i_max, i_min, l_lst, l_tup, l_mls, l_fls, li_lst, li_tup, li_fls, tu_lst, tu_tup, tu_fls, tu_mls, su_2, frzM, getM, isS, subM, isNil, isNon, Gb.start, Option.bind_some, Option.bind_none, Option.map_some, Option.map_none, id_eq, List.getElem?_cons_zero, List.getElem?_cons_succ, List.getElem?_nil, List.set_cons_zero, List.set_cons_succ, List.map_cons, List.map_nil, List.length_cons, List.length_nil, List.cons_append, List.nil_append, List.replicate_succ, List.replicate_zero, Nat.reduceSub, Nat.reduceAdd, Nat.zero_add, Nat.reduceLT, if_true, if_false, reduceIte, Bool.false_eq_true, Bool.not_true, Bool.not_false, Bool.not_not, decide_true, decide_false, decide_not, is0_non, is0_bl, is0_int, is0_str, is0_tup, is0_lst, is0_mls, is0_fls, is1_non, is1_bl, is1_int, is1_str, is1_tup, is1_lst, is1_mls, is1_fls, is2_non, is2_bl, is2_int, is2_str, is2_tup, is2_lst, is2_mls, is2_fls, is3_non, is3_bl, is3_int, is3_str, is3_tup, is3_lst, is3_mls, is3_fls, is4_non, is4_bl, is4_int, is4_str, is4_tup, is4_lst, is4_mls, is4_fls, is5_non, is5_bl, is5_int, is5_str, is5_tup, is5_lst, is5_mls, is5_fls, is6_non, is6_bl, is6_int, is6_str, is6_tup, is6_lst, is6_mls, is6_fls, is7_non, is7_bl, is7_int, is7_str, is7_tup, is7_lst, is7_mls, is7_fls, beq_self_eq_true, Bool.true_beq, Bool.false_beq, Bool.and_true, Bool.true_and, Bool.and_false, Bool.false_and, Bool.or_true, Bool.true_or, Bool.or_false, Bool.false_or, wipeE, if_sz, b_rep hfar]
    generalize hr : forL _ _ _ _ = w
    let P : List D → Env → Store → Prop := fun ds ρ st' => ∃ (A B : Prs) (a0 a b c : Option D), L = A ++ B ∧ ds = encP B ∧ ρ = [a0, some (.int (far : Nat)), some (.mls ((fillL A far).map .bl)), a, b, c] ∧ st' = st
    obtain ⟨ρ', st', rfl, A, B, a0, a, b, c, e1, e2, rfl, rfl⟩ : ∃ ρ' st', w = .nx ρ' st' ∧ P [] ρ' st' := by
      rw [← hr]
      refine forL_run P ?_ _ _ _ ?_
      · rintro x ds ρ st' ⟨A, B, a0, a, b, c, rfl, e2, rfl, rfl⟩
        cases B with
        | nil => cases e2
        | cons q B =>
          obtain ⟨rfl, rfl⟩ := List.cons.inj e2
          obtain ⟨q0, q1, q2⟩ := hb q (by simp)
          simp (disch := omega) only [evE, evA, evs, evs', evI, evsP, exS, bind_ok, bind_ex, bind_bad, so_ok, so_ex, so_bad, then_nx, then_rt, then_bk, then_ex, then_bad, lift_some, lift_none, soE_some', soE_none, noEx_ok, p_nm, p_tup, p_lst, pN_nil, pN_cons, p_frz, p_fls, p_int, p_bl, p_non, p_tupm, p_lstm, f_int, f_bl, f_str, f_non, f_tup, f_lst, f_fls, f_box, f_scr, u_int, u_bl, u_str, u_non, u_tup, u_lst, u_fls, t_bl, t_non, t_int, t_tup, t_lst, t_mls, t_fls, bd_int, bk_fls, bk_flsb, bk_int, bk_bl, bk_non, bk_str, bk_tup, bk_lst, bk_box, back_rt, back_nx, back_ex, idx_int, ix_tup, ix_lst, ix_mls, ix_fls, ix_box, sl_tup, sl_lst, sl_mls, sl_fls, sl_scr, b_add, b_sub, c_lt, c_le, c_gt, c_ge, c_eq, c_ne, c_eqB, c_neB, c_isN, c_notN, i_int, i_intB, i_abs, i_max, i_min, l_lst, l_tup, l_mls, l_fls, li_lst, li_tup, li_fls, tu_lst, tu_tup, tu_fls, tu_mls, su_2, frzM, getM, isS, subM, isNil, isNon, Gb.start, Option.bind_some, Option.bind_none, Option.map_some, Option.map_none, id_eq, List.getElem?_cons_zero, List.getElem?_cons_succ, List.getElem?_nil, List.set_cons_zero, List.set_cons_succ, List.map_cons, List.map_nil, List.length_cons, List.length_nil, List.cons_append, List.nil_append, List.replicate_succ, List.replicate_zero, Nat.reduceSub, Nat.reduceAdd, Nat.zero_add, Nat.reduceLT, if_true, if_false, reduceIte, Bool.false_eq_true, Bool.not_true, Bool.not_false, Bool.not_not, decide_true, decide_false, decide_not, is0_non, is0_bl, is0_int, is0_str, is0_tup, is0_lst, is0_mls, is0_fls, is1_non, is1_bl, is1_int, is1_str, is1_tup, is1_lst, is1_mls, is1_fls, is2_non, is2_bl, is2_int, is2_str, is2_tup, is2_lst, is2_mls, is2_fls, is3_non, is3_bl, is3_int, is3_str, is3_tup, is3_lst, is3_mls, is3_fls, is4_non, is4_bl, is4_int, is4_str, is4_tup, is4_lst, is4_mls, is4_fls, is5_non, is5_bl, is5_int, is5_str, is5_tup, is5_lst, is5_mls, is5_fls, is6_non, is6_bl, is6_int, is6_str, is6_tup, is6_lst, is6_mls, is6_fls, is7_non, is7_bl, is7_int, is7_str, is7_tup, is7_lst, is7_mls, is7_fls, beq_self_eq_true, Bool.true_beq, Bool.false_beq, Bool.and_true, Bool.true_and, Bool.and_false, Bool.false_and, Bool.or_true, Bool.true_or, Bool.or_false, Bool.false_or, wipeE, encC, rngOk_t]
          generalize hr2 : forL _ _ _ _ = w2
          let P2 : List D → Env → Store → Prop := fun ds ρ st2 => ∃ (i : Nat) (c : Option D), i + ds.length = q.2.toNat ∧ ds = (List.range' i ds.length).map (fun t => .int (q.1 + (t : Nat))) ∧ ρ = [a0, some (.int (far : Nat)), some (.mls ((fillL (A ++ [(q.1, (i : Int))]) far).map .bl)), some (.int q.1), some (.int q.2), c] ∧ st2 = st'
          obtain ⟨ρ2, st2, rfl, i, c2, hi, _, rfl, rfl⟩ : ∃ ρ' st2, w2 = .nx ρ' st2 ∧ P2 [] ρ' st2 := by
            rw [← hr2]
            refine forL_run P2 ?_ _ _ _ ?_
            · rintro y ds ρ st2 ⟨i, c, hi, hds, rfl, rfl⟩
              rw [List.length_cons] at hi hds
              rw [List.range'_succ, List.map_cons] at hds
              obtain ⟨rfl, hds2⟩ := List.cons.inj hds
              have hx : q.1 + (i : Int) = ((q.1.toNat + i : Nat) : Int) := by omega
              have hlt : q.1.toNat + i < (fillL (A ++ [(q.1, (i : Int))]) far).length := by unfold fillL; rw [List.length_map, List.length_range]; omega
              simp (disch := omega) only [evE, evA, evs, evs', evI, evsP, exS, bind_ok, bind_ex, bind_bad, so_ok, so_ex, so_bad, then_nx, then_rt, then_bk, then_ex, then_bad, lift_some, lift_none, soE_some', soE_none, noEx_ok, p_nm, p_tup, p_lst, pN_nil, pN_cons, p_frz, p_fls, p_int, p_bl, p_non, p_tupm, p_lstm, f_int, f_bl, f_str, f_non, f_tup, f_lst, f_fls, f_box, f_scr, u_int, u_bl, u_str, u_non, u_tup, u_lst, u_fls, t_bl, t_non, t_int, t_tup, t_lst, t_mls, t_fls, bd_int, bk_fls, bk_flsb, bk_int, bk_bl, bk_non, bk_str, bk_tup, bk_lst, bk_box, back_rt, back_nx, back_ex, idx_int, ix_tup, ix_lst, ix_mls, ix_fls, ix_box, sl_tup, sl_lst, sl_mls, sl_fls, sl_scr, b_add, b_sub, c_lt, c_le, c_gt, c_ge, c_eq, c_ne, c_eqB, c_neB, c_isN, c_notN, i_int, i_intB, i_abs, i_max, i_min, l_lst, l_tup, l_mls, l_fls, li_lst, li_tup, li_fls, tu_lst, tu_tup, tu_fls, tu_mls, su_2, frzM, getM, isS, subM, isNil, isNon, Gb.start, Option.bind_some, Option.bind_none, Option.map_some, Option.map_none, id_eq, List.getElem?_cons_zero, List.getElem?_cons_succ, List.getElem?_nil, List.set_cons_zero, List.set_cons_succ, List.map_cons, List.map_nil, List.length_cons, List.length_nil, List.cons_append, List.nil_append, List.replicate_succ, List.replicate_zero, Nat.reduceSub, Nat.reduceAdd, Nat.zero_add, Nat.reduceLT, if_true, if_false, reduceIte, Bool.false_eq_true, Bool.not_true, Bool.not_false, Bool.not_not, decide_true, decide_false, decide_not, is0_non, is0_bl, is0_int, is0_str, is0_tup, is0_lst, is0_mls, is0_fls, is1_non, is1_bl, is1_int, is1_str, is1_tup, is1_lst, is1_mls, is1_fls, is2_non, is2_bl, is2_int, is2_str, is2_tup, is2_lst, is2_mls, is2_fls, is3_non, is3_bl, is3_int, is3_str, is3_tup, is3_lst, is3_mls, is3_fls, is4_non, is4_bl, is4_int, is4_str, is4_tup, is4_lst, is4_mls, is4_fls, is5_non, is5_bl, is5_int, is5_str, is5_tup, is5_lst, is5_mls, is5_fls, is6_non, is6_bl, is6_int, is6_str, is6_tup, is6_lst, is6_mls, is6_fls, is7_non, is7_bl, is7_int, is7_str, is7_tup, is7_lst, is7_mls, is7_fls, beq_self_eq_true, Bool.true_beq, Bool.false_beq, Bool.and_true, Bool.true_and, Bool.and_false, Bool.false_and, Bool.or_true, Bool.true_or, Bool.or_false, Bool.false_or, wipeE, hx, List.length_map, ix_nat hlt]
              have el : ((fillL (A ++ [(q.1, (i : Int))]) far).map D.bl).set (q.1.toNat + i) (D.bl true) = (fillL (A ++ [(q.1, ((i + 1 : Nat) : Int))]) far).map .bl := by
                rw [← List.map_set]
                congr 1
                unfold fillL
                refine List.ext_getElem (by simp) fun u h1 h2 => ?_
                rw [List.getElem_set]
                simp only [List.getElem_map, List.getElem_range]
                rw [cov_app, cov_app, cov_cons, cov_cons, cov_nil]
                by_cases e : q.1.toNat + i = u
                · rw [if_pos e]
                  have : decide (q.1 ≤ (u : Int) ∧ (u : Int) < q.1 + ((i + 1 : Nat) : Int)) = true := decide_eq_true (by omega)
                  show true = (_ || (decide (q.1 ≤ (u : Int) ∧ (u : Int) < q.1 + ((i + 1 : Nat) : Int)) || false))
                  rw [this]; simp
                · rw [if_neg e]
                  show (_ || (decide (q.1 ≤ (u : Int) ∧ (u : Int) < q.1 + (i : Int)) || false)) = (_ || (decide (q.1 ≤ (u : Int) ∧ (u : Int) < q.1 + ((i + 1 : Nat) : Int)) || false))
                  have : decide (q.1 ≤ (u : Int) ∧ (u : Int) < q.1 + (i : Int)) = decide (q.1 ≤ (u : Int) ∧ (u : Int) < q.1 + ((i + 1 : Nat) : Int)) := decide_eq_decide.mpr (by omega)
                  rw [this]
              rw [el]
              exact ⟨_, _, rfl, i + 1, _, by omega, hds2, rfl, rfl⟩
            · have el : fillL A far = fillL (A ++ [(q.1, ((0 : Nat) : Int))]) far := by
                unfold fillL
                refine List.map_congr_left fun u _ => ?_
                rw [cov_app, cov_cons, cov_nil]
                have : decide (q.1 ≤ (u : Int) ∧ (u : Int) < q.1 + ((0 : Nat) : Int)) = false := decide_eq_false (by omega)
                show _ = (_ || (decide (q.1 ≤ (u : Int) ∧ (u : Int) < q.1 + ((0 : Nat) : Int)) || false))
                rw [this]; simp
              refine ⟨0, _, ?_, ?_, by rw [← el], rfl⟩
              · unfold rng; rw [List.length_map, List.length_range]; omega
              · unfold rng
                rw [List.length_map, List.length_range, List.range_eq_range']
          have hi2 : i = q.2.toNat := by simpa using hi
          have eq : (q.1, (i : Int)) = q := by rw [hi2]; exact Prod.ext rfl (show ((q.2.toNat : Nat) : Int) = q.2 by omega)
          rw [eq]
          exact ⟨_, _, rfl, A ++ [q], B, _, _, _, _, by simp, rfl, rfl, rfl⟩
      · have el : List.replicate far (D.bl false) = (fillL [] far).map .bl := by
          unfold fillL
          rw [List.map_map]
          refine List.ext_getElem (by simp) fun u h1 h2 => ?_
          simp [cov_nil]
        rw [el]
        exact ⟨[], L, _, _, _, _, rfl, rfl, rfl, rfl⟩
    simp (disch := omega) only [evE, evA, evs, evs', evI, evsP, exS, bind_ok, bind_ex, bind_bad, so_ok, so_ex, so_bad, then_nx, then_rt, then_bk, then_ex, then_bad, lift_some, lift_none, soE_some', soE_none, noEx_ok, p_nm, p_tup, p_lst, pN_nil, pN_cons, p_frz, p_fls, p_int, p_bl, p_non, p_tupm, p_lstm, f_int, f_bl, f_str, f_non, f_tup, f_lst, f_fls, f_box, f_scr, u_int, u_bl, u_str, u_non, u_tup, u_lst, u_fls, t_bl, t_non, t_int, t_tup, t_lst, t_mls, t_fls, bd_int, bk_fls, bk_flsb, bk_int, bk_bl, bk_non, bk_str, bk_tup, bk_lst, bk_box, back_rt, back_nx, back_ex, idx_int, ix_tup, ix_lst, ix_mls, ix_fls, ix_box, sl_tup, sl_lst, sl_mls, sl_fls, sl_scr, b_add, b_sub, c_lt, c_le, c_gt, c_ge, c_eq, c_ne, c_eqB, c_neB, c_isN, c_notN, i_int, i_intB, i_abs, i_max, i_min, l_lst, l_tup, l_mls, l_fls, li_lst, li_tup, li_fls, tu_lst, tu_tup, tu_fls, tu_mls, su_2, frzM, getM, isS, subM, isNil, isNon, Gb.start, Option.bind_some, Option.bind_none, Option.map_some, Option.map_none, id_eq, List.getElem?_cons_zero, List.getElem?_cons_succ, List.getElem?_nil, List.set_cons_zero, List.set_cons_succ, List.map_cons, List.map_nil, List.length_cons, List.length_nil, List.cons_append, List.nil_append, List.replicate_succ, List.replicate_zero, Nat.reduceSub, Nat.reduceAdd, Nat.zero_add, Nat.reduceLT, if_true, if_false, reduceIte, Bool.false_eq_true, Bool.not_true, Bool.not_false, Bool.not_not, decide_true, decide_false, decide_not, is0_non, is0_bl, is0_int, is0_str, is0_tup, is0_lst, is0_mls, is0_fls, is1_non, is1_bl, is1_int, is1_str, is1_tup, is1_lst, is1_mls, is1_fls, is2_non, is2_bl, is2_int, is2_str, is2_tup, is2_lst, is2_mls, is2_fls, is3_non, is3_bl, is3_int, is3_str, is3_tup, is3_lst, is3_mls, is3_fls, is4_non, is4_bl, is4_int, is4_str, is4_tup, is4_lst, is4_mls, is4_fls, is5_non, is5_bl, is5_int, is5_str, is5_tup, is5_lst, is5_mls, is5_fls, is6_non, is6_bl, is6_int, is6_str, is6_tup, is6_lst, is6_mls, is6_fls, is7_non, is7_bl, is7_int, is7_str, is7_tup, is7_lst, is7_mls, is7_fls, beq_self_eq_true, Bool.true_beq, Bool.false_beq, Bool.and_true, Bool.true_and, Bool.and_false, Bool.false_and, Bool.or_true, Bool.true_or, Bool.or_false, Bool.false_or, wipeE]
    have : B = [] := by cases B <;> first | rfl | cases e2
    subst this
    rw [List.append_nil] at e1
    rw [e1]
end
end Gb

/-! Cells in stretches: one list only. -/
namespace Gb
open PySem
/-- stretches with something between each and the next -/
def Can (F : Prs) : Prop := F.Pairwise (fun x y => x.1 + x.2 < y.1) ∧ ∀ x ∈ F, 1 ≤ x.2
theorem Can.tail {a : Int × Int} {F : Prs} (h : Can (a :: F)) : Can F ∧ (∀ k, cov F k = true → a.1 + a.2 < k) ∧ 1 ≤ a.2 := by
  obtain ⟨h1, h2⟩ := h
  obtain ⟨h3, h4⟩ := List.pairwise_cons.mp h1
  refine ⟨⟨h4, fun x hx => h2 x (List.mem_cons_of_mem _ hx)⟩, fun k hk => ?_, h2 a List.mem_cons_self⟩
  obtain ⟨c, hc, c1, c2⟩ := (cov_iff _ _).mp hk
  have := h3 c hc
  omega
theorem cov_head {a : Int × Int} {F : Prs} (h : 1 ≤ a.2) : cov (a :: F) a.1 = true := by
  rw [cov_cons, decide_eq_true (by omega : a.1 ≤ a.1 ∧ a.1 < a.1 + a.2)]; rfl
theorem can_uniq : ∀ {F G : Prs}, Can F → Can G → (∀ k, cov F k = cov G k) → F = G
  | [], [], _, _, _ => rfl
  | [], b :: G, _, hG, h => by
    have := h b.1
    rw [cov_head hG.tail.2.2, cov_nil] at this
    cases this
  | a :: F, [], hF, _, h => by
    have := h a.1
    rw [cov_head hF.tail.2.2, cov_nil] at this
    cases this
  | a :: F, b :: G, hF, hG, h => by
    obtain ⟨f1, f2, f3⟩ := hF.tail
    obtain ⟨g1, g2, g3⟩ := hG.tail
    have low : ∀ {x : Int × Int} {R : Prs} {k : Int}, (∀ k, cov R k = true → x.1 + x.2 < k) → 1 ≤ x.2 → cov (x :: R) k = true → (x.1 ≤ k ∧ k < x.1 + x.2) ∨ x.1 + x.2 < k := fun {x R k} q1 q2 q3 => by
      rw [cov_cons, Bool.or_eq_true, decide_eq_true_eq] at q3
      rcases q3 with q3 | q3
      · exact .inl q3
      · exact .inr (q1 _ q3)
    have e1 : a.1 = b.1 := by
      have p1 := low g2 g3 ((h a.1).symm.trans (cov_head f3))
      have p2 := low f2 f3 ((h b.1).trans (cov_head g3))
      omega
    have e2 : a.2 = b.2 := by
      by_cases q1 : a.2 < b.2
      · have p : cov (b :: G) (a.1 + a.2) = true := by
          rw [cov_cons, decide_eq_true (by omega : b.1 ≤ a.1 + a.2 ∧ a.1 + a.2 < b.1 + b.2)]; rfl
        have p1 := low f2 f3 ((h _).trans p)
        omega
      · by_cases q2 : b.2 < a.2
        · have p : cov (a :: F) (b.1 + b.2) = true := by
            rw [cov_cons, decide_eq_true (by omega : a.1 ≤ b.1 + b.2 ∧ b.1 + b.2 < a.1 + a.2)]; rfl
          have p1 := low g2 g3 ((h _).symm.trans p)
          omega
        · omega
    have e : a = b := Prod.ext e1 e2
    subst e
    congr 1
    refine can_uniq f1 g1 fun k => ?_
    by_cases hk : a.1 + a.2 < k
    · have := h k
      rw [cov_cons, cov_cons, decide_eq_false (by omega : ¬ (a.1 ≤ k ∧ k < a.1 + a.2)), Bool.false_or, Bool.false_or] at this
      exact this
    · have z1 : cov F k = false := by cases q : cov F k <;> first | rfl | exact absurd (f2 k q) hk
      have z2 : cov G k = false := by cases q : cov G k <;> first | rfl | exact absurd (g2 k q) hk
      rw [z1, z2]
theorem can_add {F : Prs} {c : Int × Int} (h : Can F) (h1 : ∀ x ∈ F, x.1 + x.2 < c.1) (h2 : 1 ≤ c.2) : Can (F ++ [c]) := by
  refine ⟨List.pairwise_append.mpr ⟨h.1, List.pairwise_singleton _ _, fun x hx y hy => ?_⟩, fun x hx => ?_⟩
  · rw [List.mem_singleton.mp hy]; exact h1 x hx
  · rcases List.mem_append.mp hx with hx | hx
    · exact h.2 x hx
    · rw [List.mem_singleton.mp hx]; exact h2
theorem can_init {F : Prs} {l : Int × Int} (h : Can (F ++ [l])) : Can F ∧ (∀ x ∈ F, x.1 + x.2 < l.1) ∧ 1 ≤ l.2 := by
  obtain ⟨h1, h2⟩ := h
  obtain ⟨h3, _, h5⟩ := List.pairwise_append.mp h1
  exact ⟨⟨h3, fun x hx => h2 x (List.mem_append_left _ hx)⟩, fun x hx => h5 x hx l List.mem_cons_self, h2 l (List.mem_append_right _ List.mem_cons_self)⟩
theorem can_nil : Can [] := ⟨.nil, fun x hx => by cases hx⟩
theorem cov_one (c : Int × Int) (k : Int) : cov [c] k = decide (c.1 ≤ k ∧ k < c.1 + c.2) := by rw [cov_cons, cov_nil, Bool.or_false]
/-! ### laid together -/
def plnS (F : Prs) (c : Int × Int) : Prs := match F.getLast? with
  | none => [c]
  | some l => if c.1 ≤ l.1 + l.2 then F.dropLast ++ [(l.1, max (l.1 + l.2) (c.1 + c.2) - l.1)] else F ++ [c]
theorem plnS_snoc (G : Prs) (l c : Int × Int) : plnS (G ++ [l]) c = if c.1 ≤ l.1 + l.2 then G ++ [(l.1, max (l.1 + l.2) (c.1 + c.2) - l.1)] else G ++ [l] ++ [c] := by
  unfold plnS
  simp
theorem pln_inv : ∀ {L F : Prs}, Can F → (∀ x ∈ F, ∀ c ∈ L, x.1 ≤ c.1) → L.Pairwise (fun a b => a.1 ≤ b.1) → (∀ c ∈ L, 1 ≤ c.2) → Can (L.foldl plnS F) ∧ ∀ k, cov (L.foldl plnS F) k = (cov F k || cov L k)
  | [], F, h, _, _, _ => ⟨h, fun k => by rw [cov_nil, Bool.or_false]; rfl⟩
  | c :: L, F, h, h1, h2, h3 => by
    obtain ⟨h4, h5⟩ := List.pairwise_cons.mp h2
    have hc := h3 c List.mem_cons_self
    have step : Can (plnS F c) ∧ (∀ x ∈ plnS F c, x.1 ≤ c.1) ∧ ∀ k, cov (plnS F c) k = (cov F k || decide (c.1 ≤ k ∧ k < c.1 + c.2)) := by
      rcases List.eq_nil_or_concat F with rfl | ⟨G, l, rfl⟩
      · refine ⟨⟨List.pairwise_singleton _ _, fun x hx => by rw [List.mem_singleton.mp hx]; exact hc⟩, fun x hx => by rw [List.mem_singleton.mp hx]; exact Int.le_refl _, fun k => ?_⟩
        show cov [c] k = _
        rw [cov_one, cov_nil, Bool.false_or]
      · rw [List.concat_eq_append] at h h1 ⊢
        obtain ⟨g1, g2, g3⟩ := can_init h
        have hl := h1 l (List.mem_append_right _ List.mem_cons_self) c List.mem_cons_self
        rw [plnS_snoc]
        by_cases q : c.1 ≤ l.1 + l.2
        · rw [if_pos q]
          refine ⟨can_add g1 g2 (by show 1 ≤ max (l.1 + l.2) (c.1 + c.2) - l.1; omega), fun x hx => ?_, fun k => ?_⟩
          · rcases List.mem_append.mp hx with hx | hx
            · exact h1 x (List.mem_append_left _ hx) c List.mem_cons_self
            · rw [List.mem_singleton.mp hx]; exact hl
          · rw [cov_app, cov_app, cov_one, cov_one, Bool.or_assoc, ← Bool.decide_or]
            congr 1
            refine decide_eq_decide.mpr ?_
            show (l.1 ≤ k ∧ k < l.1 + (max (l.1 + l.2) (c.1 + c.2) - l.1)) ↔ _
            omega
        · rw [if_neg q]
          refine ⟨can_add h (fun x hx => ?_) hc, fun x hx => ?_, fun k => ?_⟩
          · rcases List.mem_append.mp hx with hx | hx
            · have := g2 x hx; omega
            · rw [List.mem_singleton.mp hx]; omega
          · rcases List.mem_append.mp hx with hx | hx
            · exact h1 x hx c List.mem_cons_self
            · rw [List.mem_singleton.mp hx]; exact Int.le_refl _
          · rw [cov_app, cov_one]
    obtain ⟨s1, s2, s3⟩ := step
    obtain ⟨r1, r2⟩ := pln_inv (L := L) (F := plnS F c) s1 (fun x hx d hd => Int.le_trans (s2 x hx) (h4 d hd)) h5 (fun d hd => h3 d (List.mem_cons_of_mem _ hd))
    refine ⟨r1, fun k => ?_⟩
    show cov (L.foldl plnS (plnS F c)) k = _
    rw [r2, s3, cov_cons, Bool.or_assoc]
/-! ### stretches of filled cells -/
def strS (F : Prs) (k : Int) (b : Bool) : Prs := if b then (match F.getLast? with
  | none => [(k, 1)]
  | some l => if l.1 + l.2 = k then F.dropLast ++ [(l.1, l.2 + 1)] else F ++ [(k, 1)]) else F
theorem strS_snoc (G : Prs) (l : Int × Int) (k : Int) : strS (G ++ [l]) k true = if l.1 + l.2 = k then G ++ [(l.1, l.2 + 1)] else G ++ [l] ++ [(k, 1)] := by
  unfold strS
  simp
def strL : Nat → List Bool → Prs → Prs
  | _, [], F => F
  | i, b :: r, F => strL (i + 1) r (strS F (i : Nat) b)
theorem str_inv : ∀ {B : List Bool} {i : Nat} {F : Prs}, Can F → (∀ x ∈ F, x.1 + x.2 ≤ (i : Nat)) → Can (strL i B F) ∧ ∀ k, cov (strL i B F) k = true ↔ cov F k = true ∨ ∃ j, B[j]? = some true ∧ k = ((i + j : Nat) : Int)
  | [], i, F, h, _ => ⟨h, fun k => by simp [strL]⟩
  | b :: B, i, F, h, h1 => by
    have step : Can (strS F (i : Nat) b) ∧ (∀ x ∈ strS F (i : Nat) b, x.1 + x.2 ≤ ((i + 1 : Nat) : Int)) ∧ ∀ k, cov (strS F (i : Nat) b) k = (cov F k || (b && decide (k = (i : Nat)))) := by
      cases b with
      | false =>
        refine ⟨h, fun x hx => ?_, fun k => ?_⟩
        · have := h1 x hx; omega
        · show cov F k = _
          simp
      | true =>
        rcases List.eq_nil_or_concat F with rfl | ⟨G, l, rfl⟩
        · refine ⟨⟨List.pairwise_singleton _ _, fun x hx => by rw [List.mem_singleton.mp hx]; exact Int.le_refl _⟩, fun x hx => by rw [List.mem_singleton.mp hx]; show ((i : Nat) : Int) + 1 ≤ _; omega, fun k => ?_⟩
          show cov [((i : Nat), 1)] k = _
          rw [cov_one, cov_nil, Bool.false_or, Bool.true_and]
          exact decide_eq_decide.mpr (by show ((i : Nat) : Int) ≤ k ∧ k < ((i : Nat) : Int) + 1 ↔ _; omega)
        · rw [List.concat_eq_append] at h h1 ⊢
          obtain ⟨g1, g2, g3⟩ := can_init h
          have hl := h1 l (List.mem_append_right _ List.mem_cons_self)
          rw [strS_snoc]
          by_cases q : l.1 + l.2 = (i : Nat)
          · rw [if_pos q]
            refine ⟨can_add g1 g2 (by show 1 ≤ l.2 + 1; omega), fun x hx => ?_, fun k => ?_⟩
            · rcases List.mem_append.mp hx with hx | hx
              · have := h1 x (List.mem_append_left _ hx); omega
              · rw [List.mem_singleton.mp hx]; show l.1 + (l.2 + 1) ≤ _; omega
            · rw [cov_app, cov_app, cov_one, cov_one, Bool.or_assoc, Bool.true_and, ← Bool.decide_or]
              congr 1
              refine decide_eq_decide.mpr ?_
              show (l.1 ≤ k ∧ k < l.1 + (l.2 + 1)) ↔ _
              omega
          · rw [if_neg q]
            refine ⟨can_add h (fun x hx => ?_) (Int.le_refl _), fun x hx => ?_, fun k => ?_⟩
            · show x.1 + x.2 < (i : Nat)
              rcases List.mem_append.mp hx with hx | hx
              · have := g2 x hx; omega
              · rw [List.mem_singleton.mp hx]; omega
            · rcases List.mem_append.mp hx with hx | hx
              · have := h1 x hx; omega
              · rw [List.mem_singleton.mp hx]; show ((i : Nat) : Int) + 1 ≤ _; omega
            · rw [cov_app, cov_one, Bool.true_and]
              congr 1
              exact decide_eq_decide.mpr (by show ((i : Nat) : Int) ≤ k ∧ k < ((i : Nat) : Int) + 1 ↔ _; omega)
    obtain ⟨s1, s2, s3⟩ := step
    obtain ⟨r1, r2⟩ := str_inv (B := B) (i := i + 1) s1 s2
    refine ⟨r1, fun k => (r2 k).trans ?_⟩
    rw [s3, Bool.or_eq_true, Bool.and_eq_true, decide_eq_true_eq, or_assoc]
    refine or_congr Iff.rfl ⟨fun z => ?_, fun z => ?_⟩
    · rcases z with ⟨rfl, rfl⟩ | ⟨j, z1, z2⟩
      · exact ⟨0, rfl, by simp⟩
      · exact ⟨j + 1, z1, by rw [z2]; omega⟩
    · obtain ⟨j, z1, z2⟩ := z
      cases j with
      | zero => exact .inl ⟨by simpa using z1, by simpa using z2⟩
      | succ j => exact .inr ⟨j, by simpa using z1, by rw [z2]; omega⟩
theorem fill_str {L : Prs} {far : Nat} (hb : ∀ c ∈ L, 0 ≤ c.1 ∧ c.1 + c.2 ≤ far) : Can (strL 0 (fillL L far) []) ∧ ∀ k, cov (strL 0 (fillL L far) []) k = cov L k := by
  obtain ⟨h1, h2⟩ := str_inv (B := fillL L far) (i := 0) can_nil (fun x hx => by cases hx)
  refine ⟨h1, fun k => Bool.eq_iff_iff.mpr ((h2 k).trans ⟨fun z => ?_, fun z => ?_⟩)⟩
  · rcases z with z | ⟨j, z1, z2⟩
    · cases z
    · unfold fillL at z1
      rw [List.getElem?_map] at z1
      obtain ⟨u, z3, z4⟩ := Option.map_eq_some_iff.mp z1
      obtain ⟨z5, z6⟩ := List.getElem?_eq_some_iff.mp z3
      rw [List.getElem_range] at z6
      rw [z2, Nat.zero_add, z6]
      exact z4
  · obtain ⟨c, hc, c1, c2⟩ := (cov_iff _ _).mp z
    obtain ⟨b1, b2⟩ := hb c hc
    refine .inr ⟨k.toNat, ?_, by omega⟩
    unfold fillL
    rw [List.getElem?_map, List.getElem?_range (by omega), Option.map_some, show ((k.toNat : Nat) : Int) = k by omega, z]
theorem plain_eq {L : Prs} {R : Prs} (hR : Can R) (hs : L.Pairwise (fun a b => a.1 ≤ b.1)) (h1 : ∀ c ∈ L, 1 ≤ c.2) (hc : ∀ k, cov R k = cov L k) : L.foldl plnS [] = R := by
  obtain ⟨p1, p2⟩ := pln_inv (L := L) (F := []) can_nil (fun x hx => by cases hx) hs h1
  exact can_uniq p1 hR fun k => by rw [p2, hc, cov_nil, Bool.false_or]
theorem Srt.pair : ∀ {L : Prs} {h : Int}, Srt h L → L.Pairwise (fun a b => a.1 ≤ b.1) ∧ (∀ c ∈ L, 1 ≤ c.2)
  | [], h, _ => ⟨.nil, fun c hc => by cases hc⟩
  | a :: L, h, hs => by
    obtain ⟨q1, q2⟩ := Srt.pair hs.2.2
    refine ⟨List.pairwise_cons.mpr ⟨fun c hc => ?_, q1⟩, fun c hc => ?_⟩
    · have := (Srt.mem hs.2.2 c hc).1
      have := hs.2.1
      omega
    · rcases List.mem_cons.mp hc with rfl | hc
      · exact hs.2.1
      · exact q2 c hc
theorem Can.pair {F : Prs} (h : Can F) : F.Pairwise (fun a b => a.1 ≤ b.1) ∧ (∀ c ∈ F, 1 ≤ c.2) := by
  refine ⟨?_, h.2⟩
  obtain ⟨h1, h2⟩ := h
  induction F with
  | nil => exact .nil
  | cons a F ih =>
    obtain ⟨h3, h4⟩ := List.pairwise_cons.mp h1
    refine List.pairwise_cons.mpr ⟨fun c hc => ?_, ih h4 fun x hx => h2 x (List.mem_cons_of_mem _ hx)⟩
    have := h3 c hc
    have := h2 a List.mem_cons_self
    omega
theorem leP_srt (L : Prs) : (sortB leP L).Pairwise (fun a b => a.1 ≤ b.1) := by
  refine (sortB_srt (le := leP) (fun a b e => ?_) (fun a b c h1 h2 => ?_) L).imp fun {a b} h => ?_
  · unfold leP at e ⊢
    simp at e ⊢
    omega
  · unfold leP at h1 h2 ⊢
    simp at h1 h2 ⊢
    omega
  · unfold leP at h
    simp at h
    omega
theorem cov_perm {A B : Prs} (h : A.Perm B) (k : Int) : cov A k = cov B k := by
  refine Bool.eq_iff_iff.mpr ?_
  rw [cov_iff, cov_iff]
  exact ⟨fun ⟨c, h1, h2⟩ => ⟨c, h.mem_iff.mp h1, h2⟩, fun ⟨c, h1, h2⟩ => ⟨c, h.mem_iff.mpr h1, h2⟩⟩
theorem sort_pairs (L : Prs) {x : D} (hx : asL x = some (encP L)) : biD .sorted [x] = some (.fls (encP (sortB leP L))) := by
  show sortD x = _
  unfold sortD
  rw [hx]
  cases L with
  | nil => rfl
  | cons c L =>
    have h1 : intsD (encP (c :: L)) = none := rfl
    have h2 : ∀ M : Prs, pairs (encP M) = some M := fun M => by
      induction M with
      | nil => rfl
      | cons c M ih =>
        show (pairs (encP M)).map ((c.1, c.2) :: ·) = _
        rw [ih]; rfl
    dsimp only
    rw [h1, h2]
    rfl
end Gb

/-! The lowest place among stays. -/
namespace Gb
open PySem
def f79_law_free : Fn := ⟨3, 6,
    (.seq (.par [(3, false), (4, false)] (.cons (.con (.int 0)) (.cons (.con (.int 0)) .nil)))
    (.seq (.whl (.cmp .lt (.var 4) (.var 1)) (.seq (.asg (.nm 5 false) (.bin .add (.var 3) (.var 4)))
    (.ite (.and (.cmp .lt (.var 5) (.var 2)) (.idx (.var 0) (.var 5))) (.par [(3, false), (4, false)] (.cons (.bin .add (.var 5) (.con (.int 1))) (.cons (.con (.int 0)) .nil))) (.asg (.nm 4 false) (.bin .add (.var 4) (.con (.int 1)))))))
    (.ret (.var 3)))), false⟩
def f137_lowest_place : Fn := ⟨2, 5,
    (.seq (.asg (.nm 2 false) (.con (.int 0)))
    (.seq (.for (.tp [(3, false), (4, false)]) (.seq (.var 0)) (.seq (.ite (.cmp .ge (.bin .sub (.var 3) (.var 2)) (.var 1)) (.ret (.var 2)) .pass)
    (.asg (.nm 2 false) (.bin .add (.var 3) (.var 4)))))
    (.ret (.var 2)))), false⟩
def f138_lowest_beside : Fn := ⟨3, 3,
    (.ret (.call 137 (.cons (.bi .sorted (.cons (.lst (.star (.call 22 (.cons (.var 0) .nil)) (.cons (.call 22 (.cons (.var 1) .nil)) .nil))) .nil)) (.cons (.var 2) .nil)))), false⟩
def f9_law_of : Fn := ⟨2, 2,
    (.ret (.idx (.var 1) (.call 7 (.cons (.var 0) (.cons (.bi .len (.cons (.var 1) .nil)) .nil))))), false⟩
def encCl (c : Int × Int) : D := .lst [.int c.1, .int c.2]
def encQ (L : Prs) : List D := L.map encCl
def RepP (d : D) (L : Prs) : Prop := d = .tup (encP L) ∨ d = .lst (encP L) ∨ d = .lst (encQ L)
theorem RepP.frz {d : D} {L : Prs} (hd : RepP d L) : frzD d = some d := by rcases hd with rfl | rfl | rfl <;> rfl
def RepC (d : D) (c : Int × Int) : Prop := d = encC c ∨ d = encCl c
theorem RepC.frz {d : D} {c : Int × Int} (hd : RepC d c) : frzD d = some d := by rcases hd with rfl | rfl <;> rfl
theorem set_last (A : List D) (x y : D) : (A ++ [x]).set A.length y = A ++ [y] := by simp
theorem at2_0' {x y : D} : L2.atI [x, y] 0 = some x := rfl
theorem at2_1' {x y : D} : L2.atI [x, y] 1 = some y := rfl
theorem sndLast (G : Prs) (l : Int × Int) : encP (G ++ [l]) = encP G ++ [.tup [.int l.1, .int l.2]] := by rw [encP_app]; rfl
/-! ### the lowest place -/
def lowP (size : Int) : Int → Prs → Int
  | h, [] => h
  | h, c :: r => if size ≤ c.1 - h then h else lowP size (c.1 + c.2) r
def IsLow (L : Prs) (size h s : Int) : Prop := h ≤ s ∧ (∀ k, s ≤ k → k < s + size → cov L k = false) ∧ ∀ t, h ≤ t → t < s → ∃ k, t ≤ k ∧ k < t + size ∧ cov L k = true
theorem low_is : ∀ {L : Prs} {h size : Int}, Srt h L → 1 ≤ size → IsLow L size h (lowP size h L)
  | [], h, size, _, _ => ⟨Int.le_refl _, fun k _ _ => rfl, fun t h1 h2 => absurd h2 (by show ¬ t < h; omega)⟩
  | c :: L, h, size, hs, h1 => by
    obtain ⟨s1, s2, s3⟩ := hs
    have above : ∀ k, cov L k = true → c.1 + c.2 ≤ k := fun k hk => by
      obtain ⟨x, hx, x1, x2⟩ := (cov_iff _ _).mp hk
      have := (Srt.mem s3 x hx).1
      omega
    unfold lowP
    by_cases hh : size ≤ c.1 - h
    · rw [if_pos hh]
      refine ⟨Int.le_refl _, fun k k1 k2 => ?_, fun t t1 t2 => by omega⟩
      rw [cov_cons, decide_eq_false (by omega : ¬ (c.1 ≤ k ∧ k < c.1 + c.2)), Bool.false_or]
      cases q : cov L k
      · rfl
      · have := above k q; omega
    · rw [if_neg hh]
      obtain ⟨q1, q2, q3⟩ := low_is s3 h1
      refine ⟨by omega, fun k k1 k2 => ?_, fun t t1 t2 => ?_⟩
      · rw [cov_cons, decide_eq_false (by omega : ¬ (c.1 ≤ k ∧ k < c.1 + c.2)), q2 k k1 k2]; rfl
      · by_cases ht : c.1 + c.2 ≤ t
        · obtain ⟨k, k1, k2, k3⟩ := q3 t ht t2
          exact ⟨k, k1, k2, by rw [cov_cons, k3, Bool.or_true]⟩
        · by_cases hc : c.1 ≤ t
          · exact ⟨t, Int.le_refl _, by omega, by rw [cov_cons, decide_eq_true (by omega : c.1 ≤ t ∧ t < c.1 + c.2)]; rfl⟩
          · exact ⟨c.1, by omega, by omega, by rw [cov_cons, decide_eq_true (by omega : c.1 ≤ c.1 ∧ c.1 < c.1 + c.2)]; rfl⟩
theorem low_uniq {L M : Prs} {size h s t : Int} (hc : ∀ k, cov L k = cov M k) (a : IsLow L size h s) (b : IsLow M size h t) : s = t := by
  obtain ⟨a1, a2, a3⟩ := a
  obtain ⟨b1, b2, b3⟩ := b
  by_cases h1 : s < t
  · obtain ⟨k, k1, k2, k3⟩ := b3 s a1 h1
    rw [← hc, a2 k k1 k2] at k3; cases k3
  · by_cases h2 : t < s
    · obtain ⟨k, k1, k2, k3⟩ := a3 t b1 h2
      rw [hc, b2 k k1 k2] at k3; cases k3
    · omega
theorem low_cov {L M : Prs} {size h s : Int} (hc : ∀ k, cov L k = cov M k) (a : IsLow L size h s) : IsLow M size h s :=
  ⟨a.1, fun k h1 h2 => by rw [← hc]; exact a.2.1 k h1 h2, fun t h1 h2 => by obtain ⟨k, k1, k2, k3⟩ := a.2.2 t h1 h2; exact ⟨k, k1, k2, by rw [← hc]; exact k3⟩⟩
/-- sorted by starts, no two with a cell in common -/
def Dis (a b : Int × Int) : Prop := a.1 + a.2 ≤ b.1 ∨ b.1 + b.2 ≤ a.1
theorem srt_of : ∀ {L : Prs} {h : Int}, L.Pairwise (fun a b => a.1 ≤ b.1) → L.Pairwise Dis → (∀ c ∈ L, h ≤ c.1 ∧ 1 ≤ c.2) → Srt h L
  | [], h, _, _, _ => trivial
  | a :: L, h, h1, h2, h3 => by
    obtain ⟨p1, p2⟩ := List.pairwise_cons.mp h1
    obtain ⟨d1, d2⟩ := List.pairwise_cons.mp h2
    obtain ⟨a1, a2⟩ := h3 a List.mem_cons_self
    refine ⟨a1, a2, srt_of p2 d2 fun c hc => ?_⟩
    have q1 := p1 c hc
    have q2 := d1 c hc
    have q3 := h3 c (List.mem_cons_of_mem _ hc)
    unfold Dis at q2
    omega
theorem Srt.dis : ∀ {L : Prs} {h : Int}, Srt h L → L.Pairwise Dis
  | [], h, _ => .nil
  | a :: L, h, hs => by
    refine List.pairwise_cons.mpr ⟨fun c hc => .inl ?_, Srt.dis hs.2.2⟩
    exact (Srt.mem hs.2.2 c hc).1
theorem beside_srt {L : Prs} {c : Int × Int} (hs : Srt 0 L) (h0 : 0 ≤ c.1) (h1 : 1 ≤ c.2) (hf : ∀ k, c.1 ≤ k → k < c.1 + c.2 → cov L k = false) : Srt 0 (sortB leP (L ++ [c])) := by
  have hp := sortB_perm (le := leP) (L ++ [c])
  refine srt_of (leP_srt _) ?_ fun x hx => ?_
  · refine (hp.pairwise_iff (fun {a b} h => ?_)).mpr (List.pairwise_append.mpr ⟨hs.dis, List.pairwise_singleton _ _, fun x hx y hy => ?_⟩)
    · exact h.symm
    · rw [List.mem_singleton.mp hy]
      obtain ⟨m1, m2, m3⟩ := Srt.mem hs x hx
      unfold Dis
      by_cases q1 : x.1 + x.2 ≤ c.1
      · exact .inl q1
      · by_cases q2 : c.1 + c.2 ≤ x.1
        · exact .inr q2
        · have hk : cov L (max x.1 c.1) = true := (cov_iff _ _).mpr ⟨x, hx, by omega, by omega⟩
          rw [hf _ (by omega) (by omega)] at hk
          cases hk
  · rcases List.mem_append.mp (hp.mem_iff.mp hx) with h | h
    · obtain ⟨m1, m2, m3⟩ := Srt.mem hs x h; exact ⟨m1, m2⟩
    · rw [List.mem_singleton.mp h]; exact ⟨h0, h1⟩
theorem endP_snoc : ∀ (G : Prs) (h : Int) (l : Int × Int), endP h (G ++ [l]) = l.1 + l.2
  | [], h, l => rfl
  | a :: G, h, l => endP_snoc G _ l
section
variable {FT : Nat → Option Fn} {n K : Nat} {st : Store} {d d' : D} {L M : Prs}
theorem tupP_ok (h22 : FT 22 = some f22_tupled) (hd : RepP d L) (hl : L.length ≤ 10000) (hk : 3 ≤ K) : callN FT n K 22 [d] st = .ok (.tup (encP L)) st := by
  have hq : (encQ L).all (plD 1) = true := by
    refine List.all_eq_true.mpr fun d hd => ?_
    obtain ⟨c, _, rfl⟩ := List.mem_map.mp hd
    rfl
  have e1 : (encP L).map (tupD 1) = encP L := by unfold encP; rw [List.map_map]; rfl
  have e2 : (encQ L).map (tupD 1) = encP L := by unfold encQ encP; rw [List.map_map]; rfl
  rcases hd with rfl | rfl | rfl
  · rw [tupled_at h22 (plP hl) (by omega)]
    show Out.ok (D.tup ((encP L).map (tupD 1))) st = _
    rw [e1]
  · rw [tupled_at h22 (plP' hl) (by omega)]
    show Out.ok (D.tup ((encP L).map (tupD 1))) st = _
    rw [e1]
  · rw [tupled_at (d := .lst (encQ L)) h22 (j := 2) (show ((encQ L).all (plD 1) && decide ((encQ L).length ≤ 10000)) = true by rw [hq, decide_eq_true (by unfold encQ; simpa using hl)]; rfl) (by omega)]
    show Out.ok (D.tup ((encQ L).map (tupD 1))) st = _
    rw [e2]
theorem tupC_ok (h22 : FT 22 = some f22_tupled) {c : Int × Int} (hd : RepC d c) (hk : 2 ≤ K) : callN FT n K 22 [d] st = .ok (encC c) st := by
  rcases hd with rfl | rfl
  · exact tup_ints h22 (L := [c.1, c.2]) (by simp) (.inl rfl) hk
  · exact tup_ints h22 (L := [c.1, c.2]) (by simp) (.inr rfl) hk
theorem lisP_ok (h10 : FT 10 = some f10_law_lists) (hl : L.length ≤ 10000) (hk : 3 ≤ K) : callN FT n K 10 [.tup (encP L)] st = .ok (.lst (encQ L)) st := by
  rw [lists_at h10 (plP hl) (by omega)]
  show Out.ok (D.lst ((encP L).map (lisD 1))) st = _
  have : (encP L).map (lisD 1) = encQ L := by unfold encP encQ; rw [List.map_map]; rfl
  rw [this]
theorem border_ok (h129 : FT 129 = some f129_law_border) (hk : 1 ≤ K) : callN FT n K 129 [.tup (encP L)] st = .ok (.int (endP 0 L)) st := by
  obtain ⟨k, rfl⟩ : ∃ k, K = k + 1 := ⟨K - 1, by omega⟩
  rw [callN, h129]
  rcases List.eq_nil_or_concat L with rfl | ⟨G, l, rfl⟩
  · have e1 : cmpD .ne (.tup []) (.tup []) = some false := c_neT (k := 0) (xs := []) rfl (by decide)
    simp (disch := first | omega | (simp only [List.length_append, List.length_map, List.length_take, List.length_drop, List.length_cons, List.length_nil, List.length_range, List.length_replicate, List.length_set, List.length_zipWith, List.length_reverse]; omega)) only [f129_law_border, evE, evA, evs, evs', evI, evsP, exS, bind_ok, bind_ex, bind_bad, so_ok, so_ex, so_bad, then_nx, then_rt, then_bk, then_ex, then_bad, lift_some, lift_none, soE_some', soE_none, noEx_ok, p_nm, p_tup, p_lst, pN_nil, pN_cons, p_frz, p_fls, p_int, p_bl, p_non, p_tupm, p_lstm, f_int, f_bl, f_str, f_non, f_tup, f_lst, f_fls, f_box, f_scr, u_int, u_bl, u_str, u_non, u_tup, u_lst, u_fls, t_bl, t_non, t_int, t_tup, t_lst, t_mls, t_fls, bd_int, bk_fls, bk_flsb, bk_int, bk_bl, bk_non, bk_str, bk_tup, bk_lst, bk_box, back_rt, back_nx, back_ex, idx_int, ix_tup, ix_lst, ix_mls, ix_fls, ix_box, sl_tup, sl_lst, sl_mls, sl_fls, sl_scr, b_add, b_sub, c_lt, c_le, c_gt, c_ge, c_eq, c_ne, c_eqB, c_neB, c_isN, c_notN, i_int, i_intB, i_abs, i_max, i_min, l_lst, l_tup, l_mls, l_fls, li_lst, li_tup, li_fls, tu_lst, tu_tup, tu_fls, tu_mls, su_2, frzM, getM, isS, subM, isNil, isNon, Gb.start, Option.bind_some, Option.bind_none, Option.map_some, Option.map_none, id_eq, List.getElem?_cons_zero, List.getElem?_cons_succ, List.getElem?_nil, List.set_cons_zero, List.set_cons_succ, List.map_cons, List.map_nil, List.length_cons, List.length_nil, List.cons_append, List.nil_append, List.replicate_succ, List.replicate_zero, Nat.reduceSub, Nat.reduceAdd, Nat.zero_add, Nat.reduceLT, if_true, if_false, reduceIte, Bool.false_eq_true, Bool.not_true, Bool.not_false, Bool.not_not, decide_true, decide_false, decide_not, is0_non, is0_bl, is0_int, is0_str, is0_tup, is0_lst, is0_mls, is0_fls, is1_non, is1_bl, is1_int, is1_str, is1_tup, is1_lst, is1_mls, is1_fls, is2_non, is2_bl, is2_int, is2_str, is2_tup, is2_lst, is2_mls, is2_fls, is3_non, is3_bl, is3_int, is3_str, is3_tup, is3_lst, is3_mls, is3_fls, is4_non, is4_bl, is4_int, is4_str, is4_tup, is4_lst, is4_mls, is4_fls, is5_non, is5_bl, is5_int, is5_str, is5_tup, is5_lst, is5_mls, is5_fls, is6_non, is6_bl, is6_int, is6_str, is6_tup, is6_lst, is6_mls, is6_fls, is7_non, is7_bl, is7_int, is7_str, is7_tup, is7_lst, is7_mls, is7_fls, beq_self_eq_true, Bool.true_beq, Bool.false_beq, Bool.and_true, Bool.true_and, Bool.and_false, Bool.false_and, Bool.or_true, Bool.true_or, Bool.or_false, Bool.false_or, wipeE, show encP [] = [] from rfl, e1, if_sz, endP]
  · rw [List.concat_eq_append, endP_snoc]
    have e1 : cmpD .ne (.tup (encP G ++ [D.tup [.int l.1, .int l.2]])) (.tup []) = some true := by
      have := c_neT (k := 1) (xs := encP (G ++ [l])) (encP_pl _) (by decide)
      rw [encP_emp] at this
      rw [← sndLast, this]
      simp
    rw [sndLast]
    simp (disch := first | omega | (simp only [List.length_append, List.length_map, List.length_take, List.length_drop, List.length_cons, List.length_nil, List.length_range, List.length_replicate, List.length_set, List.length_zipWith, List.length_reverse]; omega)) only [f129_law_border, evE, evA, evs, evs', evI, evsP, exS, bind_ok, bind_ex, bind_bad, so_ok, so_ex, so_bad, then_nx, then_rt, then_bk, then_ex, then_bad, lift_some, lift_none, soE_some', soE_none, noEx_ok, p_nm, p_tup, p_lst, pN_nil, pN_cons, p_frz, p_fls, p_int, p_bl, p_non, p_tupm, p_lstm, f_int, f_bl, f_str, f_non, f_tup, f_lst, f_fls, f_box, f_scr, u_int, u_bl, u_str, u_non, u_tup, u_lst, u_fls, t_bl, t_non, t_int, t_tup, t_lst, t_mls, t_fls, bd_int, bk_fls, bk_flsb, bk_int, bk_bl, bk_non, bk_str, bk_tup, bk_lst, bk_box, back_rt, back_nx, back_ex, idx_int, ix_tup, ix_lst, ix_mls, ix_fls, ix_box, sl_tup, sl_lst, sl_mls, sl_fls, sl_scr, b_add, b_sub, c_lt, c_le, c_gt, c_ge, c_eq, c_ne, c_eqB, c_neB, c_isN, c_notN, i_int, i_intB, i_abs, i_max, i_min, l_lst, l_tup, l_mls, l_fls, li_lst, li_tup, li_fls, tu_lst, tu_tup, tu_fls, tu_mls, su_2, frzM, getM, isS, subM, isNil, isNon, Gb.start, Option.bind_some, Option.bind_none, Option.map_some, Option.map_none, id_eq, List.getElem?_cons_zero, List.getElem?_cons_succ, List.getElem?_nil, List.set_cons_zero, List.set_cons_succ, List.map_cons, List.map_nil, List.length_cons, List.length_nil, List.cons_append, List.nil_append, List.replicate_succ, List.replicate_zero, Nat.reduceSub, Nat.reduceAdd, Nat.zero_add, Nat.reduceLT, if_true, if_false, reduceIte, Bool.false_eq_true, Bool.not_true, Bool.not_false, Bool.not_not, decide_true, decide_false, decide_not, is0_non, is0_bl, is0_int, is0_str, is0_tup, is0_lst, is0_mls, is0_fls, is1_non, is1_bl, is1_int, is1_str, is1_tup, is1_lst, is1_mls, is1_fls, is2_non, is2_bl, is2_int, is2_str, is2_tup, is2_lst, is2_mls, is2_fls, is3_non, is3_bl, is3_int, is3_str, is3_tup, is3_lst, is3_mls, is3_fls, is4_non, is4_bl, is4_int, is4_str, is4_tup, is4_lst, is4_mls, is4_fls, is5_non, is5_bl, is5_int, is5_str, is5_tup, is5_lst, is5_mls, is5_fls, is6_non, is6_bl, is6_int, is6_str, is6_tup, is6_lst, is6_mls, is6_fls, is7_non, is7_bl, is7_int, is7_str, is7_tup, is7_lst, is7_mls, is7_fls, beq_self_eq_true, Bool.true_beq, Bool.false_beq, Bool.and_true, Bool.true_and, Bool.and_false, Bool.false_and, Bool.or_true, Bool.true_or, Bool.or_false, Bool.false_or, wipeE, e1, if_sz, at_last]
theorem fill_at {far : Nat} {i : Int} (h0 : 0 ≤ i) (h1 : i < far) : L2.atI ((fillL L far).map D.bl) i = some (.bl (cov L i)) := by
  obtain ⟨u, rfl⟩ : ∃ u : Nat, i = (u : Int) := ⟨i.toNat, by omega⟩
  rw [at_nat (by unfold fillL; simp; omega)]
  unfold fillL
  simp
theorem free_ok (h79 : FT 79 = some f79_law_free) {far : Nat} {room s : Int} (hb : ∀ c ∈ L, 0 ≤ c.1 ∧ c.1 + c.2 ≤ far) (r1 : 1 ≤ room) (hs : IsLow L room 0 s) (hn : far + room.toNat + 1 < n) (hk : 1 ≤ K) :
    callN FT n K 79 [.lst ((fillL L far).map .bl), .int room, .int (far : Nat)] st = .ok (.int s) st := by
  obtain ⟨k, rfl⟩ : ∃ k, K = k + 1 := ⟨K - 1, by omega⟩
  rw [callN, h79]
  simp (disch := omega) only [f79_law_free, evE, evA, evs, evs', evI, evsP, exS, bind_ok, bind_ex, bind_bad, so_ok, so_ex, so_bad, then_nx, then_rt, then_bk, then_ex, then_bad, lift_some, lift_none, soE_some', soE_none, noEx_ok, p_nm, p_tup, p_lst, pN_nil, pN_cons, p_frz, p_fls, p_int, p_bl, p_non, p_tupm, p_lstm, f_int, f_bl, f_str, f_non, f_tup, f_lst, f_fls, f_box, f_scr, u_int, u_bl, u_str, u_non, u_tup, u_lst, u_fls, t_bl, t_non, t_int, t_tup, t_lst, t_mls, t_fls, bd_int, bk_fls, bk_flsb, bk_int, bk_bl, bk_non, bk_str, bk_tup, bk_lst, bk_box, back_rt, back_nx, back_ex, idx_int, ix_tup, ix_lst, ix_mls, ix_fls, ix_box, sl_tup, sl_lst, sl_mls, sl_fls, sl_scr, b_add, b_sub, c_lt, c_le, c_gt, c_ge, c_eq, c_ne, c_eqB, c_neB, c_isN, c_notN, i_int, i_intB, i_abs, i_max, i_min, l_lst, l_tup, l_mls, l_fls, li_lst, li_tup, li_fls, tu_lst, tu_tup, tu_fls, tu_mls, su_2, frzM, getM, isS, subM, isNil, isNon, Gb.start, Option.bind_some, Option.bind_none, Option.map_some, Option.map_none, id_eq, List.getElem?_cons_zero, List.getElem?_cons_succ, List.getElem?_nil, List.set_cons_zero, List.set_cons_succ, List.map_cons, List.map_nil, List.length_cons, List.length_nil, List.cons_append, List.nil_append, List.replicate_succ, List.replicate_zero, Nat.reduceSub, Nat.reduceAdd, Nat.zero_add, Nat.reduceLT, if_true, if_false, reduceIte, Bool.false_eq_true, Bool.not_true, Bool.not_false, Bool.not_not, decide_true, decide_false, decide_not, is0_non, is0_bl, is0_int, is0_str, is0_tup, is0_lst, is0_mls, is0_fls, is1_non, is1_bl, is1_int, is1_str, is1_tup, is1_lst, is1_mls, is1_fls, is2_non, is2_bl, is2_int, is2_str, is2_tup, is2_lst, is2_mls, is2_fls, is3_non, is3_bl, is3_int, is3_str, is3_tup, is3_lst, is3_mls, is3_fls, is4_non, is4_bl, is4_int, is4_str, is4_tup, is4_lst, is4_mls, is4_fls, is5_non, is5_bl, is5_int, is5_str, is5_tup, is5_lst, is5_mls, is5_fls, is6_non, is6_bl, is6_int, is6_str, is6_tup, is6_lst, is6_mls, is6_fls, is7_non, is7_bl, is7_int, is7_str, is7_tup, is7_lst, is7_mls, is7_fls, beq_self_eq_true, Bool.true_beq, Bool.false_beq, Bool.and_true, Bool.true_and, Bool.and_false, Bool.false_and, Bool.or_true, Bool.true_or, Bool.or_false, Bool.false_or, wipeE]
  generalize hr : whlL _ _ _ _ _ = w
  let B : D := .lst ((fillL L far).map .bl)
  let P : Nat → Env → Store → Prop := fun m ρ st' => ∃ (a b : Int) (e : Option D), ρ = [some B, some (.int room), some (.int (far : Nat)), some (.int a), some (.int b), e] ∧ st' = st ∧ 0 ≤ a ∧ a ≤ far ∧ 0 ≤ b ∧ b ≤ room ∧ (∀ k, a ≤ k → k < a + b → cov L k = false) ∧ (∀ t, 0 ≤ t → t < a → ∃ k, t ≤ k ∧ k < t + room ∧ cov L k = true) ∧ m = (far + room - (a + b)).toNat
  let Q : Env → Store → Prop := fun ρ st' => ∃ (b : Int) (e : Option D), ρ = [some B, some (.int room), some (.int (far : Nat)), some (.int s), some (.int b), e] ∧ st' = st
  have out : ∀ k : Int, (far : Int) ≤ k → cov L k = false := fun k hk => by
    cases q : cov L k
    · rfl
    · obtain ⟨c, hc, c1, c2⟩ := (cov_iff _ _).mp q
      have := hb c hc
      omega
  obtain ⟨ρ', st', rfl, b, e, rfl, rfl⟩ : ∃ ρ' st', w = .nx ρ' st' ∧ Q ρ' st' := by
    rw [← hr]
    refine whlL_run P Q ?_ n (far + room - (0 + 0)).toNat _ _ (by omega) ⟨0, 0, _, rfl, rfl, by omega, by omega, by omega, by omega, fun k h1 h2 => by omega, fun t h1 h2 => by omega, rfl⟩
    rintro m ρ st' ⟨a, b, e, rfl, rfl, a0, a1, b0, b1, p1, p2, rfl⟩
    by_cases hb2 : b < room
    · right
      by_cases hh : a + b < far
      · cases hc : cov L (a + b) with
        | true =>
          simp (disch := omega) only [evE, evA, evs, evs', evI, evsP, exS, bind_ok, bind_ex, bind_bad, so_ok, so_ex, so_bad, then_nx, then_rt, then_bk, then_ex, then_bad, lift_some, lift_none, soE_some', soE_none, noEx_ok, p_nm, p_tup, p_lst, pN_nil, pN_cons, p_frz, p_fls, p_int, p_bl, p_non, p_tupm, p_lstm, f_int, f_bl, f_str, f_non, f_tup, f_lst, f_fls, f_box, f_scr, u_int, u_bl, u_str, u_non, u_tup, u_lst, u_fls, t_bl, t_non, t_int, t_tup, t_lst, t_mls, t_fls, bd_int, bk_fls, bk_flsb, bk_int, bk_bl, bk_non, bk_str, bk_tup, bk_lst, bk_box, back_rt, back_nx, back_ex, idx_int, ix_tup, ix_lst, ix_mls, ix_fls, ix_box, sl_tup, sl_lst, sl_mls, sl_fls, sl_scr, b_add, b_sub, c_lt, c_le, c_gt, c_ge, c_eq, c_ne, c_eqB, c_neB, c_isN, c_notN, i_int, i_intB, i_abs, i_max, i_min, l_lst, l_tup, l_mls, l_fls, li_lst, li_tup, li_fls, tu_lst, tu_tup, tu_fls, tu_mls, su_2, frzM, getM, isS, subM, isNil, isNon, Gb.start, Option.bind_some, Option.bind_none, Option.map_some, Option.map_none, id_eq, List.getElem?_cons_zero, List.getElem?_cons_succ, List.getElem?_nil, List.set_cons_zero, List.set_cons_succ, List.map_cons, List.map_nil, List.length_cons, List.length_nil, List.cons_append, List.nil_append, List.replicate_succ, List.replicate_zero, Nat.reduceSub, Nat.reduceAdd, Nat.zero_add, Nat.reduceLT, if_true, if_false, reduceIte, Bool.false_eq_true, Bool.not_true, Bool.not_false, Bool.not_not, decide_true, decide_false, decide_not, is0_non, is0_bl, is0_int, is0_str, is0_tup, is0_lst, is0_mls, is0_fls, is1_non, is1_bl, is1_int, is1_str, is1_tup, is1_lst, is1_mls, is1_fls, is2_non, is2_bl, is2_int, is2_str, is2_tup, is2_lst, is2_mls, is2_fls, is3_non, is3_bl, is3_int, is3_str, is3_tup, is3_lst, is3_mls, is3_fls, is4_non, is4_bl, is4_int, is4_str, is4_tup, is4_lst, is4_mls, is4_fls, is5_non, is5_bl, is5_int, is5_str, is5_tup, is5_lst, is5_mls, is5_fls, is6_non, is6_bl, is6_int, is6_str, is6_tup, is6_lst, is6_mls, is6_fls, is7_non, is7_bl, is7_int, is7_str, is7_tup, is7_lst, is7_mls, is7_fls, beq_self_eq_true, Bool.true_beq, Bool.false_beq, Bool.and_true, Bool.true_and, Bool.and_false, Bool.false_and, Bool.or_true, Bool.true_or, Bool.or_false, Bool.false_or, wipeE, hb2, hh, B, fill_at (show 0 ≤ a + b by omega) hh, hc]
          refine ⟨True.intro, (far + room - (a + b + 1 + 0)).toNat, _, _, by omega, rfl, a + b + 1, 0, _, rfl, rfl, by omega, by omega, by omega, by omega, fun k h1 h2 => by omega, fun t h1 h2 => ?_, rfl⟩
          by_cases ht : t < a
          · exact p2 t h1 ht
          · exact ⟨a + b, by omega, by omega, hc⟩
        | false =>
          simp (disch := omega) only [evE, evA, evs, evs', evI, evsP, exS, bind_ok, bind_ex, bind_bad, so_ok, so_ex, so_bad, then_nx, then_rt, then_bk, then_ex, then_bad, lift_some, lift_none, soE_some', soE_none, noEx_ok, p_nm, p_tup, p_lst, pN_nil, pN_cons, p_frz, p_fls, p_int, p_bl, p_non, p_tupm, p_lstm, f_int, f_bl, f_str, f_non, f_tup, f_lst, f_fls, f_box, f_scr, u_int, u_bl, u_str, u_non, u_tup, u_lst, u_fls, t_bl, t_non, t_int, t_tup, t_lst, t_mls, t_fls, bd_int, bk_fls, bk_flsb, bk_int, bk_bl, bk_non, bk_str, bk_tup, bk_lst, bk_box, back_rt, back_nx, back_ex, idx_int, ix_tup, ix_lst, ix_mls, ix_fls, ix_box, sl_tup, sl_lst, sl_mls, sl_fls, sl_scr, b_add, b_sub, c_lt, c_le, c_gt, c_ge, c_eq, c_ne, c_eqB, c_neB, c_isN, c_notN, i_int, i_intB, i_abs, i_max, i_min, l_lst, l_tup, l_mls, l_fls, li_lst, li_tup, li_fls, tu_lst, tu_tup, tu_fls, tu_mls, su_2, frzM, getM, isS, subM, isNil, isNon, Gb.start, Option.bind_some, Option.bind_none, Option.map_some, Option.map_none, id_eq, List.getElem?_cons_zero, List.getElem?_cons_succ, List.getElem?_nil, List.set_cons_zero, List.set_cons_succ, List.map_cons, List.map_nil, List.length_cons, List.length_nil, List.cons_append, List.nil_append, List.replicate_succ, List.replicate_zero, Nat.reduceSub, Nat.reduceAdd, Nat.zero_add, Nat.reduceLT, if_true, if_false, reduceIte, Bool.false_eq_true, Bool.not_true, Bool.not_false, Bool.not_not, decide_true, decide_false, decide_not, is0_non, is0_bl, is0_int, is0_str, is0_tup, is0_lst, is0_mls, is0_fls, is1_non, is1_bl, is1_int, is1_str, is1_tup, is1_lst, is1_mls, is1_fls, is2_non, is2_bl, is2_int, is2_str, is2_tup, is2_lst, is2_mls, is2_fls, is3_non, is3_bl, is3_int, is3_str, is3_tup, is3_lst, is3_mls, is3_fls, is4_non, is4_bl, is4_int, is4_str, is4_tup, is4_lst, is4_mls, is4_fls, is5_non, is5_bl, is5_int, is5_str, is5_tup, is5_lst, is5_mls, is5_fls, is6_non, is6_bl, is6_int, is6_str, is6_tup, is6_lst, is6_mls, is6_fls, is7_non, is7_bl, is7_int, is7_str, is7_tup, is7_lst, is7_mls, is7_fls, beq_self_eq_true, Bool.true_beq, Bool.false_beq, Bool.and_true, Bool.true_and, Bool.and_false, Bool.false_and, Bool.or_true, Bool.true_or, Bool.or_false, Bool.false_or, wipeE, hb2, hh, B, fill_at (show 0 ≤ a + b by omega) hh, hc]
          refine ⟨True.intro, (far + room - (a + (b + 1))).toNat, _, _, by omega, rfl, a, b + 1, _, rfl, rfl, by omega, by omega, by omega, by omega, fun k h1 h2 => ?_, p2, rfl⟩
          by_cases hk : k < a + b
          · exact p1 k h1 hk
          · rw [show k = a + b by omega]; exact hc
      · simp (disch := omega) only [evE, evA, evs, evs', evI, evsP, exS, bind_ok, bind_ex, bind_bad, so_ok, so_ex, so_bad, then_nx, then_rt, then_bk, then_ex, then_bad, lift_some, lift_none, soE_some', soE_none, noEx_ok, p_nm, p_tup, p_lst, pN_nil, pN_cons, p_frz, p_fls, p_int, p_bl, p_non, p_tupm, p_lstm, f_int, f_bl, f_str, f_non, f_tup, f_lst, f_fls, f_box, f_scr, u_int, u_bl, u_str, u_non, u_tup, u_lst, u_fls, t_bl, t_non, t_int, t_tup, t_lst, t_mls, t_fls, bd_int, bk_fls, bk_flsb, bk_int, bk_bl, bk_non, bk_str, bk_tup, bk_lst, bk_box, back_rt, back_nx, back_ex, idx_int, ix_tup, ix_lst, ix_mls, ix_fls, ix_box, sl_tup, sl_lst, sl_mls, sl_fls, sl_scr, b_add, b_sub, c_lt, c_le, c_gt, c_ge, c_eq, c_ne, c_eqB, c_neB, c_isN, c_notN, i_int, i_intB, i_abs, i_max, i_min, l_lst, l_tup, l_mls, l_fls, li_lst, li_tup, li_fls, tu_lst, tu_tup, tu_fls, tu_mls, su_2, frzM, getM, isS, subM, isNil, isNon, Gb.start, Option.bind_some, Option.bind_none, Option.map_some, Option.map_none, id_eq, List.getElem?_cons_zero, List.getElem?_cons_succ, List.getElem?_nil, List.set_cons_zero, List.set_cons_succ, List.map_cons, List.map_nil, List.length_cons, List.length_nil, List.cons_append, List.nil_append, List.replicate_succ, List.replicate_zero, Nat.reduceSub, Nat.reduceAdd, Nat.zero_add, Nat.reduceLT, if_true, if_false, reduceIte, Bool.false_eq_true, Bool.not_true, Bool.not_false, Bool.not_not, decide_true, decide_false, decide_not, is0_non, is0_bl, is0_int, is0_str, is0_tup, is0_lst, is0_mls, is0_fls, is1_non, is1_bl, is1_int, is1_str, is1_tup, is1_lst, is1_mls, is1_fls, is2_non, is2_bl, is2_int, is2_str, is2_tup, is2_lst, is2_mls, is2_fls, is3_non, is3_bl, is3_int, is3_str, is3_tup, is3_lst, is3_mls, is3_fls, is4_non, is4_bl, is4_int, is4_str, is4_tup, is4_lst, is4_mls, is4_fls, is5_non, is5_bl, is5_int, is5_str, is5_tup, is5_lst, is5_mls, is5_fls, is6_non, is6_bl, is6_int, is6_str, is6_tup, is6_lst, is6_mls, is6_fls, is7_non, is7_bl, is7_int, is7_str, is7_tup, is7_lst, is7_mls, is7_fls, beq_self_eq_true, Bool.true_beq, Bool.false_beq, Bool.and_true, Bool.true_and, Bool.and_false, Bool.false_and, Bool.or_true, Bool.true_or, Bool.or_false, Bool.false_or, wipeE, hb2, hh, B]
        refine ⟨True.intro, (far + room - (a + (b + 1))).toNat, _, _, by omega, rfl, a, b + 1, _, rfl, rfl, by omega, by omega, by omega, by omega, fun k h1 h2 => ?_, p2, rfl⟩
        by_cases hk : k < a + b
        · exact p1 k h1 hk
        · exact out k (by omega)
    · left
      simp (disch := omega) only [evE, evA, evs, evs', evI, evsP, exS, bind_ok, bind_ex, bind_bad, so_ok, so_ex, so_bad, then_nx, then_rt, then_bk, then_ex, then_bad, lift_some, lift_none, soE_some', soE_none, noEx_ok, p_nm, p_tup, p_lst, pN_nil, pN_cons, p_frz, p_fls, p_int, p_bl, p_non, p_tupm, p_lstm, f_int, f_bl, f_str, f_non, f_tup, f_lst, f_fls, f_box, f_scr, u_int, u_bl, u_str, u_non, u_tup, u_lst, u_fls, t_bl, t_non, t_int, t_tup, t_lst, t_mls, t_fls, bd_int, bk_fls, bk_flsb, bk_int, bk_bl, bk_non, bk_str, bk_tup, bk_lst, bk_box, back_rt, back_nx, back_ex, idx_int, ix_tup, ix_lst, ix_mls, ix_fls, ix_box, sl_tup, sl_lst, sl_mls, sl_fls, sl_scr, b_add, b_sub, c_lt, c_le, c_gt, c_ge, c_eq, c_ne, c_eqB, c_neB, c_isN, c_notN, i_int, i_intB, i_abs, i_max, i_min, l_lst, l_tup, l_mls, l_fls, li_lst, li_tup, li_fls, tu_lst, tu_tup, tu_fls, tu_mls, su_2, frzM, getM, isS, subM, isNil, isNon, Gb.start, Option.bind_some, Option.bind_none, Option.map_some, Option.map_none, id_eq, List.getElem?_cons_zero, List.getElem?_cons_succ, List.getElem?_nil, List.set_cons_zero, List.set_cons_succ, List.map_cons, List.map_nil, List.length_cons, List.length_nil, List.cons_append, List.nil_append, List.replicate_succ, List.replicate_zero, Nat.reduceSub, Nat.reduceAdd, Nat.zero_add, Nat.reduceLT, if_true, if_false, reduceIte, Bool.false_eq_true, Bool.not_true, Bool.not_false, Bool.not_not, decide_true, decide_false, decide_not, is0_non, is0_bl, is0_int, is0_str, is0_tup, is0_lst, is0_mls, is0_fls, is1_non, is1_bl, is1_int, is1_str, is1_tup, is1_lst, is1_mls, is1_fls, is2_non, is2_bl, is2_int, is2_str, is2_tup, is2_lst, is2_mls, is2_fls, is3_non, is3_bl, is3_int, is3_str, is3_tup, is3_lst, is3_mls, is3_fls, is4_non, is4_bl, is4_int, is4_str, is4_tup, is4_lst, is4_mls, is4_fls, is5_non, is5_bl, is5_int, is5_str, is5_tup, is5_lst, is5_mls, is5_fls, is6_non, is6_bl, is6_int, is6_str, is6_tup, is6_lst, is6_mls, is6_fls, is7_non, is7_bl, is7_int, is7_str, is7_tup, is7_lst, is7_mls, is7_fls, beq_self_eq_true, Bool.true_beq, Bool.false_beq, Bool.and_true, Bool.true_and, Bool.and_false, Bool.false_and, Bool.or_true, Bool.true_or, Bool.or_false, Bool.false_or, wipeE, hb2, B]
      have : a = s := low_uniq (fun _ => rfl) (⟨a0, fun k h1 h2 => p1 k h1 (by omega), p2⟩ : IsLow L room 0 a) hs
      subst this
      exact ⟨True.intro, b, e, rfl, rfl⟩
  simp (disch := omega) only [evE, evA, evs, evs', evI, evsP, exS, bind_ok, bind_ex, bind_bad, so_ok, so_ex, so_bad, then_nx, then_rt, then_bk, then_ex, then_bad, lift_some, lift_none, soE_some', soE_none, noEx_ok, p_nm, p_tup, p_lst, pN_nil, pN_cons, p_frz, p_fls, p_int, p_bl, p_non, p_tupm, p_lstm, f_int, f_bl, f_str, f_non, f_tup, f_lst, f_fls, f_box, f_scr, u_int, u_bl, u_str, u_non, u_tup, u_lst, u_fls, t_bl, t_non, t_int, t_tup, t_lst, t_mls, t_fls, bd_int, bk_fls, bk_flsb, bk_int, bk_bl, bk_non, bk_str, bk_tup, bk_lst, bk_box, back_rt, back_nx, back_ex, idx_int, ix_tup, ix_lst, ix_mls, ix_fls, ix_box, sl_tup, sl_lst, sl_mls, sl_fls, sl_scr, b_add, b_sub, c_lt, c_le, c_gt, c_ge, c_eq, c_ne, c_eqB, c_neB, c_isN, c_notN, i_int, i_intB, i_abs, i_max, i_min, l_lst, l_tup, l_mls, l_fls, li_lst, li_tup, li_fls, tu_lst, tu_tup, tu_fls, tu_mls, su_2, frzM, getM, isS, subM, isNil, isNon, Gb.start, Option.bind_some, Option.bind_none, Option.map_some, Option.map_none, id_eq, List.getElem?_cons_zero, List.getElem?_cons_succ, List.getElem?_nil, List.set_cons_zero, List.set_cons_succ, List.map_cons, List.map_nil, List.length_cons, List.length_nil, List.cons_append, List.nil_append, List.replicate_succ, List.replicate_zero, Nat.reduceSub, Nat.reduceAdd, Nat.zero_add, Nat.reduceLT, if_true, if_false, reduceIte, Bool.false_eq_true, Bool.not_true, Bool.not_false, Bool.not_not, decide_true, decide_false, decide_not, is0_non, is0_bl, is0_int, is0_str, is0_tup, is0_lst, is0_mls, is0_fls, is1_non, is1_bl, is1_int, is1_str, is1_tup, is1_lst, is1_mls, is1_fls, is2_non, is2_bl, is2_int, is2_str, is2_tup, is2_lst, is2_mls, is2_fls, is3_non, is3_bl, is3_int, is3_str, is3_tup, is3_lst, is3_mls, is3_fls, is4_non, is4_bl, is4_int, is4_str, is4_tup, is4_lst, is4_mls, is4_fls, is5_non, is5_bl, is5_int, is5_str, is5_tup, is5_lst, is5_mls, is5_fls, is6_non, is6_bl, is6_int, is6_str, is6_tup, is6_lst, is6_mls, is6_fls, is7_non, is7_bl, is7_int, is7_str, is7_tup, is7_lst, is7_mls, is7_fls, beq_self_eq_true, Bool.true_beq, Bool.false_beq, Bool.and_true, Bool.true_and, Bool.and_false, Bool.false_and, Bool.or_true, Bool.true_or, Bool.or_false, Bool.false_or, wipeE]
theorem lowest_ok (h137 : FT 137 = some f137_lowest_place) (hd : RepP d L) {size : Int} (hk : 1 ≤ K) : callN FT n K 137 [d, .int size] st = .ok (.int (lowP size 0 L)) st := by
  obtain ⟨k, rfl⟩ : ∃ k, K = k + 1 := ⟨K - 1, by omega⟩
  rw [callN, h137]
  have run : ∀ (en : Int × Int → D) (f : D → Env → Store → SO) (d : D)
      (hf : ∀ (c : Int × Int) (h : Int) (a b : Option D), f (en c) [some d, some (.int size), some (.int h), a, b] st = if size ≤ c.1 - h then .rt (.int h) st else .nx [some d, some (.int size), some (.int (c.1 + c.2)), some (.int c.1), some (.int c.2)] st),
      ∀ (L : Prs) (h : Int) (a b : Option D), forL f (L.map en) [some d, some (.int size), some (.int h), a, b] st = .rt (.int (lowP size h L)) st ∨ ∃ a' b' : Option D, forL f (L.map en) [some d, some (.int size), some (.int h), a, b] st = .nx [some d, some (.int size), some (.int (lowP size h L)), a', b'] st := by
    intro en f d hf L
    induction L with
    | nil => exact fun h a b => .inr ⟨a, b, rfl⟩
    | cons c L ih =>
      intro h a b
      rw [List.map_cons, forL_c, hf]
      unfold lowP
      by_cases hh : size ≤ c.1 - h
      · rw [if_pos hh, if_pos hh]; exact .inl rfl
      · rw [if_neg hh, if_neg hh, loop_nx]; exact ih _ _ _
  rcases hd with rfl | rfl | rfl
  all_goals
    simp (disch := omega) only [f137_lowest_place, evE, evA, evs, evs', evI, evsP, exS, bind_ok, bind_ex, bind_bad, so_ok, so_ex, so_bad, then_nx, then_rt, then_bk, then_ex, then_bad, lift_some, lift_none, soE_some', soE_none, noEx_ok, p_nm, p_tup, p_lst, pN_nil, pN_cons, p_frz, p_fls, p_int, p_bl, p_non, p_tupm, p_lstm, f_int, f_bl, f_str, f_non, f_tup, f_lst, f_fls, f_box, f_scr, u_int, u_bl, u_str, u_non, u_tup, u_lst, u_fls, t_bl, t_non, t_int, t_tup, t_lst, t_mls, t_fls, bd_int, bk_fls, bk_flsb, bk_int, bk_bl, bk_non, bk_str, bk_tup, bk_lst, bk_box, back_rt, back_nx, back_ex, idx_int, ix_tup, ix_lst, ix_mls, ix_fls, ix_box, sl_tup, sl_lst, sl_mls, sl_fls, sl_scr, b_add, b_sub, c_lt, c_le, c_gt, c_ge, c_eq, c_ne, c_eqB, c_neB, c_isN, c_notN, i_int, i_intB, i_abs, i_max, i_min, l_lst, l_tup, l_mls, l_fls, li_lst, li_tup, li_fls, tu_lst, tu_tup, tu_fls, tu_mls, su_2, frzM, getM, isS, subM, isNil, isNon, Gb.start, Option.bind_some, Option.bind_none, Option.map_some, Option.map_none, id_eq, List.getElem?_cons_zero, List.getElem?_cons_succ, List.getElem?_nil, List.set_cons_zero, List.set_cons_succ, List.map_cons, List.map_nil, List.length_cons, List.length_nil, List.cons_append, List.nil_append, List.replicate_succ, List.replicate_zero, Nat.reduceSub, Nat.reduceAdd, Nat.zero_add, Nat.reduceLT, if_true, if_false, reduceIte, Bool.false_eq_true, Bool.not_true, Bool.not_false, Bool.not_not, decide_true, decide_false, decide_not, is0_non, is0_bl, is0_int, is0_str, is0_tup, is0_lst, is0_mls, is0_fls, is1_non, is1_bl, is1_int, is1_str, is1_tup, is1_lst, is1_mls, is1_fls, is2_non, is2_bl, is2_int, is2_str, is2_tup, is2_lst, is2_mls, is2_fls, is3_non, is3_bl, is3_int, is3_str, is3_tup, is3_lst, is3_mls, is3_fls, is4_non, is4_bl, is4_int, is4_str, is4_tup, is4_lst, is4_mls, is4_fls, is5_non, is5_bl, is5_int, is5_str, is5_tup, is5_lst, is5_mls, is5_fls, is6_non, is6_bl, is6_int, is6_str, is6_tup, is6_lst, is6_mls, is6_fls, is7_non, is7_bl, is7_int, is7_str, is7_tup, is7_lst, is7_mls, is7_fls, beq_self_eq_true, Bool.true_beq, Bool.false_beq, Bool.and_true, Bool.true_and, Bool.and_false, Bool.false_and, Bool.or_true, Bool.true_or, Bool.or_false, Bool.false_or, wipeE]
    generalize hf : (fun (d : D) (ρ : Env) (st : Store) => _) = f
  · rcases run encC f _ (fun c h a b => by
      rw [← hf]
      by_cases hh : size ≤ c.1 - h
      · rw [if_pos hh]; simp (disch := omega) only [encC, evE, evA, evs, evs', evI, evsP, exS, bind_ok, bind_ex, bind_bad, so_ok, so_ex, so_bad, then_nx, then_rt, then_bk, then_ex, then_bad, lift_some, lift_none, soE_some', soE_none, noEx_ok, p_nm, p_tup, p_lst, pN_nil, pN_cons, p_frz, p_fls, p_int, p_bl, p_non, p_tupm, p_lstm, f_int, f_bl, f_str, f_non, f_tup, f_lst, f_fls, f_box, f_scr, u_int, u_bl, u_str, u_non, u_tup, u_lst, u_fls, t_bl, t_non, t_int, t_tup, t_lst, t_mls, t_fls, bd_int, bk_fls, bk_flsb, bk_int, bk_bl, bk_non, bk_str, bk_tup, bk_lst, bk_box, back_rt, back_nx, back_ex, idx_int, ix_tup, ix_lst, ix_mls, ix_fls, ix_box, sl_tup, sl_lst, sl_mls, sl_fls, sl_scr, b_add, b_sub, c_lt, c_le, c_gt, c_ge, c_eq, c_ne, c_eqB, c_neB, c_isN, c_notN, i_int, i_intB, i_abs, i_max, i_min, l_lst, l_tup, l_mls, l_fls, li_lst, li_tup, li_fls, tu_lst, tu_tup, tu_fls, tu_mls, su_2, frzM, getM, isS, subM, isNil, isNon, Gb.start, Option.bind_some, Option.bind_none, Option.map_some, Option.map_none, id_eq, List.getElem?_cons_zero, List.getElem?_cons_succ, List.getElem?_nil, List.set_cons_zero, List.set_cons_succ, List.map_cons, List.map_nil, List.length_cons, List.length_nil, List.cons_append, List.nil_append, List.replicate_succ, List.replicate_zero, Nat.reduceSub, Nat.reduceAdd, Nat.zero_add, Nat.reduceLT, if_true, if_false, reduceIte, Bool.false_eq_true, Bool.not_true, Bool.not_false, Bool.not_not, decide_true, decide_false, decide_not, is0_non, is0_bl, is0_int, is0_str, is0_tup, is0_lst, is0_mls, is0_fls, is1_non, is1_bl, is1_int, is1_str, is1_tup, is1_lst, is1_mls, is1_fls, is2_non, is2_bl, is2_int, is2_str, is2_tup, is2_lst, is2_mls, is2_fls, is3_non, is3_bl, is3_int, is3_str, is3_tup, is3_lst, is3_mls, is3_fls, is4_non, is4_bl, is4_int, is4_str, is4_tup, is4_lst, is4_mls, is4_fls, is5_non, is5_bl, is5_int, is5_str, is5_tup, is5_lst, is5_mls, is5_fls, is6_non, is6_bl, is6_int, is6_str, is6_tup, is6_lst, is6_mls, is6_fls, is7_non, is7_bl, is7_int, is7_str, is7_tup, is7_lst, is7_mls, is7_fls, beq_self_eq_true, Bool.true_beq, Bool.false_beq, Bool.and_true, Bool.true_and, Bool.and_false, Bool.false_and, Bool.or_true, Bool.true_or, Bool.or_false, Bool.false_or, wipeE, hh]
      · rw [if_neg hh]; simp (disch := omega) only [encC, evE, evA, evs, evs', evI, evsP, exS, bind_ok, bind_ex, bind_bad, so_ok, so_ex, so_bad, then_nx, then_rt, then_bk, then_ex, then_bad, lift_some, lift_none, soE_some', soE_none, noEx_ok, p_nm, p_tup, p_lst, pN_nil, pN_cons, p_frz, p_fls, p_int, p_bl, p_non, p_tupm, p_lstm, f_int, f_bl, f_str, f_non, f_tup, f_lst, f_fls, f_box, f_scr, u_int, u_bl, u_str, u_non, u_tup, u_lst, u_fls, t_bl, t_non, t_int, t_tup, t_lst, t_mls, t_fls, bd_int, bk_fls, bk_flsb, bk_int, bk_bl, bk_non, bk_str, bk_tup, bk_lst, bk_box, back_rt, back_nx, back_ex, idx_int, ix_tup, ix_lst, ix_mls, ix_fls, ix_box, sl_tup, sl_lst, sl_mls, sl_fls, sl_scr, b_add, b_sub, c_lt, c_le, c_gt, c_ge, c_eq, c_ne, c_eqB, c_neB, c_isN, c_notN, i_int, i_intB, i_abs, i_max, i_min, l_lst, l_tup, l_mls, l_fls, li_lst, li_tup, li_fls, tu_lst, tu_tup, tu_fls, tu_mls, su_2, frzM, getM, isS, subM, isNil, isNon, Gb.start, Option.bind_some, Option.bind_none, Option.map_some, Option.map_none, id_eq, List.getElem?_cons_zero, List.getElem?_cons_succ, List.getElem?_nil, List.set_cons_zero, List.set_cons_succ, List.map_cons, List.map_nil, List.length_cons, List.length_nil, List.cons_append, List.nil_append, List.replicate_succ, List.replicate_zero, Nat.reduceSub, Nat.reduceAdd, Nat.zero_add, Nat.reduceLT, if_true, if_false, reduceIte, Bool.false_eq_true, Bool.not_true, Bool.not_false, Bool.not_not, decide_true, decide_false, decide_not, is0_non, is0_bl, is0_int, is0_str, is0_tup, is0_lst, is0_mls, is0_fls, is1_non, is1_bl, is1_int, is1_str, is1_tup, is1_lst, is1_mls, is1_fls, is2_non, is2_bl, is2_int, is2_str, is2_tup, is2_lst, is2_mls, is2_fls, is3_non, is3_bl, is3_int, is3_str, is3_tup, is3_lst, is3_mls, is3_fls, is4_non, is4_bl, is4_int, is4_str, is4_tup, is4_lst, is4_mls, is4_fls, is5_non, is5_bl, is5_int, is5_str, is5_tup, is5_lst, is5_mls, is5_fls, is6_non, is6_bl, is6_int, is6_str, is6_tup, is6_lst, is6_mls, is6_fls, is7_non, is7_bl, is7_int, is7_str, is7_tup, is7_lst, is7_mls, is7_fls, beq_self_eq_true, Bool.true_beq, Bool.false_beq, Bool.and_true, Bool.true_and, Bool.and_false, Bool.false_and, Bool.or_true, Bool.true_or, Bool.or_false, Bool.false_or, wipeE, hh]) L 0 none none with e | ⟨a', b', e⟩
    · rw [show encP L = L.map encC from rfl, e]; simp (disch := omega) only [evE, evA, evs, evs', evI, evsP, exS, bind_ok, bind_ex, bind_bad, so_ok, so_ex, so_bad, then_nx, then_rt, then_bk, then_ex, then_bad, lift_some, lift_none, soE_some', soE_none, noEx_ok, p_nm, p_tup, p_lst, pN_nil, pN_cons, p_frz, p_fls, p_int, p_bl, p_non, p_tupm, p_lstm, f_int, f_bl, f_str, f_non, f_tup, f_lst, f_fls, f_box, f_scr, u_int, u_bl, u_str, u_non, u_tup, u_lst, u_fls, t_bl, t_non, t_int, t_tup, t_lst, t_mls, t_fls, bd_int, bk_fls, bk_flsb, bk_int, bk_bl, bk_non, bk_str, bk_tup, bk_lst, bk_box, back_rt, back_nx, back_ex, idx_int, ix_tup, ix_lst, ix_mls, ix_fls, ix_box, sl_tup, sl_lst, sl_mls, sl_fls, sl_scr, b_add, b_sub, c_lt, c_le, c_gt, c_ge, c_eq, c_ne, c_eqB, c_neB, c_isN, c_notN, i_int, i_intB, i_abs, i_max, i_min, l_lst, l_tup, l_mls, l_fls, li_lst, li_tup, li_fls, tu_lst, tu_tup, tu_fls, tu_mls, su_2, frzM, getM, isS, subM, isNil, isNon, Gb.start, Option.bind_some, Option.bind_none, Option.map_some, Option.map_none, id_eq, List.getElem?_cons_zero, List.getElem?_cons_succ, List.getElem?_nil, List.set_cons_zero, List.set_cons_succ, List.map_cons, List.map_nil, List.length_cons, List.length_nil, List.cons_append, List.nil_append, List.replicate_succ, List.replicate_zero, Nat.reduceSub, Nat.reduceAdd, Nat.zero_add, Nat.reduceLT, if_true, if_false, reduceIte, Bool.false_eq_true, Bool.not_true, Bool.not_false, Bool.not_not, decide_true, decide_false, decide_not, is0_non, is0_bl, is0_int, is0_str, is0_tup, is0_lst, is0_mls, is0_fls, is1_non, is1_bl, is1_int, is1_str, is1_tup, is1_lst, is1_mls, is1_fls, is2_non, is2_bl, is2_int, is2_str, is2_tup, is2_lst, is2_mls, is2_fls, is3_non, is3_bl, is3_int, is3_str, is3_tup, is3_lst, is3_mls, is3_fls, is4_non, is4_bl, is4_int, is4_str, is4_tup, is4_lst, is4_mls, is4_fls, is5_non, is5_bl, is5_int, is5_str, is5_tup, is5_lst, is5_mls, is5_fls, is6_non, is6_bl, is6_int, is6_str, is6_tup, is6_lst, is6_mls, is6_fls, is7_non, is7_bl, is7_int, is7_str, is7_tup, is7_lst, is7_mls, is7_fls, beq_self_eq_true, Bool.true_beq, Bool.false_beq, Bool.and_true, Bool.true_and, Bool.and_false, Bool.false_and, Bool.or_true, Bool.true_or, Bool.or_false, Bool.false_or, wipeE]
    · rw [show encP L = L.map encC from rfl, e]; simp (disch := omega) only [evE, evA, evs, evs', evI, evsP, exS, bind_ok, bind_ex, bind_bad, so_ok, so_ex, so_bad, then_nx, then_rt, then_bk, then_ex, then_bad, lift_some, lift_none, soE_some', soE_none, noEx_ok, p_nm, p_tup, p_lst, pN_nil, pN_cons, p_frz, p_fls, p_int, p_bl, p_non, p_tupm, p_lstm, f_int, f_bl, f_str, f_non, f_tup, f_lst, f_fls, f_box, f_scr, u_int, u_bl, u_str, u_non, u_tup, u_lst, u_fls, t_bl, t_non, t_int, t_tup, t_lst, t_mls, t_fls, bd_int, bk_fls, bk_flsb, bk_int, bk_bl, bk_non, bk_str, bk_tup, bk_lst, bk_box, back_rt, back_nx, back_ex, idx_int, ix_tup, ix_lst, ix_mls, ix_fls, ix_box, sl_tup, sl_lst, sl_mls, sl_fls, sl_scr, b_add, b_sub, c_lt, c_le, c_gt, c_ge, c_eq, c_ne, c_eqB, c_neB, c_isN, c_notN, i_int, i_intB, i_abs, i_max, i_min, l_lst, l_tup, l_mls, l_fls, li_lst, li_tup, li_fls, tu_lst, tu_tup, tu_fls, tu_mls, su_2, frzM, getM, isS, subM, isNil, isNon, Gb.start, Option.bind_some, Option.bind_none, Option.map_some, Option.map_none, id_eq, List.getElem?_cons_zero, List.getElem?_cons_succ, List.getElem?_nil, List.set_cons_zero, List.set_cons_succ, List.map_cons, List.map_nil, List.length_cons, List.length_nil, List.cons_append, List.nil_append, List.replicate_succ, List.replicate_zero, Nat.reduceSub, Nat.reduceAdd, Nat.zero_add, Nat.reduceLT, if_true, if_false, reduceIte, Bool.false_eq_true, Bool.not_true, Bool.not_false, Bool.not_not, decide_true, decide_false, decide_not, is0_non, is0_bl, is0_int, is0_str, is0_tup, is0_lst, is0_mls, is0_fls, is1_non, is1_bl, is1_int, is1_str, is1_tup, is1_lst, is1_mls, is1_fls, is2_non, is2_bl, is2_int, is2_str, is2_tup, is2_lst, is2_mls, is2_fls, is3_non, is3_bl, is3_int, is3_str, is3_tup, is3_lst, is3_mls, is3_fls, is4_non, is4_bl, is4_int, is4_str, is4_tup, is4_lst, is4_mls, is4_fls, is5_non, is5_bl, is5_int, is5_str, is5_tup, is5_lst, is5_mls, is5_fls, is6_non, is6_bl, is6_int, is6_str, is6_tup, is6_lst, is6_mls, is6_fls, is7_non, is7_bl, is7_int, is7_str, is7_tup, is7_lst, is7_mls, is7_fls, beq_self_eq_true, Bool.true_beq, Bool.false_beq, Bool.and_true, Bool.true_and, Bool.and_false, Bool.false_and, Bool.or_true, Bool.true_or, Bool.or_false, Bool.false_or, wipeE]
  · rcases run encC f _ (fun c h a b => by
      rw [← hf]
      by_cases hh : size ≤ c.1 - h
      · rw [if_pos hh]; simp (disch := omega) only [encC, evE, evA, evs, evs', evI, evsP, exS, bind_ok, bind_ex, bind_bad, so_ok, so_ex, so_bad, then_nx, then_rt, then_bk, then_ex, then_bad, lift_some, lift_none, soE_some', soE_none, noEx_ok, p_nm, p_tup, p_lst, pN_nil, pN_cons, p_frz, p_fls, p_int, p_bl, p_non, p_tupm, p_lstm, f_int, f_bl, f_str, f_non, f_tup, f_lst, f_fls, f_box, f_scr, u_int, u_bl, u_str, u_non, u_tup, u_lst, u_fls, t_bl, t_non, t_int, t_tup, t_lst, t_mls, t_fls, bd_int, bk_fls, bk_flsb, bk_int, bk_bl, bk_non, bk_str, bk_tup, bk_lst, bk_box, back_rt, back_nx, back_ex, idx_int, ix_tup, ix_lst, ix_mls, ix_fls, ix_box, sl_tup, sl_lst, sl_mls, sl_fls, sl_scr, b_add, b_sub, c_lt, c_le, c_gt, c_ge, c_eq, c_ne, c_eqB, c_neB, c_isN, c_notN, i_int, i_intB, i_abs, i_max, i_min, l_lst, l_tup, l_mls, l_fls, li_lst, li_tup, li_fls, tu_lst, tu_tup, tu_fls, tu_mls, su_2, frzM, getM, isS, subM, isNil, isNon, Gb.start, Option.bind_some, Option.bind_none, Option.map_some, Option.map_none, id_eq, List.getElem?_cons_zero, List.getElem?_cons_succ, List.getElem?_nil, List.set_cons_zero, List.set_cons_succ, List.map_cons, List.map_nil, List.length_cons, List.length_nil, List.cons_append, List.nil_append, List.replicate_succ, List.replicate_zero, Nat.reduceSub, Nat.reduceAdd, Nat.zero_add, Nat.reduceLT, if_true, if_false, reduceIte, Bool.false_eq_true, Bool.not_true, Bool.not_false, Bool.not_not, decide_true, decide_false, decide_not, is0_non, is0_bl, is0_int, is0_str, is0_tup, is0_lst, is0_mls, is0_fls, is1_non, is1_bl, is1_int, is1_str, is1_tup, is1_lst, is1_mls, is1_fls, is2_non, is2_bl, is2_int, is2_str, is2_tup, is2_lst, is2_mls, is2_fls, is3_non, is3_bl, is3_int, is3_str, is3_tup, is3_lst, is3_mls, is3_fls, is4_non, is4_bl, is4_int, is4_str, is4_tup, is4_lst, is4_mls, is4_fls, is5_non, is5_bl, is5_int, is5_str, is5_tup, is5_lst, is5_mls, is5_fls, is6_non, is6_bl, is6_int, is6_str, is6_tup, is6_lst, is6_mls, is6_fls, is7_non, is7_bl, is7_int, is7_str, is7_tup, is7_lst, is7_mls, is7_fls, beq_self_eq_true, Bool.true_beq, Bool.false_beq, Bool.and_true, Bool.true_and, Bool.and_false, Bool.false_and, Bool.or_true, Bool.true_or, Bool.or_false, Bool.false_or, wipeE, hh]
      · rw [if_neg hh]; simp (disch := omega) only [encC, evE, evA, evs, evs', evI, evsP, exS, bind_ok, bind_ex, bind_bad, so_ok, so_ex, so_bad, then_nx, then_rt, then_bk, then_ex, then_bad, lift_some, lift_none, soE_some', soE_none, noEx_ok, p_nm, p_tup, p_lst, pN_nil, pN_cons, p_frz, p_fls, p_int, p_bl, p_non, p_tupm, p_lstm, f_int, f_bl, f_str, f_non, f_tup, f_lst, f_fls, f_box, f_scr, u_int, u_bl, u_str, u_non, u_tup, u_lst, u_fls, t_bl, t_non, t_int, t_tup, t_lst, t_mls, t_fls, bd_int, bk_fls, bk_flsb, bk_int, bk_bl, bk_non, bk_str, bk_tup, bk_lst, bk_box, back_rt, back_nx, back_ex, idx_int, ix_tup, ix_lst, ix_mls, ix_fls, ix_box, sl_tup, sl_lst, sl_mls, sl_fls, sl_scr, b_add, b_sub, c_lt, c_le, c_gt, c_ge, c_eq, c_ne, c_eqB, c_neB, c_isN, c_notN, i_int, i_intB, i_abs, i_max, i_min, l_lst, l_tup, l_mls, l_fls, li_lst, li_tup, li_fls, tu_lst, tu_tup, tu_fls, tu_mls, su_2, frzM, getM, isS, subM, isNil, isNon, Gb.start, Option.bind_some, Option.bind_none, Option.map_some, Option.map_none, id_eq, List.getElem?_cons_zero, List.getElem?_cons_succ, List.getElem?_nil, List.set_cons_zero, List.set_cons_succ, List.map_cons, List.map_nil, List.length_cons, List.length_nil, List.cons_append, List.nil_append, List.replicate_succ, List.replicate_zero, Nat.reduceSub, Nat.reduceAdd, Nat.zero_add, Nat.reduceLT, if_true, if_false, reduceIte, Bool.false_eq_true, Bool.not_true, Bool.not_false, Bool.not_not, decide_true, decide_false, decide_not, is0_non, is0_bl, is0_int, is0_str, is0_tup, is0_lst, is0_mls, is0_fls, is1_non, is1_bl, is1_int, is1_str, is1_tup, is1_lst, is1_mls, is1_fls, is2_non, is2_bl, is2_int, is2_str, is2_tup, is2_lst, is2_mls, is2_fls, is3_non, is3_bl, is3_int, is3_str, is3_tup, is3_lst, is3_mls, is3_fls, is4_non, is4_bl, is4_int, is4_str, is4_tup, is4_lst, is4_mls, is4_fls, is5_non, is5_bl, is5_int, is5_str, is5_tup, is5_lst, is5_mls, is5_fls, is6_non, is6_bl, is6_int, is6_str, is6_tup, is6_lst, is6_mls, is6_fls, is7_non, is7_bl, is7_int, is7_str, is7_tup, is7_lst, is7_mls, is7_fls, beq_self_eq_true, Bool.true_beq, Bool.false_beq, Bool.and_true, Bool.true_and, Bool.and_false, Bool.false_and, Bool.or_true, Bool.true_or, Bool.or_false, Bool.false_or, wipeE, hh]) L 0 none none with e | ⟨a', b', e⟩
    · rw [show encP L = L.map encC from rfl, e]; simp (disch := omega) only [evE, evA, evs, evs', evI, evsP, exS, bind_ok, bind_ex, bind_bad, so_ok, so_ex, so_bad, then_nx, then_rt, then_bk, then_ex, then_bad, lift_some, lift_none, soE_some', soE_none, noEx_ok, p_nm, p_tup, p_lst, pN_nil, pN_cons, p_frz, p_fls, p_int, p_bl, p_non, p_tupm, p_lstm, f_int, f_bl, f_str, f_non, f_tup, f_lst, f_fls, f_box, f_scr, u_int, u_bl, u_str, u_non, u_tup, u_lst, u_fls, t_bl, t_non, t_int, t_tup, t_lst, t_mls, t_fls, bd_int, bk_fls, bk_flsb, bk_int, bk_bl, bk_non, bk_str, bk_tup, bk_lst, bk_box, back_rt, back_nx, back_ex, idx_int, ix_tup, ix_lst, ix_mls, ix_fls, ix_box, sl_tup, sl_lst, sl_mls, sl_fls, sl_scr, b_add, b_sub, c_lt, c_le, c_gt, c_ge, c_eq, c_ne, c_eqB, c_neB, c_isN, c_notN, i_int, i_intB, i_abs, i_max, i_min, l_lst, l_tup, l_mls, l_fls, li_lst, li_tup, li_fls, tu_lst, tu_tup, tu_fls, tu_mls, su_2, frzM, getM, isS, subM, isNil, isNon, Gb.start, Option.bind_some, Option.bind_none, Option.map_some, Option.map_none, id_eq, List.getElem?_cons_zero, List.getElem?_cons_succ, List.getElem?_nil, List.set_cons_zero, List.set_cons_succ, List.map_cons, List.map_nil, List.length_cons, List.length_nil, List.cons_append, List.nil_append, List.replicate_succ, List.replicate_zero, Nat.reduceSub, Nat.reduceAdd, Nat.zero_add, Nat.reduceLT, if_true, if_false, reduceIte, Bool.false_eq_true, Bool.not_true, Bool.not_false, Bool.not_not, decide_true, decide_false, decide_not, is0_non, is0_bl, is0_int, is0_str, is0_tup, is0_lst, is0_mls, is0_fls, is1_non, is1_bl, is1_int, is1_str, is1_tup, is1_lst, is1_mls, is1_fls, is2_non, is2_bl, is2_int, is2_str, is2_tup, is2_lst, is2_mls, is2_fls, is3_non, is3_bl, is3_int, is3_str, is3_tup, is3_lst, is3_mls, is3_fls, is4_non, is4_bl, is4_int, is4_str, is4_tup, is4_lst, is4_mls, is4_fls, is5_non, is5_bl, is5_int, is5_str, is5_tup, is5_lst, is5_mls, is5_fls, is6_non, is6_bl, is6_int, is6_str, is6_tup, is6_lst, is6_mls, is6_fls, is7_non, is7_bl, is7_int, is7_str, is7_tup, is7_lst, is7_mls, is7_fls, beq_self_eq_true, Bool.true_beq, Bool.false_beq, Bool.and_true, Bool.true_and, Bool.and_false, Bool.false_and, Bool.or_true, Bool.true_or, Bool.or_false, Bool.false_or, wipeE]
    · rw [show encP L = L.map encC from rfl, e]; simp (disch := omega) only [evE, evA, evs, evs', evI, evsP, exS, bind_ok, bind_ex, bind_bad, so_ok, so_ex, so_bad, then_nx, then_rt, then_bk, then_ex, then_bad, lift_some, lift_none, soE_some', soE_none, noEx_ok, p_nm, p_tup, p_lst, pN_nil, pN_cons, p_frz, p_fls, p_int, p_bl, p_non, p_tupm, p_lstm, f_int, f_bl, f_str, f_non, f_tup, f_lst, f_fls, f_box, f_scr, u_int, u_bl, u_str, u_non, u_tup, u_lst, u_fls, t_bl, t_non, t_int, t_tup, t_lst, t_mls, t_fls, bd_int, bk_fls, bk_flsb, bk_int, bk_bl, bk_non, bk_str, bk_tup, bk_lst, bk_box, back_rt, back_nx, back_ex, idx_int, ix_tup, ix_lst, ix_mls, ix_fls, ix_box, sl_tup, sl_lst, sl_mls, sl_fls, sl_scr, b_add, b_sub, c_lt, c_le, c_gt, c_ge, c_eq, c_ne, c_eqB, c_neB, c_isN, c_notN, i_int, i_intB, i_abs, i_max, i_min, l_lst, l_tup, l_mls, l_fls, li_lst, li_tup, li_fls, tu_lst, tu_tup, tu_fls, tu_mls, su_2, frzM, getM, isS, subM, isNil, isNon, Gb.start, Option.bind_some, Option.bind_none, Option.map_some, Option.map_none, id_eq, List.getElem?_cons_zero, List.getElem?_cons_succ, List.getElem?_nil, List.set_cons_zero, List.set_cons_succ, List.map_cons, List.map_nil, List.length_cons, List.length_nil, List.cons_append, List.nil_append, List.replicate_succ, List.replicate_zero, Nat.reduceSub, Nat.reduceAdd, Nat.zero_add, Nat.reduceLT, if_true, if_false, reduceIte, Bool.false_eq_true, Bool.not_true, Bool.not_false, Bool.not_not, decide_true, decide_false, decide_not, is0_non, is0_bl, is0_int, is0_str, is0_tup, is0_lst, is0_mls, is0_fls, is1_non, is1_bl, is1_int, is1_str, is1_tup, is1_lst, is1_mls, is1_fls, is2_non, is2_bl, is2_int, is2_str, is2_tup, is2_lst, is2_mls, is2_fls, is3_non, is3_bl, is3_int, is3_str, is3_tup, is3_lst, is3_mls, is3_fls, is4_non, is4_bl, is4_int, is4_str, is4_tup, is4_lst, is4_mls, is4_fls, is5_non, is5_bl, is5_int, is5_str, is5_tup, is5_lst, is5_mls, is5_fls, is6_non, is6_bl, is6_int, is6_str, is6_tup, is6_lst, is6_mls, is6_fls, is7_non, is7_bl, is7_int, is7_str, is7_tup, is7_lst, is7_mls, is7_fls, beq_self_eq_true, Bool.true_beq, Bool.false_beq, Bool.and_true, Bool.true_and, Bool.and_false, Bool.false_and, Bool.or_true, Bool.true_or, Bool.or_false, Bool.false_or, wipeE]
  · rcases run encCl f _ (fun c h a b => by
      rw [← hf]
      by_cases hh : size ≤ c.1 - h
      · rw [if_pos hh]; simp (disch := omega) only [encCl, evE, evA, evs, evs', evI, evsP, exS, bind_ok, bind_ex, bind_bad, so_ok, so_ex, so_bad, then_nx, then_rt, then_bk, then_ex, then_bad, lift_some, lift_none, soE_some', soE_none, noEx_ok, p_nm, p_tup, p_lst, pN_nil, pN_cons, p_frz, p_fls, p_int, p_bl, p_non, p_tupm, p_lstm, f_int, f_bl, f_str, f_non, f_tup, f_lst, f_fls, f_box, f_scr, u_int, u_bl, u_str, u_non, u_tup, u_lst, u_fls, t_bl, t_non, t_int, t_tup, t_lst, t_mls, t_fls, bd_int, bk_fls, bk_flsb, bk_int, bk_bl, bk_non, bk_str, bk_tup, bk_lst, bk_box, back_rt, back_nx, back_ex, idx_int, ix_tup, ix_lst, ix_mls, ix_fls, ix_box, sl_tup, sl_lst, sl_mls, sl_fls, sl_scr, b_add, b_sub, c_lt, c_le, c_gt, c_ge, c_eq, c_ne, c_eqB, c_neB, c_isN, c_notN, i_int, i_intB, i_abs, i_max, i_min, l_lst, l_tup, l_mls, l_fls, li_lst, li_tup, li_fls, tu_lst, tu_tup, tu_fls, tu_mls, su_2, frzM, getM, isS, subM, isNil, isNon, Gb.start, Option.bind_some, Option.bind_none, Option.map_some, Option.map_none, id_eq, List.getElem?_cons_zero, List.getElem?_cons_succ, List.getElem?_nil, List.set_cons_zero, List.set_cons_succ, List.map_cons, List.map_nil, List.length_cons, List.length_nil, List.cons_append, List.nil_append, List.replicate_succ, List.replicate_zero, Nat.reduceSub, Nat.reduceAdd, Nat.zero_add, Nat.reduceLT, if_true, if_false, reduceIte, Bool.false_eq_true, Bool.not_true, Bool.not_false, Bool.not_not, decide_true, decide_false, decide_not, is0_non, is0_bl, is0_int, is0_str, is0_tup, is0_lst, is0_mls, is0_fls, is1_non, is1_bl, is1_int, is1_str, is1_tup, is1_lst, is1_mls, is1_fls, is2_non, is2_bl, is2_int, is2_str, is2_tup, is2_lst, is2_mls, is2_fls, is3_non, is3_bl, is3_int, is3_str, is3_tup, is3_lst, is3_mls, is3_fls, is4_non, is4_bl, is4_int, is4_str, is4_tup, is4_lst, is4_mls, is4_fls, is5_non, is5_bl, is5_int, is5_str, is5_tup, is5_lst, is5_mls, is5_fls, is6_non, is6_bl, is6_int, is6_str, is6_tup, is6_lst, is6_mls, is6_fls, is7_non, is7_bl, is7_int, is7_str, is7_tup, is7_lst, is7_mls, is7_fls, beq_self_eq_true, Bool.true_beq, Bool.false_beq, Bool.and_true, Bool.true_and, Bool.and_false, Bool.false_and, Bool.or_true, Bool.true_or, Bool.or_false, Bool.false_or, wipeE, hh]
      · rw [if_neg hh]; simp (disch := omega) only [encCl, evE, evA, evs, evs', evI, evsP, exS, bind_ok, bind_ex, bind_bad, so_ok, so_ex, so_bad, then_nx, then_rt, then_bk, then_ex, then_bad, lift_some, lift_none, soE_some', soE_none, noEx_ok, p_nm, p_tup, p_lst, pN_nil, pN_cons, p_frz, p_fls, p_int, p_bl, p_non, p_tupm, p_lstm, f_int, f_bl, f_str, f_non, f_tup, f_lst, f_fls, f_box, f_scr, u_int, u_bl, u_str, u_non, u_tup, u_lst, u_fls, t_bl, t_non, t_int, t_tup, t_lst, t_mls, t_fls, bd_int, bk_fls, bk_flsb, bk_int, bk_bl, bk_non, bk_str, bk_tup, bk_lst, bk_box, back_rt, back_nx, back_ex, idx_int, ix_tup, ix_lst, ix_mls, ix_fls, ix_box, sl_tup, sl_lst, sl_mls, sl_fls, sl_scr, b_add, b_sub, c_lt, c_le, c_gt, c_ge, c_eq, c_ne, c_eqB, c_neB, c_isN, c_notN, i_int, i_intB, i_abs, i_max, i_min, l_lst, l_tup, l_mls, l_fls, li_lst, li_tup, li_fls, tu_lst, tu_tup, tu_fls, tu_mls, su_2, frzM, getM, isS, subM, isNil, isNon, Gb.start, Option.bind_some, Option.bind_none, Option.map_some, Option.map_none, id_eq, List.getElem?_cons_zero, List.getElem?_cons_succ, List.getElem?_nil, List.set_cons_zero, List.set_cons_succ, List.map_cons, List.map_nil, List.length_cons, List.length_nil, List.cons_append, List.nil_append, List.replicate_succ, List.replicate_zero, Nat.reduceSub, Nat.reduceAdd, Nat.zero_add, Nat.reduceLT, if_true, if_false, reduceIte, Bool.false_eq_true, Bool.not_true, Bool.not_false, Bool.not_not, decide_true, decide_false, decide_not, is0_non, is0_bl, is0_int, is0_str, is0_tup, is0_lst, is0_mls, is0_fls, is1_non, is1_bl, is1_int, is1_str, is1_tup, is1_lst, is1_mls, is1_fls, is2_non, is2_bl, is2_int, is2_str, is2_tup, is2_lst, is2_mls, is2_fls, is3_non, is3_bl, is3_int, is3_str, is3_tup, is3_lst, is3_mls, is3_fls, is4_non, is4_bl, is4_int, is4_str, is4_tup, is4_lst, is4_mls, is4_fls, is5_non, is5_bl, is5_int, is5_str, is5_tup, is5_lst, is5_mls, is5_fls, is6_non, is6_bl, is6_int, is6_str, is6_tup, is6_lst, is6_mls, is6_fls, is7_non, is7_bl, is7_int, is7_str, is7_tup, is7_lst, is7_mls, is7_fls, beq_self_eq_true, Bool.true_beq, Bool.false_beq, Bool.and_true, Bool.true_and, Bool.and_false, Bool.false_and, Bool.or_true, Bool.true_or, Bool.or_false, Bool.false_or, wipeE, hh]) L 0 none none with e | ⟨a', b', e⟩
    · rw [show encQ L = L.map encCl from rfl, e]; simp (disch := omega) only [evE, evA, evs, evs', evI, evsP, exS, bind_ok, bind_ex, bind_bad, so_ok, so_ex, so_bad, then_nx, then_rt, then_bk, then_ex, then_bad, lift_some, lift_none, soE_some', soE_none, noEx_ok, p_nm, p_tup, p_lst, pN_nil, pN_cons, p_frz, p_fls, p_int, p_bl, p_non, p_tupm, p_lstm, f_int, f_bl, f_str, f_non, f_tup, f_lst, f_fls, f_box, f_scr, u_int, u_bl, u_str, u_non, u_tup, u_lst, u_fls, t_bl, t_non, t_int, t_tup, t_lst, t_mls, t_fls, bd_int, bk_fls, bk_flsb, bk_int, bk_bl, bk_non, bk_str, bk_tup, bk_lst, bk_box, back_rt, back_nx, back_ex, idx_int, ix_tup, ix_lst, ix_mls, ix_fls, ix_box, sl_tup, sl_lst, sl_mls, sl_fls, sl_scr, b_add, b_sub, c_lt, c_le, c_gt, c_ge, c_eq, c_ne, c_eqB, c_neB, c_isN, c_notN, i_int, i_intB, i_abs, i_max, i_min, l_lst, l_tup, l_mls, l_fls, li_lst, li_tup, li_fls, tu_lst, tu_tup, tu_fls, tu_mls, su_2, frzM, getM, isS, subM, isNil, isNon, Gb.start, Option.bind_some, Option.bind_none, Option.map_some, Option.map_none, id_eq, List.getElem?_cons_zero, List.getElem?_cons_succ, List.getElem?_nil, List.set_cons_zero, List.set_cons_succ, List.map_cons, List.map_nil, List.length_cons, List.length_nil, List.cons_append, List.nil_append, List.replicate_succ, List.replicate_zero, Nat.reduceSub, Nat.reduceAdd, Nat.zero_add, Nat.reduceLT, if_true, if_false, reduceIte, Bool.false_eq_true, Bool.not_true, Bool.not_false, Bool.not_not, decide_true, decide_false, decide_not, is0_non, is0_bl, is0_int, is0_str, is0_tup, is0_lst, is0_mls, is0_fls, is1_non, is1_bl, is1_int, is1_str, is1_tup, is1_lst, is1_mls, is1_fls, is2_non, is2_bl, is2_int, is2_str, is2_tup, is2_lst, is2_mls, is2_fls, is3_non, is3_bl, is3_int, is3_str, is3_tup, is3_lst, is3_mls, is3_fls, is4_non, is4_bl, is4_int, is4_str, is4_tup, is4_lst, is4_mls, is4_fls, is5_non, is5_bl, is5_int, is5_str, is5_tup, is5_lst, is5_mls, is5_fls, is6_non, is6_bl, is6_int, is6_str, is6_tup, is6_lst, is6_mls, is6_fls, is7_non, is7_bl, is7_int, is7_str, is7_tup, is7_lst, is7_mls, is7_fls, beq_self_eq_true, Bool.true_beq, Bool.false_beq, Bool.and_true, Bool.true_and, Bool.and_false, Bool.false_and, Bool.or_true, Bool.true_or, Bool.or_false, Bool.false_or, wipeE]
    · rw [show encQ L = L.map encCl from rfl, e]; simp (disch := omega) only [evE, evA, evs, evs', evI, evsP, exS, bind_ok, bind_ex, bind_bad, so_ok, so_ex, so_bad, then_nx, then_rt, then_bk, then_ex, then_bad, lift_some, lift_none, soE_some', soE_none, noEx_ok, p_nm, p_tup, p_lst, pN_nil, pN_cons, p_frz, p_fls, p_int, p_bl, p_non, p_tupm, p_lstm, f_int, f_bl, f_str, f_non, f_tup, f_lst, f_fls, f_box, f_scr, u_int, u_bl, u_str, u_non, u_tup, u_lst, u_fls, t_bl, t_non, t_int, t_tup, t_lst, t_mls, t_fls, bd_int, bk_fls, bk_flsb, bk_int, bk_bl, bk_non, bk_str, bk_tup, bk_lst, bk_box, back_rt, back_nx, back_ex, idx_int, ix_tup, ix_lst, ix_mls, ix_fls, ix_box, sl_tup, sl_lst, sl_mls, sl_fls, sl_scr, b_add, b_sub, c_lt, c_le, c_gt, c_ge, c_eq, c_ne, c_eqB, c_neB, c_isN, c_notN, i_int, i_intB, i_abs, i_max, i_min, l_lst, l_tup, l_mls, l_fls, li_lst, li_tup, li_fls, tu_lst, tu_tup, tu_fls, tu_mls, su_2, frzM, getM, isS, subM, isNil, isNon, Gb.start, Option.bind_some, Option.bind_none, Option.map_some, Option.map_none, id_eq, List.getElem?_cons_zero, List.getElem?_cons_succ, List.getElem?_nil, List.set_cons_zero, List.set_cons_succ, List.map_cons, List.map_nil, List.length_cons, List.length_nil, List.cons_append, List.nil_append, List.replicate_succ, List.replicate_zero, Nat.reduceSub, Nat.reduceAdd, Nat.zero_add, Nat.reduceLT, if_true, if_false, reduceIte, Bool.false_eq_true, Bool.not_true, Bool.not_false, Bool.not_not, decide_true, decide_false, decide_not, is0_non, is0_bl, is0_int, is0_str, is0_tup, is0_lst, is0_mls, is0_fls, is1_non, is1_bl, is1_int, is1_str, is1_tup, is1_lst, is1_mls, is1_fls, is2_non, is2_bl, is2_int, is2_str, is2_tup, is2_lst, is2_mls, is2_fls, is3_non, is3_bl, is3_int, is3_str, is3_tup, is3_lst, is3_mls, is3_fls, is4_non, is4_bl, is4_int, is4_str, is4_tup, is4_lst, is4_mls, is4_fls, is5_non, is5_bl, is5_int, is5_str, is5_tup, is5_lst, is5_mls, is5_fls, is6_non, is6_bl, is6_int, is6_str, is6_tup, is6_lst, is6_mls, is6_fls, is7_non, is7_bl, is7_int, is7_str, is7_tup, is7_lst, is7_mls, is7_fls, beq_self_eq_true, Bool.true_beq, Bool.false_beq, Bool.and_true, Bool.true_and, Bool.and_false, Bool.false_and, Bool.or_true, Bool.true_or, Bool.or_false, Bool.false_or, wipeE]
theorem beside_ok (h22 : FT 22 = some f22_tupled) (h137 : FT 137 = some f137_lowest_place) (h138 : FT 138 = some f138_lowest_beside) (hd : RepP d L) {c : Int × Int} (hc : RepC d' c) (hl : L.length ≤ 1000) {size : Int} (hk : 4 ≤ K) :
    callN FT n K 138 [d, d', .int size] st = .ok (.int (lowP size 0 (sortB leP (L ++ [c])))) st := by
  obtain ⟨k, rfl⟩ : ∃ k, K = k + 4 := ⟨K - 4, by omega⟩
  have e1 := fun st => tupP_ok (n := n) (K := k + 3) (st := st) h22 hd (by omega) (by omega)
  have e2 := fun st => tupC_ok (n := n) (K := k + 3) (st := st) h22 hc (by omega)
  have sq : ∀ xs : List D, seqOf (.tup xs) = some xs := fun _ => rfl
  have es := sort_pairs (L ++ [c]) (x := .fls (encP L ++ [encC c])) (by rw [encP_app]; rfl)
  have e3 := fun st => lowest_ok (n := n) (K := k + 3) (st := st) (L := sortB leP (L ++ [c])) (size := size) h137 (.inr (.inl rfl)) (by omega)
  have hL := encP_len L
  have hp : purD (encC c) = some (encC c) := rfl
  rw [callN, h138]
  simp (disch := first | omega | (simp only [List.length_append, List.length_map, List.length_take, List.length_drop, List.length_cons, List.length_nil, List.length_range, List.length_replicate, List.length_set, List.length_zipWith, List.length_reverse]; omega)) only [f138_lowest_beside, evE, evA, evs, evs', evI, evsP, exS, bind_ok, bind_ex, bind_bad, so_ok, so_ex, so_bad, then_nx, then_rt, then_bk, then_ex, then_bad, lift_some, lift_none, soE_some', soE_none, noEx_ok, p_nm, p_tup, p_lst, pN_nil, pN_cons, p_frz, p_fls, p_int, p_bl, p_non, p_tupm, p_lstm, f_int, f_bl, f_str, f_non, f_tup, f_lst, f_fls, f_box, f_scr, u_int, u_bl, u_str, u_non, u_tup, u_lst, u_fls, t_bl, t_non, t_int, t_tup, t_lst, t_mls, t_fls, bd_int, bk_fls, bk_flsb, bk_int, bk_bl, bk_non, bk_str, bk_tup, bk_lst, bk_box, back_rt, back_nx, back_ex, idx_int, ix_tup, ix_lst, ix_mls, ix_fls, ix_box, sl_tup, sl_lst, sl_mls, sl_fls, sl_scr, b_add, b_sub, c_lt, c_le, c_gt, c_ge, c_eq, c_ne, c_eqB, c_neB, c_isN, c_notN, i_int, i_intB, i_abs, i_max, i_min, l_lst, l_tup, l_mls, l_fls, li_lst, li_tup, li_fls, tu_lst, tu_tup, tu_fls, tu_mls, su_2, frzM, getM, isS, subM, isNil, isNon, Gb.start, Option.bind_some, Option.bind_none, Option.map_some, Option.map_none, id_eq, List.getElem?_cons_zero, List.getElem?_cons_succ, List.getElem?_nil, List.set_cons_zero, List.set_cons_succ, List.map_cons, List.map_nil, List.length_cons, List.length_nil, List.cons_append, List.nil_append, List.replicate_succ, List.replicate_zero, Nat.reduceSub, Nat.reduceAdd, Nat.zero_add, Nat.reduceLT, if_true, if_false, reduceIte, Bool.false_eq_true, Bool.not_true, Bool.not_false, Bool.not_not, decide_true, decide_false, decide_not, is0_non, is0_bl, is0_int, is0_str, is0_tup, is0_lst, is0_mls, is0_fls, is1_non, is1_bl, is1_int, is1_str, is1_tup, is1_lst, is1_mls, is1_fls, is2_non, is2_bl, is2_int, is2_str, is2_tup, is2_lst, is2_mls, is2_fls, is3_non, is3_bl, is3_int, is3_str, is3_tup, is3_lst, is3_mls, is3_fls, is4_non, is4_bl, is4_int, is4_str, is4_tup, is4_lst, is4_mls, is4_fls, is5_non, is5_bl, is5_int, is5_str, is5_tup, is5_lst, is5_mls, is5_fls, is6_non, is6_bl, is6_int, is6_str, is6_tup, is6_lst, is6_mls, is6_fls, is7_non, is7_bl, is7_int, is7_str, is7_tup, is7_lst, is7_mls, is7_fls, beq_self_eq_true, Bool.true_beq, Bool.false_beq, Bool.and_true, Bool.true_and, Bool.and_false, Bool.false_and, Bool.or_true, Bool.true_or, Bool.or_false, Bool.false_or, wipeE, hd.frz, hc.frz, e1, e2, sq, hp, if_sz, es, e3]
theorem of_ok (h7 : FT 7 = some f7_law_take) (h9 : FT 9 = some f9_law_of) {xs : List D} {j m : Nat} (hT : Tin st j m) (hm : m < 2 ^ 61) (h0 : 0 < xs.length) (h1 : xs.length < 2 ^ 60) (hd : d = .lst xs ∨ d = .tup xs) (hk : 2 ≤ K) :
    ∃ (x : D) (st' : Store), (notM x = true → purD x = some x → callN FT n K 9 [.box j, d] st = .ok x st') ∧ x ∈ xs ∧ Tin st' j (m + 1) := by
  obtain ⟨k, rfl⟩ : ∃ k, K = k + 2 := ⟨K - 2, by omega⟩
  obtain ⟨u, st1, e1, u0, u1, T1⟩ := take_ok (n := n) (K := k + 1) h7 hT hm (top := (xs.length : Int)) (by omega) (by omega) (by omega)
  obtain ⟨U, rfl⟩ : ∃ U : Nat, u = (U : Int) := ⟨u.toNat, by omega⟩
  have hU : U < xs.length := by omega
  refine ⟨xs[U], st1, fun hn hp => ?_, List.getElem_mem hU, T1⟩
  rw [callN, h9]
  rcases hd with rfl | rfl
  · simp (disch := omega) only [f9_law_of, evE, evA, evs, evs', evI, evsP, exS, bind_ok, bind_ex, bind_bad, so_ok, so_ex, so_bad, then_nx, then_rt, then_bk, then_ex, then_bad, lift_some, lift_none, soE_some', soE_none, noEx_ok, p_nm, p_tup, p_lst, pN_nil, pN_cons, p_frz, p_fls, p_int, p_bl, p_non, p_tupm, p_lstm, f_int, f_bl, f_str, f_non, f_tup, f_lst, f_fls, f_box, f_scr, u_int, u_bl, u_str, u_non, u_tup, u_lst, u_fls, t_bl, t_non, t_int, t_tup, t_lst, t_mls, t_fls, bd_int, bk_fls, bk_flsb, bk_int, bk_bl, bk_non, bk_str, bk_tup, bk_lst, bk_box, back_rt, back_nx, back_ex, idx_int, ix_tup, ix_lst, ix_mls, ix_fls, ix_box, sl_tup, sl_lst, sl_mls, sl_fls, sl_scr, b_add, b_sub, c_lt, c_le, c_gt, c_ge, c_eq, c_ne, c_eqB, c_neB, c_isN, c_notN, i_int, i_intB, i_abs, i_max, i_min, l_lst, l_tup, l_mls, l_fls, li_lst, li_tup, li_fls, tu_lst, tu_tup, tu_fls, tu_mls, su_2, frzM, getM, isS, subM, isNil, isNon, Gb.start, Option.bind_some, Option.bind_none, Option.map_some, Option.map_none, id_eq, List.getElem?_cons_zero, List.getElem?_cons_succ, List.getElem?_nil, List.set_cons_zero, List.set_cons_succ, List.map_cons, List.map_nil, List.length_cons, List.length_nil, List.cons_append, List.nil_append, List.replicate_succ, List.replicate_zero, Nat.reduceSub, Nat.reduceAdd, Nat.zero_add, Nat.reduceLT, if_true, if_false, reduceIte, Bool.false_eq_true, Bool.not_true, Bool.not_false, Bool.not_not, decide_true, decide_false, decide_not, is0_non, is0_bl, is0_int, is0_str, is0_tup, is0_lst, is0_mls, is0_fls, is1_non, is1_bl, is1_int, is1_str, is1_tup, is1_lst, is1_mls, is1_fls, is2_non, is2_bl, is2_int, is2_str, is2_tup, is2_lst, is2_mls, is2_fls, is3_non, is3_bl, is3_int, is3_str, is3_tup, is3_lst, is3_mls, is3_fls, is4_non, is4_bl, is4_int, is4_str, is4_tup, is4_lst, is4_mls, is4_fls, is5_non, is5_bl, is5_int, is5_str, is5_tup, is5_lst, is5_mls, is5_fls, is6_non, is6_bl, is6_int, is6_str, is6_tup, is6_lst, is6_mls, is6_fls, is7_non, is7_bl, is7_int, is7_str, is7_tup, is7_lst, is7_mls, is7_fls, beq_self_eq_true, Bool.true_beq, Bool.false_beq, Bool.and_true, Bool.true_and, Bool.and_false, Bool.false_and, Bool.or_true, Bool.true_or, Bool.or_false, Bool.false_or, wipeE, e1, at_nat hU]
    generalize xs[U] = x at hn hp
    cases x <;> first | cases hn; done | cases hp; done | rfl
  · simp (disch := omega) only [f9_law_of, evE, evA, evs, evs', evI, evsP, exS, bind_ok, bind_ex, bind_bad, so_ok, so_ex, so_bad, then_nx, then_rt, then_bk, then_ex, then_bad, lift_some, lift_none, soE_some', soE_none, noEx_ok, p_nm, p_tup, p_lst, pN_nil, pN_cons, p_frz, p_fls, p_int, p_bl, p_non, p_tupm, p_lstm, f_int, f_bl, f_str, f_non, f_tup, f_lst, f_fls, f_box, f_scr, u_int, u_bl, u_str, u_non, u_tup, u_lst, u_fls, t_bl, t_non, t_int, t_tup, t_lst, t_mls, t_fls, bd_int, bk_fls, bk_flsb, bk_int, bk_bl, bk_non, bk_str, bk_tup, bk_lst, bk_box, back_rt, back_nx, back_ex, idx_int, ix_tup, ix_lst, ix_mls, ix_fls, ix_box, sl_tup, sl_lst, sl_mls, sl_fls, sl_scr, b_add, b_sub, c_lt, c_le, c_gt, c_ge, c_eq, c_ne, c_eqB, c_neB, c_isN, c_notN, i_int, i_intB, i_abs, i_max, i_min, l_lst, l_tup, l_mls, l_fls, li_lst, li_tup, li_fls, tu_lst, tu_tup, tu_fls, tu_mls, su_2, frzM, getM, isS, subM, isNil, isNon, Gb.start, Option.bind_some, Option.bind_none, Option.map_some, Option.map_none, id_eq, List.getElem?_cons_zero, List.getElem?_cons_succ, List.getElem?_nil, List.set_cons_zero, List.set_cons_succ, List.map_cons, List.map_nil, List.length_cons, List.length_nil, List.cons_append, List.nil_append, List.replicate_succ, List.replicate_zero, Nat.reduceSub, Nat.reduceAdd, Nat.zero_add, Nat.reduceLT, if_true, if_false, reduceIte, Bool.false_eq_true, Bool.not_true, Bool.not_false, Bool.not_not, decide_true, decide_false, decide_not, is0_non, is0_bl, is0_int, is0_str, is0_tup, is0_lst, is0_mls, is0_fls, is1_non, is1_bl, is1_int, is1_str, is1_tup, is1_lst, is1_mls, is1_fls, is2_non, is2_bl, is2_int, is2_str, is2_tup, is2_lst, is2_mls, is2_fls, is3_non, is3_bl, is3_int, is3_str, is3_tup, is3_lst, is3_mls, is3_fls, is4_non, is4_bl, is4_int, is4_str, is4_tup, is4_lst, is4_mls, is4_fls, is5_non, is5_bl, is5_int, is5_str, is5_tup, is5_lst, is5_mls, is5_fls, is6_non, is6_bl, is6_int, is6_str, is6_tup, is6_lst, is6_mls, is6_fls, is7_non, is7_bl, is7_int, is7_str, is7_tup, is7_lst, is7_mls, is7_fls, beq_self_eq_true, Bool.true_beq, Bool.false_beq, Bool.and_true, Bool.true_and, Bool.and_false, Bool.false_and, Bool.or_true, Bool.true_or, Bool.or_false, Bool.false_or, wipeE, e1, at_nat hU]
    generalize xs[U] = x at hn hp
    cases x <;> first | cases hn; done | cases hp; done | rfl
end
end Gb

/-! Runs of blocks with heads: sizes, block sizes, rows. -/
namespace Gb
open PySem
def f71_up : Fn := ⟨2, 2,
    (.ret (.neg (.bin .fdiv (.neg (.var 0)) (.var 1)))), false⟩
def f72_check_start : Fn := ⟨2, 2,
    (.ite (.not (.call 25 (.cons (.var 0) (.cons (.var 1) .nil)))) (.rais 0 (.var 1)) .pass), false⟩
def f73_sizes : Fn := ⟨3, 5,
    (.seq (.expr (.call 72 (.cons (.var 0) (.cons (.var 1) .nil))))
    (.seq (.asg (.nm 3 true) (.lst (.cons (.var 1) .nil)))
    (.seq (.for (.nm 4 false) (.rng1 (.var 2)) (.app 3 (.call 24 (.cons (.var 0) (.cons (.idx (.var 3) (.neg (.con (.int 1)))) .nil)))))
    (.ret (.bi .tuple (.cons (.var 3) .nil)))))), false⟩
def f74_block_size : Fn := ⟨2, 4,
    (.seq (.asg (.tp [(2, false), (3, false)]) (.var 0))
    (.ret (.bin .mul (.call 71 (.cons (.bin .add (.var 1) (.var 2)) (.cons (.var 3) .nil))) (.var 3)))), false⟩
def f75_form_run : Fn := ⟨4, 9,
    (.seq (.asg (.nm 4 true) (.lst .nil))
    (.seq (.for (.nm 5 false) (.seq (.call 73 (.cons (.var 0) (.cons (.var 2) (.cons (.var 3) .nil))))) (.seq (.asg (.nm 6 false) (.call 74 (.cons (.var 1) (.cons (.var 5) .nil))))
    (.seq (.asg (.tp [(7, false), (8, false)]) (.ite (.cmp .gt (.bi .len (.cons (.var 4) .nil)) (.con (.int 0))) (.idx (.var 4) (.neg (.con (.int 1)))) (.tup (.cons (.con (.int 0)) (.cons (.con (.int 0)) .nil)))))
    (.app 4 (.tup (.cons (.ite (.cmp .le (.var 6) (.var 7)) (.con (.int 0)) (.bin .add (.var 7) (.var 8))) (.cons (.var 6) .nil)))))))
    (.ret (.bi .tuple (.cons (.var 4) .nil))))), false⟩
def f77_law_shape : Fn := ⟨3, 3,
    (.ret (.tup (.cons (.call 7 (.cons (.var 0) (.cons (.bin .add (.var 1) (.con (.int 1))) .nil))) (.cons (.bin .add (.con (.int 1)) (.call 7 (.cons (.var 0) (.cons (.var 2) .nil)))) .nil)))), false⟩
def f78_law_room : Fn := ⟨2, 4,
    (.seq (.asg (.nm 2 false) (.idx (.var 0) (.con (.int 1))))
    (.seq (.asg (.nm 3 false) (.bin .add (.var 1) (.idx (.var 0) (.con (.int 0)))))
    (.ret (.ite (.cmp .eq (.bin .mod (.var 3) (.var 2)) (.con (.int 0))) (.var 3) (.bin .sub (.bin .add (.var 3) (.var 2)) (.bin .mod (.bi .int (.cons (.var 3) .nil)) (.var 2))))))), false⟩

def siz (p q r s : Int) : Nat → Int
  | 0 => s
  | i + 1 => nxt p q r (siz p q r s i)
theorem siz_good {p q r s : Int} (h : Kin p q r) (s1 : 1 ≤ s) (s2 : s < nxt p q r s) : ∀ i, 1 ≤ siz p q r s i ∧ siz p q r s i < nxt p q r (siz p q r s i)
  | 0 => ⟨s1, s2⟩
  | i + 1 => by
    obtain ⟨a, b⟩ := siz_good h s1 s2 i
    exact ⟨by show 1 ≤ nxt p q r _; omega, nxt_up h (by omega) (Int.le_of_lt b) b⟩
theorem nxt_le {p q r s P R B : Int} (h : Kin p q r) (hp : p ≤ P) (hr : r ≤ R) (s1 : 0 ≤ s) (hs : s ≤ B) : nxt p q r s ≤ P * B + R := by
  unfold nxt
  have hq := h.q1
  have h1 : p * s ≤ P * B := Int.mul_le_mul hp hs s1 (by have := h.qp; omega)
  have h0 : 0 ≤ p * s := Int.mul_nonneg (by have := h.qp; omega) s1
  have := Int.ediv_le_self q h0
  omega
/-- the cells of a block -/
def rm (h g s : Int) : Int := -(-(s + h) / g) * g
theorem rm_low {h g s : Int} (hg : 1 ≤ g) : s + h ≤ rm h g s ∧ rm h g s < s + h + g := by
  unfold rm
  have e := Int.emod_add_mul_ediv (-(s + h)) g
  have h0 := Int.emod_nonneg (-(s + h)) (show g ≠ 0 by omega)
  have h1 := Int.emod_lt_of_pos (-(s + h)) (show 0 < g by omega)
  have e2 : -(-(s + h) / g) * g = -(g * (-(s + h) / g)) := by rw [Int.neg_mul, Int.mul_comm]
  omega
theorem rm_law {h g s : Int} (hg : 1 ≤ g) : (if (s + h) % g = 0 then s + h else s + h + g - (s + h) % g) = rm h g s := by
  have hd := Int.emod_add_mul_ediv (s + h) g
  have h0 := Int.emod_nonneg (s + h) (show g ≠ 0 by omega)
  have h1 := Int.emod_lt_of_pos (s + h) (show 0 < g by omega)
  generalize ht : (s + h) / g = t at hd
  generalize hm : (s + h) % g = m at hd h0 h1
  have mc : g * t = t * g := Int.mul_comm g t
  have nm : -t * g = -(t * g) := Int.neg_mul t g
  unfold rm
  by_cases e : m = 0
  · rw [if_pos e, show -(s + h) = -t * g by omega, Int.mul_ediv_cancel _ (by omega), Int.neg_neg]
    omega
  · have nm1 : (-t - 1) * g = -(t * g) - g := by rw [Int.sub_mul]; omega
    have nm2 : (t + 1) * g = t * g + g := by rw [Int.add_mul]; omega
    rw [if_neg e, show -(s + h) = (g - m) + (-t - 1) * g by omega, Int.add_mul_ediv_right _ _ (by omega), Int.ediv_eq_zero_of_lt (by omega) (by omega), show -(0 + (-t - 1)) = t + 1 by omega]
    omega
/-- the blocks one after another: place and cells -/
def fit (h g p q r s : Int) : Nat → Int × Int
  | 0 => (0, rm h g s)
  | i + 1 => (if rm h g (siz p q r s (i + 1)) ≤ (fit h g p q r s i).1 then 0 else (fit h g p q r s i).1 + (fit h g p q r s i).2, rm h g (siz p q r s (i + 1)))
theorem fit_2 {h g p q r s : Int} : ∀ i, (fit h g p q r s i).2 = rm h g (siz p q r s i)
  | 0 => rfl
  | i + 1 => rfl
def fitP (h g p q r s : Int) (i : Nat) : List D := (List.range i).map fun j => encC (fit h g p q r s j)
def sizL (p q r s : Int) (i : Nat) : List D := (List.range i).map fun j => .int (siz p q r s j)
theorem fitP_succ (h g p q r s : Int) (i : Nat) : fitP h g p q r s (i + 1) = fitP h g p q r s i ++ [encC (fit h g p q r s i)] := by
  unfold fitP
  rw [List.range_succ, List.map_append]
  rfl
theorem sizL_succ (p q r s : Int) (i : Nat) : sizL p q r s (i + 1) = sizL p q r s i ++ [.int (siz p q r s i)] := by
  unfold sizL
  rw [List.range_succ, List.map_append]
  rfl
theorem fitP_len (h g p q r s : Int) (i : Nat) : (fitP h g p q r s i).length = i := by unfold fitP; simp
theorem sizL_len (p q r s : Int) (i : Nat) : (sizL p q r s i).length = i := by unfold sizL; simp
def fitPrs (h g p q r s : Int) (i : Nat) : Prs := (List.range i).map (fit h g p q r s)
theorem fitP_enc (h g p q r s : Int) (i : Nat) : fitP h g p q r s i = encP (fitPrs h g p q r s i) := by
  unfold fitP encP fitPrs
  rw [List.map_map]; rfl
theorem fitP_pl {h g p q r s : Int} {i : Nat} (hi : i ≤ 10000) : plD 2 (.tup (fitP h g p q r s i)) = true := by
  rw [fitP_enc]
  exact plP (by unfold fitPrs; simpa using hi)
/-- the greatest of some -/
def mxL : List Int → Int
  | [] => 0
  | x :: r => r.foldl (fun m y => if y > m then y else m) x
theorem b_maxF {xs : List Int} (h : xs ≠ []) : biD .max [.fls (xs.map .int)] = some (.int (mxL xs)) := by
  show (intsD (xs.map .int)).bind (fun ns => (maxI ns).map D.int) = _
  rw [intsD_map]
  cases xs with
  | nil => exact absurd rfl h
  | cons x r => rfl
theorem b_maxLs {xs : List Int} (h : xs ≠ []) : biD .max [.lst (xs.map .int)] = some (.int (mxL xs)) := by
  show (intsD (xs.map .int)).bind (fun ns => (maxI ns).map D.int) = _
  rw [intsD_map]
  cases xs with
  | nil => exact absurd rfl h
  | cons x r => rfl
theorem mxL_skip {s x : Int} {r : List Int} (h : s ≤ x) : mxL (s :: x :: r) = mxL (x :: r) := by
  show List.foldl _ (if x > s then x else s) r = List.foldl _ x r
  by_cases e : x > s
  · rw [if_pos e]
  · rw [if_neg e, show s = x by omega]
/-- a form: a tuple or a list -/
def FormD (d : D) (h g : Int) : Prop := d = .tup [.int h, .int g] ∨ d = .lst [.int h, .int g]
section
variable {FT : Nat → Option Fn} {n k : Nat} {st : Store} {d d' : D} {p q r s h g : Int}
theorem up_okF {K : Nat} (h71 : FT 71 = some f71_up) {x : Int} (g0 : 0 < g) (g1 : g < 2 ^ 62) (hk : 1 ≤ K) : callN FT n K 71 [.int x, .int g] st = .ok (.int (-(-x / g))) st := by
  obtain ⟨k, rfl⟩ : ∃ k, K = k + 1 := ⟨K - 1, by omega⟩
  rw [callN, h71]
  simp (disch := omega) only [f71_up, evE, evA, evs, evs', evI, evsP, exS, bind_ok, bind_ex, bind_bad, so_ok, so_ex, so_bad, then_nx, then_rt, then_bk, then_ex, then_bad, lift_some, lift_none, soE_some', soE_none, noEx_ok, p_nm, p_tup, p_lst, pN_nil, pN_cons, p_frz, p_fls, p_int, p_bl, p_non, p_tupm, p_lstm, f_int, f_bl, f_str, f_non, f_tup, f_lst, f_fls, f_box, f_scr, u_int, u_bl, u_str, u_non, u_tup, u_lst, u_fls, t_bl, t_non, t_int, t_tup, t_lst, t_mls, t_fls, bd_int, bk_fls, bk_flsb, bk_int, bk_bl, bk_non, bk_str, bk_tup, bk_lst, bk_box, back_rt, back_nx, back_ex, idx_int, ix_tup, ix_lst, ix_mls, ix_fls, ix_box, sl_tup, sl_lst, sl_mls, sl_fls, sl_scr, b_add, b_sub, c_lt, c_le, c_gt, c_ge, c_eq, c_ne, c_eqB, c_neB, c_isN, c_notN, i_int, i_intB, i_abs, i_max, i_min, l_lst, l_tup, l_mls, l_fls, li_lst, li_tup, li_fls, tu_lst, tu_tup, tu_fls, tu_mls, su_2, frzM, getM, isS, subM, isNil, isNon, Gb.start, Option.bind_some, Option.bind_none, Option.map_some, Option.map_none, id_eq, List.getElem?_cons_zero, List.getElem?_cons_succ, List.getElem?_nil, List.set_cons_zero, List.set_cons_succ, List.map_cons, List.map_nil, List.length_cons, List.length_nil, List.cons_append, List.nil_append, List.replicate_succ, List.replicate_zero, Nat.reduceSub, Nat.reduceAdd, Nat.zero_add, Nat.reduceLT, if_true, if_false, reduceIte, Bool.false_eq_true, Bool.not_true, Bool.not_false, Bool.not_not, decide_true, decide_false, decide_not, is0_non, is0_bl, is0_int, is0_str, is0_tup, is0_lst, is0_mls, is0_fls, is1_non, is1_bl, is1_int, is1_str, is1_tup, is1_lst, is1_mls, is1_fls, is2_non, is2_bl, is2_int, is2_str, is2_tup, is2_lst, is2_mls, is2_fls, is3_non, is3_bl, is3_int, is3_str, is3_tup, is3_lst, is3_mls, is3_fls, is4_non, is4_bl, is4_int, is4_str, is4_tup, is4_lst, is4_mls, is4_fls, is5_non, is5_bl, is5_int, is5_str, is5_tup, is5_lst, is5_mls, is5_fls, is6_non, is6_bl, is6_int, is6_str, is6_tup, is6_lst, is6_mls, is6_fls, is7_non, is7_bl, is7_int, is7_str, is7_tup, is7_lst, is7_mls, is7_fls, beq_self_eq_true, Bool.true_beq, Bool.false_beq, Bool.and_true, Bool.true_and, Bool.and_false, Bool.false_and, Bool.or_true, Bool.true_or, Bool.or_false, Bool.false_or, wipeE, b_fdiv]
theorem bsize_ok {K : Nat} (h71 : FT 71 = some f71_up) (h74 : FT 74 = some f74_block_size) (hd : FormD d h g) (g0 : 1 ≤ g) (g1 : g < 2 ^ 62) (hk : 2 ≤ K) : callN FT n K 74 [d, .int s] st = .ok (.int (rm h g s)) st := by
  obtain ⟨k, rfl⟩ : ∃ k, K = k + 2 := ⟨K - 2, by omega⟩
  have e := fun st (x : Int) => up_okF (n := n) (K := k + 1) (st := st) (x := x) h71 (show 0 < g by omega) g1 (by omega)
  rw [callN, h74]
  rcases hd with rfl | rfl
  · simp (disch := omega) only [f74_block_size, evE, evA, evs, evs', evI, evsP, exS, bind_ok, bind_ex, bind_bad, so_ok, so_ex, so_bad, then_nx, then_rt, then_bk, then_ex, then_bad, lift_some, lift_none, soE_some', soE_none, noEx_ok, p_nm, p_tup, p_lst, pN_nil, pN_cons, p_frz, p_fls, p_int, p_bl, p_non, p_tupm, p_lstm, f_int, f_bl, f_str, f_non, f_tup, f_lst, f_fls, f_box, f_scr, u_int, u_bl, u_str, u_non, u_tup, u_lst, u_fls, t_bl, t_non, t_int, t_tup, t_lst, t_mls, t_fls, bd_int, bk_fls, bk_flsb, bk_int, bk_bl, bk_non, bk_str, bk_tup, bk_lst, bk_box, back_rt, back_nx, back_ex, idx_int, ix_tup, ix_lst, ix_mls, ix_fls, ix_box, sl_tup, sl_lst, sl_mls, sl_fls, sl_scr, b_add, b_sub, c_lt, c_le, c_gt, c_ge, c_eq, c_ne, c_eqB, c_neB, c_isN, c_notN, i_int, i_intB, i_abs, i_max, i_min, l_lst, l_tup, l_mls, l_fls, li_lst, li_tup, li_fls, tu_lst, tu_tup, tu_fls, tu_mls, su_2, frzM, getM, isS, subM, isNil, isNon, Gb.start, Option.bind_some, Option.bind_none, Option.map_some, Option.map_none, id_eq, List.getElem?_cons_zero, List.getElem?_cons_succ, List.getElem?_nil, List.set_cons_zero, List.set_cons_succ, List.map_cons, List.map_nil, List.length_cons, List.length_nil, List.cons_append, List.nil_append, List.replicate_succ, List.replicate_zero, Nat.reduceSub, Nat.reduceAdd, Nat.zero_add, Nat.reduceLT, if_true, if_false, reduceIte, Bool.false_eq_true, Bool.not_true, Bool.not_false, Bool.not_not, decide_true, decide_false, decide_not, is0_non, is0_bl, is0_int, is0_str, is0_tup, is0_lst, is0_mls, is0_fls, is1_non, is1_bl, is1_int, is1_str, is1_tup, is1_lst, is1_mls, is1_fls, is2_non, is2_bl, is2_int, is2_str, is2_tup, is2_lst, is2_mls, is2_fls, is3_non, is3_bl, is3_int, is3_str, is3_tup, is3_lst, is3_mls, is3_fls, is4_non, is4_bl, is4_int, is4_str, is4_tup, is4_lst, is4_mls, is4_fls, is5_non, is5_bl, is5_int, is5_str, is5_tup, is5_lst, is5_mls, is5_fls, is6_non, is6_bl, is6_int, is6_str, is6_tup, is6_lst, is6_mls, is6_fls, is7_non, is7_bl, is7_int, is7_str, is7_tup, is7_lst, is7_mls, is7_fls, beq_self_eq_true, Bool.true_beq, Bool.false_beq, Bool.and_true, Bool.true_and, Bool.and_false, Bool.false_and, Bool.or_true, Bool.true_or, Bool.or_false, Bool.false_or, wipeE, e, b_mulr, rm]
  · simp (disch := omega) only [f74_block_size, evE, evA, evs, evs', evI, evsP, exS, bind_ok, bind_ex, bind_bad, so_ok, so_ex, so_bad, then_nx, then_rt, then_bk, then_ex, then_bad, lift_some, lift_none, soE_some', soE_none, noEx_ok, p_nm, p_tup, p_lst, pN_nil, pN_cons, p_frz, p_fls, p_int, p_bl, p_non, p_tupm, p_lstm, f_int, f_bl, f_str, f_non, f_tup, f_lst, f_fls, f_box, f_scr, u_int, u_bl, u_str, u_non, u_tup, u_lst, u_fls, t_bl, t_non, t_int, t_tup, t_lst, t_mls, t_fls, bd_int, bk_fls, bk_flsb, bk_int, bk_bl, bk_non, bk_str, bk_tup, bk_lst, bk_box, back_rt, back_nx, back_ex, idx_int, ix_tup, ix_lst, ix_mls, ix_fls, ix_box, sl_tup, sl_lst, sl_mls, sl_fls, sl_scr, b_add, b_sub, c_lt, c_le, c_gt, c_ge, c_eq, c_ne, c_eqB, c_neB, c_isN, c_notN, i_int, i_intB, i_abs, i_max, i_min, l_lst, l_tup, l_mls, l_fls, li_lst, li_tup, li_fls, tu_lst, tu_tup, tu_fls, tu_mls, su_2, frzM, getM, isS, subM, isNil, isNon, Gb.start, Option.bind_some, Option.bind_none, Option.map_some, Option.map_none, id_eq, List.getElem?_cons_zero, List.getElem?_cons_succ, List.getElem?_nil, List.set_cons_zero, List.set_cons_succ, List.map_cons, List.map_nil, List.length_cons, List.length_nil, List.cons_append, List.nil_append, List.replicate_succ, List.replicate_zero, Nat.reduceSub, Nat.reduceAdd, Nat.zero_add, Nat.reduceLT, if_true, if_false, reduceIte, Bool.false_eq_true, Bool.not_true, Bool.not_false, Bool.not_not, decide_true, decide_false, decide_not, is0_non, is0_bl, is0_int, is0_str, is0_tup, is0_lst, is0_mls, is0_fls, is1_non, is1_bl, is1_int, is1_str, is1_tup, is1_lst, is1_mls, is1_fls, is2_non, is2_bl, is2_int, is2_str, is2_tup, is2_lst, is2_mls, is2_fls, is3_non, is3_bl, is3_int, is3_str, is3_tup, is3_lst, is3_mls, is3_fls, is4_non, is4_bl, is4_int, is4_str, is4_tup, is4_lst, is4_mls, is4_fls, is5_non, is5_bl, is5_int, is5_str, is5_tup, is5_lst, is5_mls, is5_fls, is6_non, is6_bl, is6_int, is6_str, is6_tup, is6_lst, is6_mls, is6_fls, is7_non, is7_bl, is7_int, is7_str, is7_tup, is7_lst, is7_mls, is7_fls, beq_self_eq_true, Bool.true_beq, Bool.false_beq, Bool.and_true, Bool.true_and, Bool.and_false, Bool.false_and, Bool.or_true, Bool.true_or, Bool.or_false, Bool.false_or, wipeE, e, b_mulr, rm]
theorem room_okF {K : Nat} (h78 : FT 78 = some f78_law_room) (g0 : 1 ≤ g) (g1 : g < 2 ^ 62) (hk : 1 ≤ K) : callN FT n K 78 [.tup [.int h, .int g], .int s] st = .ok (.int (rm h g s)) st := by
  obtain ⟨k, rfl⟩ : ∃ k, K = k + 1 := ⟨K - 1, by omega⟩
  rw [callN, h78, ← rm_law g0]
  by_cases e : (s + h) % g = 0
  · simp (disch := omega) only [f78_law_room, evE, evA, evs, evs', evI, evsP, exS, bind_ok, bind_ex, bind_bad, so_ok, so_ex, so_bad, then_nx, then_rt, then_bk, then_ex, then_bad, lift_some, lift_none, soE_some', soE_none, noEx_ok, p_nm, p_tup, p_lst, pN_nil, pN_cons, p_frz, p_fls, p_int, p_bl, p_non, p_tupm, p_lstm, f_int, f_bl, f_str, f_non, f_tup, f_lst, f_fls, f_box, f_scr, u_int, u_bl, u_str, u_non, u_tup, u_lst, u_fls, t_bl, t_non, t_int, t_tup, t_lst, t_mls, t_fls, bd_int, bk_fls, bk_flsb, bk_int, bk_bl, bk_non, bk_str, bk_tup, bk_lst, bk_box, back_rt, back_nx, back_ex, idx_int, ix_tup, ix_lst, ix_mls, ix_fls, ix_box, sl_tup, sl_lst, sl_mls, sl_fls, sl_scr, b_add, b_sub, c_lt, c_le, c_gt, c_ge, c_eq, c_ne, c_eqB, c_neB, c_isN, c_notN, i_int, i_intB, i_abs, i_max, i_min, l_lst, l_tup, l_mls, l_fls, li_lst, li_tup, li_fls, tu_lst, tu_tup, tu_fls, tu_mls, su_2, frzM, getM, isS, subM, isNil, isNon, Gb.start, Option.bind_some, Option.bind_none, Option.map_some, Option.map_none, id_eq, List.getElem?_cons_zero, List.getElem?_cons_succ, List.getElem?_nil, List.set_cons_zero, List.set_cons_succ, List.map_cons, List.map_nil, List.length_cons, List.length_nil, List.cons_append, List.nil_append, List.replicate_succ, List.replicate_zero, Nat.reduceSub, Nat.reduceAdd, Nat.zero_add, Nat.reduceLT, if_true, if_false, reduceIte, Bool.false_eq_true, Bool.not_true, Bool.not_false, Bool.not_not, decide_true, decide_false, decide_not, is0_non, is0_bl, is0_int, is0_str, is0_tup, is0_lst, is0_mls, is0_fls, is1_non, is1_bl, is1_int, is1_str, is1_tup, is1_lst, is1_mls, is1_fls, is2_non, is2_bl, is2_int, is2_str, is2_tup, is2_lst, is2_mls, is2_fls, is3_non, is3_bl, is3_int, is3_str, is3_tup, is3_lst, is3_mls, is3_fls, is4_non, is4_bl, is4_int, is4_str, is4_tup, is4_lst, is4_mls, is4_fls, is5_non, is5_bl, is5_int, is5_str, is5_tup, is5_lst, is5_mls, is5_fls, is6_non, is6_bl, is6_int, is6_str, is6_tup, is6_lst, is6_mls, is6_fls, is7_non, is7_bl, is7_int, is7_str, is7_tup, is7_lst, is7_mls, is7_fls, beq_self_eq_true, Bool.true_beq, Bool.false_beq, Bool.and_true, Bool.true_and, Bool.and_false, Bool.false_and, Bool.or_true, Bool.true_or, Bool.or_false, Bool.false_or, wipeE, at2_0', at2_1', b_mod, e]
  · simp (disch := omega) only [f78_law_room, evE, evA, evs, evs', evI, evsP, exS, bind_ok, bind_ex, bind_bad, so_ok, so_ex, so_bad, then_nx, then_rt, then_bk, then_ex, then_bad, lift_some, lift_none, soE_some', soE_none, noEx_ok, p_nm, p_tup, p_lst, pN_nil, pN_cons, p_frz, p_fls, p_int, p_bl, p_non, p_tupm, p_lstm, f_int, f_bl, f_str, f_non, f_tup, f_lst, f_fls, f_box, f_scr, u_int, u_bl, u_str, u_non, u_tup, u_lst, u_fls, t_bl, t_non, t_int, t_tup, t_lst, t_mls, t_fls, bd_int, bk_fls, bk_flsb, bk_int, bk_bl, bk_non, bk_str, bk_tup, bk_lst, bk_box, back_rt, back_nx, back_ex, idx_int, ix_tup, ix_lst, ix_mls, ix_fls, ix_box, sl_tup, sl_lst, sl_mls, sl_fls, sl_scr, b_add, b_sub, c_lt, c_le, c_gt, c_ge, c_eq, c_ne, c_eqB, c_neB, c_isN, c_notN, i_int, i_intB, i_abs, i_max, i_min, l_lst, l_tup, l_mls, l_fls, li_lst, li_tup, li_fls, tu_lst, tu_tup, tu_fls, tu_mls, su_2, frzM, getM, isS, subM, isNil, isNon, Gb.start, Option.bind_some, Option.bind_none, Option.map_some, Option.map_none, id_eq, List.getElem?_cons_zero, List.getElem?_cons_succ, List.getElem?_nil, List.set_cons_zero, List.set_cons_succ, List.map_cons, List.map_nil, List.length_cons, List.length_nil, List.cons_append, List.nil_append, List.replicate_succ, List.replicate_zero, Nat.reduceSub, Nat.reduceAdd, Nat.zero_add, Nat.reduceLT, if_true, if_false, reduceIte, Bool.false_eq_true, Bool.not_true, Bool.not_false, Bool.not_not, decide_true, decide_false, decide_not, is0_non, is0_bl, is0_int, is0_str, is0_tup, is0_lst, is0_mls, is0_fls, is1_non, is1_bl, is1_int, is1_str, is1_tup, is1_lst, is1_mls, is1_fls, is2_non, is2_bl, is2_int, is2_str, is2_tup, is2_lst, is2_mls, is2_fls, is3_non, is3_bl, is3_int, is3_str, is3_tup, is3_lst, is3_mls, is3_fls, is4_non, is4_bl, is4_int, is4_str, is4_tup, is4_lst, is4_mls, is4_fls, is5_non, is5_bl, is5_int, is5_str, is5_tup, is5_lst, is5_mls, is5_fls, is6_non, is6_bl, is6_int, is6_str, is6_tup, is6_lst, is6_mls, is6_fls, is7_non, is7_bl, is7_int, is7_str, is7_tup, is7_lst, is7_mls, is7_fls, beq_self_eq_true, Bool.true_beq, Bool.false_beq, Bool.and_true, Bool.true_and, Bool.and_false, Bool.false_and, Bool.or_true, Bool.true_or, Bool.or_false, Bool.false_or, wipeE, at2_0', at2_1', b_mod, e]
theorem shape_okF {K : Nat} (h7 : FT 7 = some f7_law_take) (h77 : FT 77 = some f77_law_shape) {j m : Nat} (hT : Tin st j m) (hm : m + 2 < 2 ^ 61) {A B : Int} (a0 : 0 ≤ A) (a1 : A < 1000) (b0 : 1 ≤ B) (b1 : B < 1000) (hk : 2 ≤ K) :
    ∃ (h g : Int) (st' : Store), callN FT n K 77 [.box j, .int A, .int B] st = .ok (.tup [.int h, .int g]) st' ∧ 0 ≤ h ∧ h ≤ A ∧ 1 ≤ g ∧ g ≤ B ∧ Tin st' j (m + 2) := by
  obtain ⟨k, rfl⟩ : ∃ k, K = k + 2 := ⟨K - 2, by omega⟩
  obtain ⟨u, st1, e1, u0, u1, T1⟩ := take_ok (n := n) (K := k + 1) h7 hT (by omega) (top := A + 1) (by omega) (by omega) (by omega)
  obtain ⟨v, st2, e2, v0, v1, T2⟩ := take_ok (n := n) (K := k + 1) h7 T1 (by omega) (top := B) (by omega) (by omega) (by omega)
  rw [callN, h77]
  simp (disch := omega) only [f77_law_shape, evE, evA, evs, evs', evI, evsP, exS, bind_ok, bind_ex, bind_bad, so_ok, so_ex, so_bad, then_nx, then_rt, then_bk, then_ex, then_bad, lift_some, lift_none, soE_some', soE_none, noEx_ok, p_nm, p_tup, p_lst, pN_nil, pN_cons, p_frz, p_fls, p_int, p_bl, p_non, p_tupm, p_lstm, f_int, f_bl, f_str, f_non, f_tup, f_lst, f_fls, f_box, f_scr, u_int, u_bl, u_str, u_non, u_tup, u_lst, u_fls, t_bl, t_non, t_int, t_tup, t_lst, t_mls, t_fls, bd_int, bk_fls, bk_flsb, bk_int, bk_bl, bk_non, bk_str, bk_tup, bk_lst, bk_box, back_rt, back_nx, back_ex, idx_int, ix_tup, ix_lst, ix_mls, ix_fls, ix_box, sl_tup, sl_lst, sl_mls, sl_fls, sl_scr, b_add, b_sub, c_lt, c_le, c_gt, c_ge, c_eq, c_ne, c_eqB, c_neB, c_isN, c_notN, i_int, i_intB, i_abs, i_max, i_min, l_lst, l_tup, l_mls, l_fls, li_lst, li_tup, li_fls, tu_lst, tu_tup, tu_fls, tu_mls, su_2, frzM, getM, isS, subM, isNil, isNon, Gb.start, Option.bind_some, Option.bind_none, Option.map_some, Option.map_none, id_eq, List.getElem?_cons_zero, List.getElem?_cons_succ, List.getElem?_nil, List.set_cons_zero, List.set_cons_succ, List.map_cons, List.map_nil, List.length_cons, List.length_nil, List.cons_append, List.nil_append, List.replicate_succ, List.replicate_zero, Nat.reduceSub, Nat.reduceAdd, Nat.zero_add, Nat.reduceLT, if_true, if_false, reduceIte, Bool.false_eq_true, Bool.not_true, Bool.not_false, Bool.not_not, decide_true, decide_false, decide_not, is0_non, is0_bl, is0_int, is0_str, is0_tup, is0_lst, is0_mls, is0_fls, is1_non, is1_bl, is1_int, is1_str, is1_tup, is1_lst, is1_mls, is1_fls, is2_non, is2_bl, is2_int, is2_str, is2_tup, is2_lst, is2_mls, is2_fls, is3_non, is3_bl, is3_int, is3_str, is3_tup, is3_lst, is3_mls, is3_fls, is4_non, is4_bl, is4_int, is4_str, is4_tup, is4_lst, is4_mls, is4_fls, is5_non, is5_bl, is5_int, is5_str, is5_tup, is5_lst, is5_mls, is5_fls, is6_non, is6_bl, is6_int, is6_str, is6_tup, is6_lst, is6_mls, is6_fls, is7_non, is7_bl, is7_int, is7_str, is7_tup, is7_lst, is7_mls, is7_fls, beq_self_eq_true, Bool.true_beq, Bool.false_beq, Bool.and_true, Bool.true_and, Bool.and_false, Bool.false_and, Bool.or_true, Bool.true_or, Bool.or_false, Bool.false_or, wipeE, e1, e2, if_sz]
  exact ⟨_, _, _, rfl, by omega, by omega, by omega, by omega, T2⟩
theorem check_okF {K : Nat} (h21 : FT 21 = some f21_is_number) (h24 : FT 24 = some f24_next_size) (h25 : FT 25 = some f25_is_start) (h72 : FT 72 = some f72_check_start) (hd : RuleD d p q r) (hp : p.natAbs < 2 ^ 64) (q0 : 0 < q) (q1 : q < 2 ^ 62) (s1 : 1 ≤ s) (s2 : s < nxt p q r s) (hk : 3 ≤ K) :
    callN FT n K 72 [d, .int s] st = .ok .non st := by
  obtain ⟨k, rfl⟩ : ∃ k, K = k + 3 := ⟨K - 3, by omega⟩
  have hf : frzD d = some d := by rcases hd with rfl | rfl <;> rfl
  rw [callN, h72]
  simp (disch := omega) only [f72_check_start, evE, evA, evs, evs', evI, evsP, exS, bind_ok, bind_ex, bind_bad, so_ok, so_ex, so_bad, then_nx, then_rt, then_bk, then_ex, then_bad, lift_some, lift_none, soE_some', soE_none, noEx_ok, p_nm, p_tup, p_lst, pN_nil, pN_cons, p_frz, p_fls, p_int, p_bl, p_non, p_tupm, p_lstm, f_int, f_bl, f_str, f_non, f_tup, f_lst, f_fls, f_box, f_scr, u_int, u_bl, u_str, u_non, u_tup, u_lst, u_fls, t_bl, t_non, t_int, t_tup, t_lst, t_mls, t_fls, bd_int, bk_fls, bk_flsb, bk_int, bk_bl, bk_non, bk_str, bk_tup, bk_lst, bk_box, back_rt, back_nx, back_ex, idx_int, ix_tup, ix_lst, ix_mls, ix_fls, ix_box, sl_tup, sl_lst, sl_mls, sl_fls, sl_scr, b_add, b_sub, c_lt, c_le, c_gt, c_ge, c_eq, c_ne, c_eqB, c_neB, c_isN, c_notN, i_int, i_intB, i_abs, i_max, i_min, l_lst, l_tup, l_mls, l_fls, li_lst, li_tup, li_fls, tu_lst, tu_tup, tu_fls, tu_mls, su_2, frzM, getM, isS, subM, isNil, isNon, Gb.start, Option.bind_some, Option.bind_none, Option.map_some, Option.map_none, id_eq, List.getElem?_cons_zero, List.getElem?_cons_succ, List.getElem?_nil, List.set_cons_zero, List.set_cons_succ, List.map_cons, List.map_nil, List.length_cons, List.length_nil, List.cons_append, List.nil_append, List.replicate_succ, List.replicate_zero, Nat.reduceSub, Nat.reduceAdd, Nat.zero_add, Nat.reduceLT, if_true, if_false, reduceIte, Bool.false_eq_true, Bool.not_true, Bool.not_false, Bool.not_not, decide_true, decide_false, decide_not, is0_non, is0_bl, is0_int, is0_str, is0_tup, is0_lst, is0_mls, is0_fls, is1_non, is1_bl, is1_int, is1_str, is1_tup, is1_lst, is1_mls, is1_fls, is2_non, is2_bl, is2_int, is2_str, is2_tup, is2_lst, is2_mls, is2_fls, is3_non, is3_bl, is3_int, is3_str, is3_tup, is3_lst, is3_mls, is3_fls, is4_non, is4_bl, is4_int, is4_str, is4_tup, is4_lst, is4_mls, is4_fls, is5_non, is5_bl, is5_int, is5_str, is5_tup, is5_lst, is5_mls, is5_fls, is6_non, is6_bl, is6_int, is6_str, is6_tup, is6_lst, is6_mls, is6_fls, is7_non, is7_bl, is7_int, is7_str, is7_tup, is7_lst, is7_mls, is7_fls, beq_self_eq_true, Bool.true_beq, Bool.false_beq, Bool.and_true, Bool.true_and, Bool.and_false, Bool.false_and, Bool.or_true, Bool.true_or, Bool.or_false, Bool.false_or, wipeE, hf, start_ok (FT := FT) h21 h24 h25 hd hp q0 q1, s1, s2]
theorem sizes_okF {K : Nat} (h21 : FT 21 = some f21_is_number) (h24 : FT 24 = some f24_next_size) (h25 : FT 25 = some f25_is_start) (h72 : FT 72 = some f72_check_start) (h73 : FT 73 = some f73_sizes) (hd : RuleD d p q r) (hp : p.natAbs < 2 ^ 64) (q0 : 0 < q) (q1 : q < 2 ^ 62) (s1 : 1 ≤ s) (s2 : s < nxt p q r s) {m : Nat} (hm : m ≤ 100000) (hk : 4 ≤ K) :
    callN FT n K 73 [d, .int s, .int (m : Nat)] st = .ok (.tup (sizL p q r s (m + 1))) st := by
  obtain ⟨k, rfl⟩ : ∃ k, K = k + 4 := ⟨K - 4, by omega⟩
  have hf : frzD d = some d := by rcases hd with rfl | rfl <;> rfl
  have chk := check_okF (n := n) (K := k + 3) (st := st) h21 h24 h25 h72 hd hp q0 q1 s1 s2 (by omega)
  rw [callN, h73]
  simp (disch := omega) only [f73_sizes, evE, evA, evs, evs', evI, evsP, exS, bind_ok, bind_ex, bind_bad, so_ok, so_ex, so_bad, then_nx, then_rt, then_bk, then_ex, then_bad, lift_some, lift_none, soE_some', soE_none, noEx_ok, p_nm, p_tup, p_lst, pN_nil, pN_cons, p_frz, p_fls, p_int, p_bl, p_non, p_tupm, p_lstm, f_int, f_bl, f_str, f_non, f_tup, f_lst, f_fls, f_box, f_scr, u_int, u_bl, u_str, u_non, u_tup, u_lst, u_fls, t_bl, t_non, t_int, t_tup, t_lst, t_mls, t_fls, bd_int, bk_fls, bk_flsb, bk_int, bk_bl, bk_non, bk_str, bk_tup, bk_lst, bk_box, back_rt, back_nx, back_ex, idx_int, ix_tup, ix_lst, ix_mls, ix_fls, ix_box, sl_tup, sl_lst, sl_mls, sl_fls, sl_scr, b_add, b_sub, c_lt, c_le, c_gt, c_ge, c_eq, c_ne, c_eqB, c_neB, c_isN, c_notN, i_int, i_intB, i_abs, i_max, i_min, l_lst, l_tup, l_mls, l_fls, li_lst, li_tup, li_fls, tu_lst, tu_tup, tu_fls, tu_mls, su_2, frzM, getM, isS, subM, isNil, isNon, Gb.start, Option.bind_some, Option.bind_none, Option.map_some, Option.map_none, id_eq, List.getElem?_cons_zero, List.getElem?_cons_succ, List.getElem?_nil, List.set_cons_zero, List.set_cons_succ, List.map_cons, List.map_nil, List.length_cons, List.length_nil, List.cons_append, List.nil_append, List.replicate_succ, List.replicate_zero, Nat.reduceSub, Nat.reduceAdd, Nat.zero_add, Nat.reduceLT, if_true, if_false, reduceIte, Bool.false_eq_true, Bool.not_true, Bool.not_false, Bool.not_not, decide_true, decide_false, decide_not, is0_non, is0_bl, is0_int, is0_str, is0_tup, is0_lst, is0_mls, is0_fls, is1_non, is1_bl, is1_int, is1_str, is1_tup, is1_lst, is1_mls, is1_fls, is2_non, is2_bl, is2_int, is2_str, is2_tup, is2_lst, is2_mls, is2_fls, is3_non, is3_bl, is3_int, is3_str, is3_tup, is3_lst, is3_mls, is3_fls, is4_non, is4_bl, is4_int, is4_str, is4_tup, is4_lst, is4_mls, is4_fls, is5_non, is5_bl, is5_int, is5_str, is5_tup, is5_lst, is5_mls, is5_fls, is6_non, is6_bl, is6_int, is6_str, is6_tup, is6_lst, is6_mls, is6_fls, is7_non, is7_bl, is7_int, is7_str, is7_tup, is7_lst, is7_mls, is7_fls, beq_self_eq_true, Bool.true_beq, Bool.false_beq, Bool.and_true, Bool.true_and, Bool.and_false, Bool.false_and, Bool.or_true, Bool.true_or, Bool.or_false, Bool.false_or, wipeE, hf, chk, if_sz, rngOk_t]
  generalize hr : forL _ _ _ _ = w
  let P : List D → Env → Store → Prop := fun ds ρ st' => ∃ (i : Nat) (a : Option D), i + ds.length = m ∧ ρ = [some d, some (.int s), some (.int (m : Nat)), some (.mls (sizL p q r s (i + 1))), a] ∧ st' = st ∧ ∀ d ∈ ds, ∃ z : Int, d = .int z
  obtain ⟨ρ', st', rfl, i, a, hi, rfl, rfl, _⟩ : ∃ ρ' st', w = .nx ρ' st' ∧ P [] ρ' st' := by
    rw [← hr]
    refine forL_run P ?_ _ _ _ ?_
    · rintro x ds ρ st' ⟨i, a, hi, rfl, rfl, h3⟩
      obtain ⟨z, rfl⟩ := h3 x List.mem_cons_self
      rw [List.length_cons] at hi
      have hl := sizL_len p q r s i
      have hs := sizL_succ p q r s i
      have hlast : L2.atI (sizL p q r s i ++ [.int (siz p q r s i)]) (-1) = some (.int (siz p q r s i)) := at_last
      rw [hs]
      simp (disch := first | omega | (simp only [List.length_append, List.length_map, List.length_take, List.length_drop, List.length_cons, List.length_nil, List.length_range, List.length_replicate, List.length_set, List.length_zipWith, List.length_reverse]; omega)) only [evE, evA, evs, evs', evI, evsP, exS, bind_ok, bind_ex, bind_bad, so_ok, so_ex, so_bad, then_nx, then_rt, then_bk, then_ex, then_bad, lift_some, lift_none, soE_some', soE_none, noEx_ok, p_nm, p_tup, p_lst, pN_nil, pN_cons, p_frz, p_fls, p_int, p_bl, p_non, p_tupm, p_lstm, f_int, f_bl, f_str, f_non, f_tup, f_lst, f_fls, f_box, f_scr, u_int, u_bl, u_str, u_non, u_tup, u_lst, u_fls, t_bl, t_non, t_int, t_tup, t_lst, t_mls, t_fls, bd_int, bk_fls, bk_flsb, bk_int, bk_bl, bk_non, bk_str, bk_tup, bk_lst, bk_box, back_rt, back_nx, back_ex, idx_int, ix_tup, ix_lst, ix_mls, ix_fls, ix_box, sl_tup, sl_lst, sl_mls, sl_fls, sl_scr, b_add, b_sub, c_lt, c_le, c_gt, c_ge, c_eq, c_ne, c_eqB, c_neB, c_isN, c_notN, i_int, i_intB, i_abs, i_max, i_min, l_lst, l_tup, l_mls, l_fls, li_lst, li_tup, li_fls, tu_lst, tu_tup, tu_fls, tu_mls, su_2, frzM, getM, isS, subM, isNil, isNon, Gb.start, Option.bind_some, Option.bind_none, Option.map_some, Option.map_none, id_eq, List.getElem?_cons_zero, List.getElem?_cons_succ, List.getElem?_nil, List.set_cons_zero, List.set_cons_succ, List.map_cons, List.map_nil, List.length_cons, List.length_nil, List.cons_append, List.nil_append, List.replicate_succ, List.replicate_zero, Nat.reduceSub, Nat.reduceAdd, Nat.zero_add, Nat.reduceLT, if_true, if_false, reduceIte, Bool.false_eq_true, Bool.not_true, Bool.not_false, Bool.not_not, decide_true, decide_false, decide_not, is0_non, is0_bl, is0_int, is0_str, is0_tup, is0_lst, is0_mls, is0_fls, is1_non, is1_bl, is1_int, is1_str, is1_tup, is1_lst, is1_mls, is1_fls, is2_non, is2_bl, is2_int, is2_str, is2_tup, is2_lst, is2_mls, is2_fls, is3_non, is3_bl, is3_int, is3_str, is3_tup, is3_lst, is3_mls, is3_fls, is4_non, is4_bl, is4_int, is4_str, is4_tup, is4_lst, is4_mls, is4_fls, is5_non, is5_bl, is5_int, is5_str, is5_tup, is5_lst, is5_mls, is5_fls, is6_non, is6_bl, is6_int, is6_str, is6_tup, is6_lst, is6_mls, is6_fls, is7_non, is7_bl, is7_int, is7_str, is7_tup, is7_lst, is7_mls, is7_fls, beq_self_eq_true, Bool.true_beq, Bool.false_beq, Bool.and_true, Bool.true_and, Bool.and_false, Bool.false_and, Bool.or_true, Bool.true_or, Bool.or_false, Bool.false_or, wipeE, hlast, hf, next_ok (FT := FT) h24 hd hp q0 q1, if_sz, if_szl, hl]
      refine ⟨_, _, rfl, i + 1, some (.int z), by omega, ?_, rfl, fun d hd => h3 d (List.mem_cons_of_mem _ hd)⟩
      rw [sizL_succ, hs]
      rfl
    · exact ⟨0, _, by rw [rng0_len]; omega, rfl, rfl, fun d hd => by obtain ⟨i, _, e⟩ := rng0_mem hd; exact ⟨_, e⟩⟩
  simp (disch := omega) only [evE, evA, evs, evs', evI, evsP, exS, bind_ok, bind_ex, bind_bad, so_ok, so_ex, so_bad, then_nx, then_rt, then_bk, then_ex, then_bad, lift_some, lift_none, soE_some', soE_none, noEx_ok, p_nm, p_tup, p_lst, pN_nil, pN_cons, p_frz, p_fls, p_int, p_bl, p_non, p_tupm, p_lstm, f_int, f_bl, f_str, f_non, f_tup, f_lst, f_fls, f_box, f_scr, u_int, u_bl, u_str, u_non, u_tup, u_lst, u_fls, t_bl, t_non, t_int, t_tup, t_lst, t_mls, t_fls, bd_int, bk_fls, bk_flsb, bk_int, bk_bl, bk_non, bk_str, bk_tup, bk_lst, bk_box, back_rt, back_nx, back_ex, idx_int, ix_tup, ix_lst, ix_mls, ix_fls, ix_box, sl_tup, sl_lst, sl_mls, sl_fls, sl_scr, b_add, b_sub, c_lt, c_le, c_gt, c_ge, c_eq, c_ne, c_eqB, c_neB, c_isN, c_notN, i_int, i_intB, i_abs, i_max, i_min, l_lst, l_tup, l_mls, l_fls, li_lst, li_tup, li_fls, tu_lst, tu_tup, tu_fls, tu_mls, su_2, frzM, getM, isS, subM, isNil, isNon, Gb.start, Option.bind_some, Option.bind_none, Option.map_some, Option.map_none, id_eq, List.getElem?_cons_zero, List.getElem?_cons_succ, List.getElem?_nil, List.set_cons_zero, List.set_cons_succ, List.map_cons, List.map_nil, List.length_cons, List.length_nil, List.cons_append, List.nil_append, List.replicate_succ, List.replicate_zero, Nat.reduceSub, Nat.reduceAdd, Nat.zero_add, Nat.reduceLT, if_true, if_false, reduceIte, Bool.false_eq_true, Bool.not_true, Bool.not_false, Bool.not_not, decide_true, decide_false, decide_not, is0_non, is0_bl, is0_int, is0_str, is0_tup, is0_lst, is0_mls, is0_fls, is1_non, is1_bl, is1_int, is1_str, is1_tup, is1_lst, is1_mls, is1_fls, is2_non, is2_bl, is2_int, is2_str, is2_tup, is2_lst, is2_mls, is2_fls, is3_non, is3_bl, is3_int, is3_str, is3_tup, is3_lst, is3_mls, is3_fls, is4_non, is4_bl, is4_int, is4_str, is4_tup, is4_lst, is4_mls, is4_fls, is5_non, is5_bl, is5_int, is5_str, is5_tup, is5_lst, is5_mls, is5_fls, is6_non, is6_bl, is6_int, is6_str, is6_tup, is6_lst, is6_mls, is6_fls, is7_non, is7_bl, is7_int, is7_str, is7_tup, is7_lst, is7_mls, is7_fls, beq_self_eq_true, Bool.true_beq, Bool.false_beq, Bool.and_true, Bool.true_and, Bool.and_false, Bool.false_and, Bool.or_true, Bool.true_or, Bool.or_false, Bool.false_or, wipeE]
  have : i = m := by simpa using hi
  rw [this]
theorem frun_ok {K : Nat} (h21 : FT 21 = some f21_is_number) (h24 : FT 24 = some f24_next_size) (h25 : FT 25 = some f25_is_start) (h71 : FT 71 = some f71_up) (h72 : FT 72 = some f72_check_start) (h73 : FT 73 = some f73_sizes) (h74 : FT 74 = some f74_block_size) (h75 : FT 75 = some f75_form_run)
    (hd : RuleD d p q r) (hp : p.natAbs < 2 ^ 64) (q0 : 0 < q) (q1 : q < 2 ^ 62) (s1 : 1 ≤ s) (s2 : s < nxt p q r s) (hf' : FormD d' h g) (h0 : 0 ≤ h) (g0 : 1 ≤ g) (g1 : g < 2 ^ 62) {m : Nat} (hm : m ≤ 100000) (hk : 5 ≤ K) :
    callN FT n K 75 [d, d', .int s, .int (m : Nat)] st = .ok (.tup (fitP h g p q r s (m + 1))) st := by
  obtain ⟨k, rfl⟩ : ∃ k, K = k + 5 := ⟨K - 5, by omega⟩
  have hf : frzD d = some d := by rcases hd with rfl | rfl <;> rfl
  have hfF : frzD d' = some d' := by rcases hf' with rfl | rfl <;> rfl
  have e1 := fun st => sizes_okF (n := n) (K := k + 4) (st := st) h21 h24 h25 h72 h73 hd hp q0 q1 s1 s2 hm (by omega)
  have e2 := fun st (s : Int) => bsize_ok (n := n) (K := k + 4) (st := st) (s := s) h71 h74 hf' g0 g1 (by omega)
  rw [callN, h75]
  simp (disch := omega) only [f75_form_run, evE, evA, evs, evs', evI, evsP, exS, bind_ok, bind_ex, bind_bad, so_ok, so_ex, so_bad, then_nx, then_rt, then_bk, then_ex, then_bad, lift_some, lift_none, soE_some', soE_none, noEx_ok, p_nm, p_tup, p_lst, pN_nil, pN_cons, p_frz, p_fls, p_int, p_bl, p_non, p_tupm, p_lstm, f_int, f_bl, f_str, f_non, f_tup, f_lst, f_fls, f_box, f_scr, u_int, u_bl, u_str, u_non, u_tup, u_lst, u_fls, t_bl, t_non, t_int, t_tup, t_lst, t_mls, t_fls, bd_int, bk_fls, bk_flsb, bk_int, bk_bl, bk_non, bk_str, bk_tup, bk_lst, bk_box, back_rt, back_nx, back_ex, idx_int, ix_tup, ix_lst, ix_mls, ix_fls, ix_box, sl_tup, sl_lst, sl_mls, sl_fls, sl_scr, b_add, b_sub, c_lt, c_le, c_gt, c_ge, c_eq, c_ne, c_eqB, c_neB, c_isN, c_notN, i_int, i_intB, i_abs, i_max, i_min, l_lst, l_tup, l_mls, l_fls, li_lst, li_tup, li_fls, tu_lst, tu_tup, tu_fls, tu_mls, su_2, frzM, getM, isS, subM, isNil, isNon, Gb.start, Option.bind_some, Option.bind_none, Option.map_some, Option.map_none, id_eq, List.getElem?_cons_zero, List.getElem?_cons_succ, List.getElem?_nil, List.set_cons_zero, List.set_cons_succ, List.map_cons, List.map_nil, List.length_cons, List.length_nil, List.cons_append, List.nil_append, List.replicate_succ, List.replicate_zero, Nat.reduceSub, Nat.reduceAdd, Nat.zero_add, Nat.reduceLT, if_true, if_false, reduceIte, Bool.false_eq_true, Bool.not_true, Bool.not_false, Bool.not_not, decide_true, decide_false, decide_not, is0_non, is0_bl, is0_int, is0_str, is0_tup, is0_lst, is0_mls, is0_fls, is1_non, is1_bl, is1_int, is1_str, is1_tup, is1_lst, is1_mls, is1_fls, is2_non, is2_bl, is2_int, is2_str, is2_tup, is2_lst, is2_mls, is2_fls, is3_non, is3_bl, is3_int, is3_str, is3_tup, is3_lst, is3_mls, is3_fls, is4_non, is4_bl, is4_int, is4_str, is4_tup, is4_lst, is4_mls, is4_fls, is5_non, is5_bl, is5_int, is5_str, is5_tup, is5_lst, is5_mls, is5_fls, is6_non, is6_bl, is6_int, is6_str, is6_tup, is6_lst, is6_mls, is6_fls, is7_non, is7_bl, is7_int, is7_str, is7_tup, is7_lst, is7_mls, is7_fls, beq_self_eq_true, Bool.true_beq, Bool.false_beq, Bool.and_true, Bool.true_and, Bool.and_false, Bool.false_and, Bool.or_true, Bool.true_or, Bool.or_false, Bool.false_or, wipeE, hf, e1, if_sz]
  generalize hr : forL _ _ _ _ = w
  let P : List D → Env → Store → Prop := fun ds ρ st' => ∃ (i : Nat) (a b c e : Option D), i + ds.length = m + 1 ∧ ds = (List.range' i ds.length).map (fun j => .int (siz p q r s j)) ∧ ρ = [some d, some d', some (.int s), some (.int (m : Nat)), some (.mls (fitP h g p q r s i)), a, b, c, e] ∧ st' = st
  obtain ⟨ρ', st', rfl, i, a, b, c, e, hi, _, rfl, rfl⟩ : ∃ ρ' st', w = .nx ρ' st' ∧ P [] ρ' st' := by
    rw [← hr]
    refine forL_run P ?_ _ _ _ ?_
    · rintro x ds ρ st' ⟨i, a, b, c, e, hi, hds, rfl, rfl⟩
      rw [List.length_cons] at hi hds
      rw [List.range'_succ, List.map_cons] at hds
      obtain ⟨rfl, hds2⟩ := List.cons.inj hds
      cases i with
      | zero =>
        have c0 : ¬ (0 : Int) < ((0 : Nat) : Int) := by decide
        have hr1 : ¬ rm h g s ≤ 0 := by have := (rm_low (h := h) (s := s) g0).1; omega
        simp (disch := omega) only [siz, evE, evA, evs, evs', evI, evsP, exS, bind_ok, bind_ex, bind_bad, so_ok, so_ex, so_bad, then_nx, then_rt, then_bk, then_ex, then_bad, lift_some, lift_none, soE_some', soE_none, noEx_ok, p_nm, p_tup, p_lst, pN_nil, pN_cons, p_frz, p_fls, p_int, p_bl, p_non, p_tupm, p_lstm, f_int, f_bl, f_str, f_non, f_tup, f_lst, f_fls, f_box, f_scr, u_int, u_bl, u_str, u_non, u_tup, u_lst, u_fls, t_bl, t_non, t_int, t_tup, t_lst, t_mls, t_fls, bd_int, bk_fls, bk_flsb, bk_int, bk_bl, bk_non, bk_str, bk_tup, bk_lst, bk_box, back_rt, back_nx, back_ex, idx_int, ix_tup, ix_lst, ix_mls, ix_fls, ix_box, sl_tup, sl_lst, sl_mls, sl_fls, sl_scr, b_add, b_sub, c_lt, c_le, c_gt, c_ge, c_eq, c_ne, c_eqB, c_neB, c_isN, c_notN, i_int, i_intB, i_abs, i_max, i_min, l_lst, l_tup, l_mls, l_fls, li_lst, li_tup, li_fls, tu_lst, tu_tup, tu_fls, tu_mls, su_2, frzM, getM, isS, subM, isNil, isNon, Gb.start, Option.bind_some, Option.bind_none, Option.map_some, Option.map_none, id_eq, List.getElem?_cons_zero, List.getElem?_cons_succ, List.getElem?_nil, List.set_cons_zero, List.set_cons_succ, List.map_cons, List.map_nil, List.length_cons, List.length_nil, List.cons_append, List.nil_append, List.replicate_succ, List.replicate_zero, Nat.reduceSub, Nat.reduceAdd, Nat.zero_add, Nat.reduceLT, if_true, if_false, reduceIte, Bool.false_eq_true, Bool.not_true, Bool.not_false, Bool.not_not, decide_true, decide_false, decide_not, is0_non, is0_bl, is0_int, is0_str, is0_tup, is0_lst, is0_mls, is0_fls, is1_non, is1_bl, is1_int, is1_str, is1_tup, is1_lst, is1_mls, is1_fls, is2_non, is2_bl, is2_int, is2_str, is2_tup, is2_lst, is2_mls, is2_fls, is3_non, is3_bl, is3_int, is3_str, is3_tup, is3_lst, is3_mls, is3_fls, is4_non, is4_bl, is4_int, is4_str, is4_tup, is4_lst, is4_mls, is4_fls, is5_non, is5_bl, is5_int, is5_str, is5_tup, is5_lst, is5_mls, is5_fls, is6_non, is6_bl, is6_int, is6_str, is6_tup, is6_lst, is6_mls, is6_fls, is7_non, is7_bl, is7_int, is7_str, is7_tup, is7_lst, is7_mls, is7_fls, beq_self_eq_true, Bool.true_beq, Bool.false_beq, Bool.and_true, Bool.true_and, Bool.and_false, Bool.false_and, Bool.or_true, Bool.true_or, Bool.or_false, Bool.false_or, wipeE, hfF, e2, fitP_len, c0, hr1, if_sz, if_szl]
        refine ⟨_, _, rfl, 0 + 1, some (.int s), some (.int (rm h g s)), some (.int 0), some (.int 0), by omega, hds2, ?_, rfl⟩
        rw [fitP_succ]
        rfl
      | succ i =>
        have c0 : (0 : Int) < ((i + 1 : Nat) : Int) := by omega
        have hl := fitP_len h g p q r s i
        have hl1 := fitP_len h g p q r s (i + 1)
        have hlast : L2.atI (fitP h g p q r s i ++ [encC (fit h g p q r s i)]) (-1) = some (encC (fit h g p q r s i)) := at_last
        have ec : encC (fit h g p q r s i) = .tup [.int (fit h g p q r s i).1, .int (fit h g p q r s i).2] := rfl
        rw [fitP_succ] at hl1
        rw [ec] at hl1 hlast
        by_cases hle : rm h g (siz p q r s (i + 1)) ≤ (fit h g p q r s i).1
        · rw [fitP_succ, ec]
          simp (disch := omega) only [evE, evA, evs, evs', evI, evsP, exS, bind_ok, bind_ex, bind_bad, so_ok, so_ex, so_bad, then_nx, then_rt, then_bk, then_ex, then_bad, lift_some, lift_none, soE_some', soE_none, noEx_ok, p_nm, p_tup, p_lst, pN_nil, pN_cons, p_frz, p_fls, p_int, p_bl, p_non, p_tupm, p_lstm, f_int, f_bl, f_str, f_non, f_tup, f_lst, f_fls, f_box, f_scr, u_int, u_bl, u_str, u_non, u_tup, u_lst, u_fls, t_bl, t_non, t_int, t_tup, t_lst, t_mls, t_fls, bd_int, bk_fls, bk_flsb, bk_int, bk_bl, bk_non, bk_str, bk_tup, bk_lst, bk_box, back_rt, back_nx, back_ex, idx_int, ix_tup, ix_lst, ix_mls, ix_fls, ix_box, sl_tup, sl_lst, sl_mls, sl_fls, sl_scr, b_add, b_sub, c_lt, c_le, c_gt, c_ge, c_eq, c_ne, c_eqB, c_neB, c_isN, c_notN, i_int, i_intB, i_abs, i_max, i_min, l_lst, l_tup, l_mls, l_fls, li_lst, li_tup, li_fls, tu_lst, tu_tup, tu_fls, tu_mls, su_2, frzM, getM, isS, subM, isNil, isNon, Gb.start, Option.bind_some, Option.bind_none, Option.map_some, Option.map_none, id_eq, List.getElem?_cons_zero, List.getElem?_cons_succ, List.getElem?_nil, List.set_cons_zero, List.set_cons_succ, List.map_cons, List.map_nil, List.length_cons, List.length_nil, List.cons_append, List.nil_append, List.replicate_succ, List.replicate_zero, Nat.reduceSub, Nat.reduceAdd, Nat.zero_add, Nat.reduceLT, if_true, if_false, reduceIte, Bool.false_eq_true, Bool.not_true, Bool.not_false, Bool.not_not, decide_true, decide_false, decide_not, is0_non, is0_bl, is0_int, is0_str, is0_tup, is0_lst, is0_mls, is0_fls, is1_non, is1_bl, is1_int, is1_str, is1_tup, is1_lst, is1_mls, is1_fls, is2_non, is2_bl, is2_int, is2_str, is2_tup, is2_lst, is2_mls, is2_fls, is3_non, is3_bl, is3_int, is3_str, is3_tup, is3_lst, is3_mls, is3_fls, is4_non, is4_bl, is4_int, is4_str, is4_tup, is4_lst, is4_mls, is4_fls, is5_non, is5_bl, is5_int, is5_str, is5_tup, is5_lst, is5_mls, is5_fls, is6_non, is6_bl, is6_int, is6_str, is6_tup, is6_lst, is6_mls, is6_fls, is7_non, is7_bl, is7_int, is7_str, is7_tup, is7_lst, is7_mls, is7_fls, beq_self_eq_true, Bool.true_beq, Bool.false_beq, Bool.and_true, Bool.true_and, Bool.and_false, Bool.false_and, Bool.or_true, Bool.true_or, Bool.or_false, Bool.false_or, wipeE, hfF, e2, hl1, c0, hlast, hle, if_sz, if_szl]
          refine ⟨_, _, rfl, i + 1 + 1, some (.int (siz p q r s (i + 1))), some (.int (rm h g (siz p q r s (i + 1)))), some (.int (fit h g p q r s i).1), some (.int (fit h g p q r s i).2), by omega, hds2, ?_, rfl⟩
          rw [fitP_succ, fitP_succ]
          simp only [fit, if_pos hle, encC]
        · rw [fitP_succ, ec]
          simp (disch := omega) only [evE, evA, evs, evs', evI, evsP, exS, bind_ok, bind_ex, bind_bad, so_ok, so_ex, so_bad, then_nx, then_rt, then_bk, then_ex, then_bad, lift_some, lift_none, soE_some', soE_none, noEx_ok, p_nm, p_tup, p_lst, pN_nil, pN_cons, p_frz, p_fls, p_int, p_bl, p_non, p_tupm, p_lstm, f_int, f_bl, f_str, f_non, f_tup, f_lst, f_fls, f_box, f_scr, u_int, u_bl, u_str, u_non, u_tup, u_lst, u_fls, t_bl, t_non, t_int, t_tup, t_lst, t_mls, t_fls, bd_int, bk_fls, bk_flsb, bk_int, bk_bl, bk_non, bk_str, bk_tup, bk_lst, bk_box, back_rt, back_nx, back_ex, idx_int, ix_tup, ix_lst, ix_mls, ix_fls, ix_box, sl_tup, sl_lst, sl_mls, sl_fls, sl_scr, b_add, b_sub, c_lt, c_le, c_gt, c_ge, c_eq, c_ne, c_eqB, c_neB, c_isN, c_notN, i_int, i_intB, i_abs, i_max, i_min, l_lst, l_tup, l_mls, l_fls, li_lst, li_tup, li_fls, tu_lst, tu_tup, tu_fls, tu_mls, su_2, frzM, getM, isS, subM, isNil, isNon, Gb.start, Option.bind_some, Option.bind_none, Option.map_some, Option.map_none, id_eq, List.getElem?_cons_zero, List.getElem?_cons_succ, List.getElem?_nil, List.set_cons_zero, List.set_cons_succ, List.map_cons, List.map_nil, List.length_cons, List.length_nil, List.cons_append, List.nil_append, List.replicate_succ, List.replicate_zero, Nat.reduceSub, Nat.reduceAdd, Nat.zero_add, Nat.reduceLT, if_true, if_false, reduceIte, Bool.false_eq_true, Bool.not_true, Bool.not_false, Bool.not_not, decide_true, decide_false, decide_not, is0_non, is0_bl, is0_int, is0_str, is0_tup, is0_lst, is0_mls, is0_fls, is1_non, is1_bl, is1_int, is1_str, is1_tup, is1_lst, is1_mls, is1_fls, is2_non, is2_bl, is2_int, is2_str, is2_tup, is2_lst, is2_mls, is2_fls, is3_non, is3_bl, is3_int, is3_str, is3_tup, is3_lst, is3_mls, is3_fls, is4_non, is4_bl, is4_int, is4_str, is4_tup, is4_lst, is4_mls, is4_fls, is5_non, is5_bl, is5_int, is5_str, is5_tup, is5_lst, is5_mls, is5_fls, is6_non, is6_bl, is6_int, is6_str, is6_tup, is6_lst, is6_mls, is6_fls, is7_non, is7_bl, is7_int, is7_str, is7_tup, is7_lst, is7_mls, is7_fls, beq_self_eq_true, Bool.true_beq, Bool.false_beq, Bool.and_true, Bool.true_and, Bool.and_false, Bool.false_and, Bool.or_true, Bool.true_or, Bool.or_false, Bool.false_or, wipeE, hfF, e2, hl1, c0, hlast, hle, if_sz, if_szl]
          refine ⟨_, _, rfl, i + 1 + 1, some (.int (siz p q r s (i + 1))), some (.int (rm h g (siz p q r s (i + 1)))), some (.int (fit h g p q r s i).1), some (.int (fit h g p q r s i).2), by omega, hds2, ?_, rfl⟩
          rw [fitP_succ, fitP_succ]
          simp only [fit, if_neg hle, encC]
    · exact ⟨0, none, none, none, none, by rw [sizL_len]; omega, by rw [sizL_len]; unfold sizL; rw [List.range_eq_range'], by simp [fitP], rfl⟩
  simp (disch := omega) only [evE, evA, evs, evs', evI, evsP, exS, bind_ok, bind_ex, bind_bad, so_ok, so_ex, so_bad, then_nx, then_rt, then_bk, then_ex, then_bad, lift_some, lift_none, soE_some', soE_none, noEx_ok, p_nm, p_tup, p_lst, pN_nil, pN_cons, p_frz, p_fls, p_int, p_bl, p_non, p_tupm, p_lstm, f_int, f_bl, f_str, f_non, f_tup, f_lst, f_fls, f_box, f_scr, u_int, u_bl, u_str, u_non, u_tup, u_lst, u_fls, t_bl, t_non, t_int, t_tup, t_lst, t_mls, t_fls, bd_int, bk_fls, bk_flsb, bk_int, bk_bl, bk_non, bk_str, bk_tup, bk_lst, bk_box, back_rt, back_nx, back_ex, idx_int, ix_tup, ix_lst, ix_mls, ix_fls, ix_box, sl_tup, sl_lst, sl_mls, sl_fls, sl_scr, b_add, b_sub, c_lt, c_le, c_gt, c_ge, c_eq, c_ne, c_eqB, c_neB, c_isN, c_notN, i_int, i_intB, i_abs, i_max, i_min, l_lst, l_tup, l_mls, l_fls, li_lst, li_tup, li_fls, tu_lst, tu_tup, tu_fls, tu_mls, su_2, frzM, getM, isS, subM, isNil, isNon, Gb.start, Option.bind_some, Option.bind_none, Option.map_some, Option.map_none, id_eq, List.getElem?_cons_zero, List.getElem?_cons_succ, List.getElem?_nil, List.set_cons_zero, List.set_cons_succ, List.map_cons, List.map_nil, List.length_cons, List.length_nil, List.cons_append, List.nil_append, List.replicate_succ, List.replicate_zero, Nat.reduceSub, Nat.reduceAdd, Nat.zero_add, Nat.reduceLT, if_true, if_false, reduceIte, Bool.false_eq_true, Bool.not_true, Bool.not_false, Bool.not_not, decide_true, decide_false, decide_not, is0_non, is0_bl, is0_int, is0_str, is0_tup, is0_lst, is0_mls, is0_fls, is1_non, is1_bl, is1_int, is1_str, is1_tup, is1_lst, is1_mls, is1_fls, is2_non, is2_bl, is2_int, is2_str, is2_tup, is2_lst, is2_mls, is2_fls, is3_non, is3_bl, is3_int, is3_str, is3_tup, is3_lst, is3_mls, is3_fls, is4_non, is4_bl, is4_int, is4_str, is4_tup, is4_lst, is4_mls, is4_fls, is5_non, is5_bl, is5_int, is5_str, is5_tup, is5_lst, is5_mls, is5_fls, is6_non, is6_bl, is6_int, is6_str, is6_tup, is6_lst, is6_mls, is6_fls, is7_non, is7_bl, is7_int, is7_str, is7_tup, is7_lst, is7_mls, is7_fls, beq_self_eq_true, Bool.true_beq, Bool.false_beq, Bool.and_true, Bool.true_and, Bool.and_false, Bool.false_and, Bool.or_true, Bool.true_or, Bool.or_false, Bool.false_or, wipeE]
  have : i = m + 1 := by simpa using hi
  rw [this]
end
end Gb

/-! Runs among cells that stay taken. -/
namespace Gb
open PySem
def f124_end_of : Fn := ⟨1, 1,
    (.ret (.ite (.cmp .gt (.bi .len (.cons (.var 0) .nil)) (.con (.int 0))) (.bi .sum (.cons (.idx (.var 0) (.neg (.con (.int 1)))) .nil)) (.con (.int 0)))), false⟩
def f152_stays_run : Fn := ⟨4, 7,
    (.seq (.asg (.nm 4 true) (.lst .nil))
    (.seq (.for (.nm 5 false) (.seq (.call 73 (.cons (.var 0) (.cons (.var 2) (.cons (.var 3) .nil))))) (.seq (.asg (.nm 6 false) (.lst (.star (.call 22 (.cons (.var 1) .nil)) (.star (.slc (.var 4) (.neg (.con (.int 1))) .nil) .nil))))
    (.app 4 (.tup (.cons (.call 137 (.cons (.bi .sorted (.cons (.var 6) .nil)) (.cons (.var 5) .nil))) (.cons (.var 5) .nil))))))
    (.ret (.bi .tuple (.cons (.var 4) .nil))))), false⟩
def f153_ahead_at : Fn := ⟨4, 8,
    (.seq (.par [(4, false), (5, false)] (.cons (.call 124 (.cons (.var 1) .nil)) (.cons (.call 152 (.cons (.var 0) (.cons (.var 1) (.cons (.var 2) (.cons (.var 3) .nil))))) .nil)))
    (.ret (.bi .tuple (.cons (.comp [6, 7] (.tp [(6, false), (7, false)]) (.enm (.var 5)) (.cmp .lt (.idx (.var 7) (.con (.int 0))) (.var 4)) (.var 6)) .nil)))), false⟩
def f156_law_slow : Fn := ⟨4, 10,
    (.seq (.par [(5, false), (6, true)] (.cons (.var 2) (.cons (.lst .nil) .nil)))
    (.seq (.for (.nm 4 false) (.rng1 (.bin .add (.var 3) (.con (.int 1)))) (.seq (.asg (.nm 7 false) (.bin .add (.bi .list (.cons (.var 1) .nil)) (.slc (.var 6) (.neg (.con (.int 1))) .nil)))
    (.seq (.asg (.nm 8 false) (.bi .max (.cons (.bin .add (.lst (.cons (.con (.int 0)) .nil)) (.comp [9] (.nm 9 false) (.seq (.var 7)) (.con (.bl true)) (.bi .sum (.cons (.var 9) .nil)))) .nil)))
    (.seq (.app 6 (.tup (.cons (.call 79 (.cons (.call 80 (.cons (.var 7) (.cons (.var 8) .nil))) (.cons (.var 5) (.cons (.var 8) .nil)))) (.cons (.var 5) .nil))))
    (.asg (.nm 5 false) (.call 43 (.cons (.var 0) (.cons (.var 5) .nil))))))))
    (.ret (.bi .tuple (.cons (.var 6) .nil))))), false⟩
theorem cut_last {α : Type} (xs : List α) (x : α) : cutL (xs ++ [x]) (some (-1)) none = [x] := by
  unfold cutL
  rw [HT.sIx_none]
  have : HT.sIx (xs ++ [x]).length 0 (some (-1)) = xs.length := by
    show (if (-1 : Int) < 0 then ((-1 : Int) + ((xs ++ [x]).length : Int)).toNat else min (-1 : Int).toNat (xs ++ [x]).length) = xs.length
    rw [if_pos (by decide), List.length_append, List.length_singleton]
    omega
  rw [this]
  simp
theorem mx_fold : ∀ (r : List Int) (x : Int), (List.foldl (fun m y => if y > m then y else m) x r = x ∨ List.foldl (fun m y => if y > m then y else m) x r ∈ r) ∧ x ≤ List.foldl (fun m y => if y > m then y else m) x r ∧ ∀ z ∈ r, z ≤ List.foldl (fun m y => if y > m then y else m) x r
  | [], x => ⟨.inl rfl, Int.le_refl _, fun z hz => by cases hz⟩
  | y :: r, x => by
    rw [List.foldl_cons]
    obtain ⟨h1, h2, h3⟩ := mx_fold r (if y > x then y else x)
    have hm : x ≤ (if y > x then y else x) ∧ y ≤ (if y > x then y else x) := by omega
    refine ⟨?_, Int.le_trans hm.1 h2, fun z hz => ?_⟩
    · rcases h1 with h1 | h1
      · rw [h1]
        split
        · exact .inr List.mem_cons_self
        · exact .inl rfl
      · exact .inr (List.mem_cons_of_mem _ h1)
    · rcases List.mem_cons.mp hz with rfl | hz
      · exact Int.le_trans hm.2 h2
      · exact h3 z hz
theorem mxL_mem {x : Int} {r : List Int} : mxL (x :: r) ∈ x :: r ∧ ∀ z ∈ x :: r, z ≤ mxL (x :: r) := by
  obtain ⟨a, b, c⟩ := mx_fold r x
  refine ⟨?_, fun z hz => ?_⟩
  · rcases a with a | a
    · show List.foldl _ x r ∈ _
      rw [a]; exact List.mem_cons_self
    · exact List.mem_cons_of_mem _ a
  · rcases List.mem_cons.mp hz with rfl | hz
    · exact b
    · exact c z hz
/-- the blocks one after another, among taken cells -/
def srun (L : Prs) (p q r s : Int) : Nat → Int × Int
  | 0 => (lowP s 0 (sortB leP L), s)
  | i + 1 => (lowP (siz p q r s (i + 1)) 0 (sortB leP (L ++ [srun L p q r s i])), siz p q r s (i + 1))
def bits (L : Prs) (p q r s : Int) : Nat → Prs
  | 0 => L
  | i + 1 => L ++ [srun L p q r s i]
theorem srun_eq (L : Prs) (p q r s : Int) : ∀ i, srun L p q r s i = (lowP (siz p q r s i) 0 (sortB leP (bits L p q r s i)), siz p q r s i)
  | 0 => rfl
  | i + 1 => rfl
def srunL (L : Prs) (p q r s : Int) (i : Nat) : Prs := (List.range i).map (srun L p q r s)
theorem srunL_len (L : Prs) (p q r s : Int) (i : Nat) : (srunL L p q r s i).length = i := by unfold srunL; simp
theorem srunL_succ (L : Prs) (p q r s : Int) (i : Nat) : srunL L p q r s (i + 1) = srunL L p q r s i ++ [srun L p q r s i] := by
  unfold srunL
  rw [List.range_succ, List.map_append]; rfl
theorem bits_cut (L : Prs) (p q r s : Int) : ∀ i, encP L ++ cutL (encP (srunL L p q r s i)) (some (-1)) none = encP (bits L p q r s i)
  | 0 => List.append_nil _
  | i + 1 => by
    rw [srunL_succ, encP_app, show encP [srun L p q r s i] = [encC (srun L p q r s i)] from rfl, cut_last]
    show _ = encP (L ++ [srun L p q r s i])
    rw [encP_app]; rfl
theorem bits_len {L : Prs} {p q r s : Int} (hL : L.length ≤ 1000) (i : Nat) : (encP (bits L p q r s i)).length ≤ 1001 := by
  rw [encP_len]
  cases i with
  | zero => show L.length ≤ _; omega
  | succ i => show (L ++ [_]).length ≤ _; rw [List.length_append, List.length_singleton]; omega
theorem cut_len1 {α : Type} (xs : List α) : (cutL xs (some (-1)) none).length ≤ xs.length := by
  unfold cutL
  rw [List.length_take, List.length_drop]; omega
/-- what holds of each block -/
structure SrOk (L : Prs) (p q r s : Int) (i : Nat) : Prop where
  srt : Srt 0 (sortB leP (bits L p q r s i))
  low : IsLow (bits L p q r s i) (siz p q r s i) 0 (srun L p q r s i).1
theorem sr_ok {L : Prs} {p q r s : Int} (hL : Srt 0 L) (hK : Kin p q r) (s1 : 1 ≤ s) (s2 : s < nxt p q r s) : ∀ i, SrOk L p q r s i
  | 0 => by
    have hp := sortB_perm (le := leP) L
    have h1 : Srt 0 (sortB leP L) := by
      refine srt_of (leP_srt _) ((hp.pairwise_iff (fun {a b} h => h.symm)).mpr hL.dis) fun x hx => ?_
      have := Srt.mem hL x (hp.mem_iff.mp hx)
      omega
    exact ⟨h1, low_cov (fun k => cov_perm hp k) (low_is h1 s1)⟩
  | i + 1 => by
    obtain ⟨a, b⟩ := sr_ok hL hK s1 s2 i
    have hp := sortB_perm (le := leP) (L ++ [srun L p q r s i])
    have hz := (siz_good hK s1 s2 i).1
    have e2 : (srun L p q r s i).2 = siz p q r s i := by rw [srun_eq]
    have hsub : ∀ k, cov (bits L p q r s i) k = false → cov L k = false := fun k hk => by
      cases i with
      | zero => exact hk
      | succ i =>
        rw [show bits L p q r s (i + 1) = L ++ [srun L p q r s i] from rfl, cov_app, Bool.or_eq_false_iff] at hk
        exact hk.1
    have h1 : Srt 0 (sortB leP (L ++ [srun L p q r s i])) := beside_srt hL b.1 (by omega) fun k k1 k2 => hsub k (b.2.1 k k1 (by omega))
    exact ⟨h1, low_cov (fun k => cov_perm hp k) (low_is h1 (siz_good hK s1 s2 (i + 1)).1)⟩
def sizD (p q r s : Int) (i : Nat) : D := .int (siz p q r s i)
def sumC : D → D
  | .tup [.int a, .int b] => .int (a + b)
  | d => d
def endsC (L : Prs) : List Int := L.map fun c => c.1 + c.2
theorem endsC_map (L : Prs) : (encP L).map sumC = (endsC L).map .int := by
  unfold encP endsC
  rw [List.map_map, List.map_map]
  rfl
structure RunS (FT : Nat → Option Fn) : Prop where
  h21 : FT 21 = some f21_is_number
  h22 : FT 22 = some f22_tupled
  h24 : FT 24 = some f24_next_size
  h25 : FT 25 = some f25_is_start
  h72 : FT 72 = some f72_check_start
  h73 : FT 73 = some f73_sizes
  h124 : FT 124 = some f124_end_of
  h137 : FT 137 = some f137_lowest_place
  h152 : FT 152 = some f152_stays_run
  h153 : FT 153 = some f153_ahead_at
/-- the places ahead -/
def ahG (E : Int) : D → Option D
  | .tup [.int i, .tup [.int a, _]] => if a < E then some (.int i) else none
  | d => some d
def aheadL (L : Prs) (p q r s : Int) (m : Nat) : List D := (enumL (encP (srunL L p q r s m))).filterMap (ahG (endP 0 L))
theorem enum_mem {L : Prs} {d : D} (h : d ∈ enumL (encP L)) : ∃ (i : Nat) (c : Int × Int), d = .tup [.int (i : Nat), encC c] := by
  unfold enumL at h
  obtain ⟨i, hi, rfl⟩ := List.mem_mapIdx.mp h
  unfold encP at hi ⊢
  exact ⟨i, L[i]'(by rw [List.length_map] at hi; exact hi), by rw [List.getElem_map]⟩
theorem aheadL_pl (L : Prs) (p q r s : Int) (m : Nat) : (aheadL L p q r s m).all (plD 0) = true ∧ (aheadL L p q r s m).length ≤ m := by
  constructor
  · refine List.all_eq_true.mpr fun d hd => ?_
    obtain ⟨x, hx, e⟩ := List.mem_filterMap.mp hd
    obtain ⟨i, c, rfl⟩ := enum_mem hx
    unfold ahG encC at e
    dsimp only at e
    split at e
    · cases e; rfl
    · cases e
  · unfold aheadL
    refine Nat.le_trans (List.length_filterMap_le _ _) ?_
    unfold enumL
    rw [List.length_mapIdx, encP_len, srunL_len]
    exact Nat.le_refl _
section
variable {FT : Nat → Option Fn} {n : Nat} {st : Store} {d d' : D} {L : Prs} {p q r s : Int}
theorem endof_ok {K : Nat} (h124 : FT 124 = some f124_end_of) (hd : RepP d L) (hk : 1 ≤ K) : callN FT n K 124 [d] st = .ok (.int (endP 0 L)) st := by
  obtain ⟨k, rfl⟩ : ∃ k, K = k + 1 := ⟨K - 1, by omega⟩
  rw [callN, h124]
  have su : ∀ i j : Int, biD .sum [.lst [.int i, .int j]] = some (.int (i + j)) := fun i j => by
    show some (D.int (i + (j + 0))) = _
    rw [Int.add_zero]
  rcases List.eq_nil_or_concat L with rfl | ⟨G, l, rfl⟩
  · have c0 : ¬ (0 : Int) < ((0 : Nat) : Int) := by decide
    rcases hd with rfl | rfl | rfl
    · simp (disch := omega) only [f124_end_of, evE, evA, evs, evs', evI, evsP, exS, bind_ok, bind_ex, bind_bad, so_ok, so_ex, so_bad, then_nx, then_rt, then_bk, then_ex, then_bad, lift_some, lift_none, soE_some', soE_none, noEx_ok, p_nm, p_tup, p_lst, pN_nil, pN_cons, p_frz, p_fls, p_int, p_bl, p_non, p_tupm, p_lstm, f_int, f_bl, f_str, f_non, f_tup, f_lst, f_fls, f_box, f_scr, u_int, u_bl, u_str, u_non, u_tup, u_lst, u_fls, t_bl, t_non, t_int, t_tup, t_lst, t_mls, t_fls, bd_int, bk_fls, bk_flsb, bk_int, bk_bl, bk_non, bk_str, bk_tup, bk_lst, bk_box, back_rt, back_nx, back_ex, idx_int, ix_tup, ix_lst, ix_mls, ix_fls, ix_box, sl_tup, sl_lst, sl_mls, sl_fls, sl_scr, b_add, b_sub, c_lt, c_le, c_gt, c_ge, c_eq, c_ne, c_eqB, c_neB, c_isN, c_notN, i_int, i_intB, i_abs, i_max, i_min, l_lst, l_tup, l_mls, l_fls, li_lst, li_tup, li_fls, tu_lst, tu_tup, tu_fls, tu_mls, su_2, frzM, getM, isS, subM, isNil, isNon, Gb.start, Option.bind_some, Option.bind_none, Option.map_some, Option.map_none, id_eq, List.getElem?_cons_zero, List.getElem?_cons_succ, List.getElem?_nil, List.set_cons_zero, List.set_cons_succ, List.map_cons, List.map_nil, List.length_cons, List.length_nil, List.cons_append, List.nil_append, List.replicate_succ, List.replicate_zero, Nat.reduceSub, Nat.reduceAdd, Nat.zero_add, Nat.reduceLT, if_true, if_false, reduceIte, Bool.false_eq_true, Bool.not_true, Bool.not_false, Bool.not_not, decide_true, decide_false, decide_not, is0_non, is0_bl, is0_int, is0_str, is0_tup, is0_lst, is0_mls, is0_fls, is1_non, is1_bl, is1_int, is1_str, is1_tup, is1_lst, is1_mls, is1_fls, is2_non, is2_bl, is2_int, is2_str, is2_tup, is2_lst, is2_mls, is2_fls, is3_non, is3_bl, is3_int, is3_str, is3_tup, is3_lst, is3_mls, is3_fls, is4_non, is4_bl, is4_int, is4_str, is4_tup, is4_lst, is4_mls, is4_fls, is5_non, is5_bl, is5_int, is5_str, is5_tup, is5_lst, is5_mls, is5_fls, is6_non, is6_bl, is6_int, is6_str, is6_tup, is6_lst, is6_mls, is6_fls, is7_non, is7_bl, is7_int, is7_str, is7_tup, is7_lst, is7_mls, is7_fls, beq_self_eq_true, Bool.true_beq, Bool.false_beq, Bool.and_true, Bool.true_and, Bool.and_false, Bool.false_and, Bool.or_true, Bool.true_or, Bool.or_false, Bool.false_or, wipeE, show encP [] = [] from rfl, c0, endP]
    · simp (disch := omega) only [f124_end_of, evE, evA, evs, evs', evI, evsP, exS, bind_ok, bind_ex, bind_bad, so_ok, so_ex, so_bad, then_nx, then_rt, then_bk, then_ex, then_bad, lift_some, lift_none, soE_some', soE_none, noEx_ok, p_nm, p_tup, p_lst, pN_nil, pN_cons, p_frz, p_fls, p_int, p_bl, p_non, p_tupm, p_lstm, f_int, f_bl, f_str, f_non, f_tup, f_lst, f_fls, f_box, f_scr, u_int, u_bl, u_str, u_non, u_tup, u_lst, u_fls, t_bl, t_non, t_int, t_tup, t_lst, t_mls, t_fls, bd_int, bk_fls, bk_flsb, bk_int, bk_bl, bk_non, bk_str, bk_tup, bk_lst, bk_box, back_rt, back_nx, back_ex, idx_int, ix_tup, ix_lst, ix_mls, ix_fls, ix_box, sl_tup, sl_lst, sl_mls, sl_fls, sl_scr, b_add, b_sub, c_lt, c_le, c_gt, c_ge, c_eq, c_ne, c_eqB, c_neB, c_isN, c_notN, i_int, i_intB, i_abs, i_max, i_min, l_lst, l_tup, l_mls, l_fls, li_lst, li_tup, li_fls, tu_lst, tu_tup, tu_fls, tu_mls, su_2, frzM, getM, isS, subM, isNil, isNon, Gb.start, Option.bind_some, Option.bind_none, Option.map_some, Option.map_none, id_eq, List.getElem?_cons_zero, List.getElem?_cons_succ, List.getElem?_nil, List.set_cons_zero, List.set_cons_succ, List.map_cons, List.map_nil, List.length_cons, List.length_nil, List.cons_append, List.nil_append, List.replicate_succ, List.replicate_zero, Nat.reduceSub, Nat.reduceAdd, Nat.zero_add, Nat.reduceLT, if_true, if_false, reduceIte, Bool.false_eq_true, Bool.not_true, Bool.not_false, Bool.not_not, decide_true, decide_false, decide_not, is0_non, is0_bl, is0_int, is0_str, is0_tup, is0_lst, is0_mls, is0_fls, is1_non, is1_bl, is1_int, is1_str, is1_tup, is1_lst, is1_mls, is1_fls, is2_non, is2_bl, is2_int, is2_str, is2_tup, is2_lst, is2_mls, is2_fls, is3_non, is3_bl, is3_int, is3_str, is3_tup, is3_lst, is3_mls, is3_fls, is4_non, is4_bl, is4_int, is4_str, is4_tup, is4_lst, is4_mls, is4_fls, is5_non, is5_bl, is5_int, is5_str, is5_tup, is5_lst, is5_mls, is5_fls, is6_non, is6_bl, is6_int, is6_str, is6_tup, is6_lst, is6_mls, is6_fls, is7_non, is7_bl, is7_int, is7_str, is7_tup, is7_lst, is7_mls, is7_fls, beq_self_eq_true, Bool.true_beq, Bool.false_beq, Bool.and_true, Bool.true_and, Bool.and_false, Bool.false_and, Bool.or_true, Bool.true_or, Bool.or_false, Bool.false_or, wipeE, show encP [] = [] from rfl, c0, endP]
    · simp (disch := omega) only [f124_end_of, evE, evA, evs, evs', evI, evsP, exS, bind_ok, bind_ex, bind_bad, so_ok, so_ex, so_bad, then_nx, then_rt, then_bk, then_ex, then_bad, lift_some, lift_none, soE_some', soE_none, noEx_ok, p_nm, p_tup, p_lst, pN_nil, pN_cons, p_frz, p_fls, p_int, p_bl, p_non, p_tupm, p_lstm, f_int, f_bl, f_str, f_non, f_tup, f_lst, f_fls, f_box, f_scr, u_int, u_bl, u_str, u_non, u_tup, u_lst, u_fls, t_bl, t_non, t_int, t_tup, t_lst, t_mls, t_fls, bd_int, bk_fls, bk_flsb, bk_int, bk_bl, bk_non, bk_str, bk_tup, bk_lst, bk_box, back_rt, back_nx, back_ex, idx_int, ix_tup, ix_lst, ix_mls, ix_fls, ix_box, sl_tup, sl_lst, sl_mls, sl_fls, sl_scr, b_add, b_sub, c_lt, c_le, c_gt, c_ge, c_eq, c_ne, c_eqB, c_neB, c_isN, c_notN, i_int, i_intB, i_abs, i_max, i_min, l_lst, l_tup, l_mls, l_fls, li_lst, li_tup, li_fls, tu_lst, tu_tup, tu_fls, tu_mls, su_2, frzM, getM, isS, subM, isNil, isNon, Gb.start, Option.bind_some, Option.bind_none, Option.map_some, Option.map_none, id_eq, List.getElem?_cons_zero, List.getElem?_cons_succ, List.getElem?_nil, List.set_cons_zero, List.set_cons_succ, List.map_cons, List.map_nil, List.length_cons, List.length_nil, List.cons_append, List.nil_append, List.replicate_succ, List.replicate_zero, Nat.reduceSub, Nat.reduceAdd, Nat.zero_add, Nat.reduceLT, if_true, if_false, reduceIte, Bool.false_eq_true, Bool.not_true, Bool.not_false, Bool.not_not, decide_true, decide_false, decide_not, is0_non, is0_bl, is0_int, is0_str, is0_tup, is0_lst, is0_mls, is0_fls, is1_non, is1_bl, is1_int, is1_str, is1_tup, is1_lst, is1_mls, is1_fls, is2_non, is2_bl, is2_int, is2_str, is2_tup, is2_lst, is2_mls, is2_fls, is3_non, is3_bl, is3_int, is3_str, is3_tup, is3_lst, is3_mls, is3_fls, is4_non, is4_bl, is4_int, is4_str, is4_tup, is4_lst, is4_mls, is4_fls, is5_non, is5_bl, is5_int, is5_str, is5_tup, is5_lst, is5_mls, is5_fls, is6_non, is6_bl, is6_int, is6_str, is6_tup, is6_lst, is6_mls, is6_fls, is7_non, is7_bl, is7_int, is7_str, is7_tup, is7_lst, is7_mls, is7_fls, beq_self_eq_true, Bool.true_beq, Bool.false_beq, Bool.and_true, Bool.true_and, Bool.and_false, Bool.false_and, Bool.or_true, Bool.true_or, Bool.or_false, Bool.false_or, wipeE, show encQ [] = [] from rfl, c0, endP]
  · rw [List.concat_eq_append] at hd
    rw [List.concat_eq_append, endP_snoc]
    have c1 : (0 : Int) < (((encP G ++ [D.tup [.int l.1, .int l.2]]).length : Nat) : Int) := by rw [List.length_append, List.length_singleton]; omega
    have eQ : encQ (G ++ [l]) = encQ G ++ [.lst [.int l.1, .int l.2]] := by unfold encQ; rw [List.map_append]; rfl
    have c2 : (0 : Int) < (((encQ G ++ [D.lst [.int l.1, .int l.2]]).length : Nat) : Int) := by rw [List.length_append, List.length_singleton]; omega
    rcases hd with rfl | rfl | rfl
    · rw [sndLast]
      simp (disch := omega) only [f124_end_of, evE, evA, evs, evs', evI, evsP, exS, bind_ok, bind_ex, bind_bad, so_ok, so_ex, so_bad, then_nx, then_rt, then_bk, then_ex, then_bad, lift_some, lift_none, soE_some', soE_none, noEx_ok, p_nm, p_tup, p_lst, pN_nil, pN_cons, p_frz, p_fls, p_int, p_bl, p_non, p_tupm, p_lstm, f_int, f_bl, f_str, f_non, f_tup, f_lst, f_fls, f_box, f_scr, u_int, u_bl, u_str, u_non, u_tup, u_lst, u_fls, t_bl, t_non, t_int, t_tup, t_lst, t_mls, t_fls, bd_int, bk_fls, bk_flsb, bk_int, bk_bl, bk_non, bk_str, bk_tup, bk_lst, bk_box, back_rt, back_nx, back_ex, idx_int, ix_tup, ix_lst, ix_mls, ix_fls, ix_box, sl_tup, sl_lst, sl_mls, sl_fls, sl_scr, b_add, b_sub, c_lt, c_le, c_gt, c_ge, c_eq, c_ne, c_eqB, c_neB, c_isN, c_notN, i_int, i_intB, i_abs, i_max, i_min, l_lst, l_tup, l_mls, l_fls, li_lst, li_tup, li_fls, tu_lst, tu_tup, tu_fls, tu_mls, su_2, frzM, getM, isS, subM, isNil, isNon, Gb.start, Option.bind_some, Option.bind_none, Option.map_some, Option.map_none, id_eq, List.getElem?_cons_zero, List.getElem?_cons_succ, List.getElem?_nil, List.set_cons_zero, List.set_cons_succ, List.map_cons, List.map_nil, List.length_cons, List.length_nil, List.cons_append, List.nil_append, List.replicate_succ, List.replicate_zero, Nat.reduceSub, Nat.reduceAdd, Nat.zero_add, Nat.reduceLT, if_true, if_false, reduceIte, Bool.false_eq_true, Bool.not_true, Bool.not_false, Bool.not_not, decide_true, decide_false, decide_not, is0_non, is0_bl, is0_int, is0_str, is0_tup, is0_lst, is0_mls, is0_fls, is1_non, is1_bl, is1_int, is1_str, is1_tup, is1_lst, is1_mls, is1_fls, is2_non, is2_bl, is2_int, is2_str, is2_tup, is2_lst, is2_mls, is2_fls, is3_non, is3_bl, is3_int, is3_str, is3_tup, is3_lst, is3_mls, is3_fls, is4_non, is4_bl, is4_int, is4_str, is4_tup, is4_lst, is4_mls, is4_fls, is5_non, is5_bl, is5_int, is5_str, is5_tup, is5_lst, is5_mls, is5_fls, is6_non, is6_bl, is6_int, is6_str, is6_tup, is6_lst, is6_mls, is6_fls, is7_non, is7_bl, is7_int, is7_str, is7_tup, is7_lst, is7_mls, is7_fls, beq_self_eq_true, Bool.true_beq, Bool.false_beq, Bool.and_true, Bool.true_and, Bool.and_false, Bool.false_and, Bool.or_true, Bool.true_or, Bool.or_false, Bool.false_or, wipeE, c1, at_last]
    · rw [sndLast]
      simp (disch := omega) only [f124_end_of, evE, evA, evs, evs', evI, evsP, exS, bind_ok, bind_ex, bind_bad, so_ok, so_ex, so_bad, then_nx, then_rt, then_bk, then_ex, then_bad, lift_some, lift_none, soE_some', soE_none, noEx_ok, p_nm, p_tup, p_lst, pN_nil, pN_cons, p_frz, p_fls, p_int, p_bl, p_non, p_tupm, p_lstm, f_int, f_bl, f_str, f_non, f_tup, f_lst, f_fls, f_box, f_scr, u_int, u_bl, u_str, u_non, u_tup, u_lst, u_fls, t_bl, t_non, t_int, t_tup, t_lst, t_mls, t_fls, bd_int, bk_fls, bk_flsb, bk_int, bk_bl, bk_non, bk_str, bk_tup, bk_lst, bk_box, back_rt, back_nx, back_ex, idx_int, ix_tup, ix_lst, ix_mls, ix_fls, ix_box, sl_tup, sl_lst, sl_mls, sl_fls, sl_scr, b_add, b_sub, c_lt, c_le, c_gt, c_ge, c_eq, c_ne, c_eqB, c_neB, c_isN, c_notN, i_int, i_intB, i_abs, i_max, i_min, l_lst, l_tup, l_mls, l_fls, li_lst, li_tup, li_fls, tu_lst, tu_tup, tu_fls, tu_mls, su_2, frzM, getM, isS, subM, isNil, isNon, Gb.start, Option.bind_some, Option.bind_none, Option.map_some, Option.map_none, id_eq, List.getElem?_cons_zero, List.getElem?_cons_succ, List.getElem?_nil, List.set_cons_zero, List.set_cons_succ, List.map_cons, List.map_nil, List.length_cons, List.length_nil, List.cons_append, List.nil_append, List.replicate_succ, List.replicate_zero, Nat.reduceSub, Nat.reduceAdd, Nat.zero_add, Nat.reduceLT, if_true, if_false, reduceIte, Bool.false_eq_true, Bool.not_true, Bool.not_false, Bool.not_not, decide_true, decide_false, decide_not, is0_non, is0_bl, is0_int, is0_str, is0_tup, is0_lst, is0_mls, is0_fls, is1_non, is1_bl, is1_int, is1_str, is1_tup, is1_lst, is1_mls, is1_fls, is2_non, is2_bl, is2_int, is2_str, is2_tup, is2_lst, is2_mls, is2_fls, is3_non, is3_bl, is3_int, is3_str, is3_tup, is3_lst, is3_mls, is3_fls, is4_non, is4_bl, is4_int, is4_str, is4_tup, is4_lst, is4_mls, is4_fls, is5_non, is5_bl, is5_int, is5_str, is5_tup, is5_lst, is5_mls, is5_fls, is6_non, is6_bl, is6_int, is6_str, is6_tup, is6_lst, is6_mls, is6_fls, is7_non, is7_bl, is7_int, is7_str, is7_tup, is7_lst, is7_mls, is7_fls, beq_self_eq_true, Bool.true_beq, Bool.false_beq, Bool.and_true, Bool.true_and, Bool.and_false, Bool.false_and, Bool.or_true, Bool.true_or, Bool.or_false, Bool.false_or, wipeE, c1, at_last]
    · rw [eQ]
      simp (disch := omega) only [f124_end_of, evE, evA, evs, evs', evI, evsP, exS, bind_ok, bind_ex, bind_bad, so_ok, so_ex, so_bad, then_nx, then_rt, then_bk, then_ex, then_bad, lift_some, lift_none, soE_some', soE_none, noEx_ok, p_nm, p_tup, p_lst, pN_nil, pN_cons, p_frz, p_fls, p_int, p_bl, p_non, p_tupm, p_lstm, f_int, f_bl, f_str, f_non, f_tup, f_lst, f_fls, f_box, f_scr, u_int, u_bl, u_str, u_non, u_tup, u_lst, u_fls, t_bl, t_non, t_int, t_tup, t_lst, t_mls, t_fls, bd_int, bk_fls, bk_flsb, bk_int, bk_bl, bk_non, bk_str, bk_tup, bk_lst, bk_box, back_rt, back_nx, back_ex, idx_int, ix_tup, ix_lst, ix_mls, ix_fls, ix_box, sl_tup, sl_lst, sl_mls, sl_fls, sl_scr, b_add, b_sub, c_lt, c_le, c_gt, c_ge, c_eq, c_ne, c_eqB, c_neB, c_isN, c_notN, i_int, i_intB, i_abs, i_max, i_min, l_lst, l_tup, l_mls, l_fls, li_lst, li_tup, li_fls, tu_lst, tu_tup, tu_fls, tu_mls, su_2, frzM, getM, isS, subM, isNil, isNon, Gb.start, Option.bind_some, Option.bind_none, Option.map_some, Option.map_none, id_eq, List.getElem?_cons_zero, List.getElem?_cons_succ, List.getElem?_nil, List.set_cons_zero, List.set_cons_succ, List.map_cons, List.map_nil, List.length_cons, List.length_nil, List.cons_append, List.nil_append, List.replicate_succ, List.replicate_zero, Nat.reduceSub, Nat.reduceAdd, Nat.zero_add, Nat.reduceLT, if_true, if_false, reduceIte, Bool.false_eq_true, Bool.not_true, Bool.not_false, Bool.not_not, decide_true, decide_false, decide_not, is0_non, is0_bl, is0_int, is0_str, is0_tup, is0_lst, is0_mls, is0_fls, is1_non, is1_bl, is1_int, is1_str, is1_tup, is1_lst, is1_mls, is1_fls, is2_non, is2_bl, is2_int, is2_str, is2_tup, is2_lst, is2_mls, is2_fls, is3_non, is3_bl, is3_int, is3_str, is3_tup, is3_lst, is3_mls, is3_fls, is4_non, is4_bl, is4_int, is4_str, is4_tup, is4_lst, is4_mls, is4_fls, is5_non, is5_bl, is5_int, is5_str, is5_tup, is5_lst, is5_mls, is5_fls, is6_non, is6_bl, is6_int, is6_str, is6_tup, is6_lst, is6_mls, is6_fls, is7_non, is7_bl, is7_int, is7_str, is7_tup, is7_lst, is7_mls, is7_fls, beq_self_eq_true, Bool.true_beq, Bool.false_beq, Bool.and_true, Bool.true_and, Bool.and_false, Bool.false_and, Bool.or_true, Bool.true_or, Bool.or_false, Bool.false_or, wipeE, c2, at_last, su]
theorem srun_ok {K : Nat} (H : RunS FT) (hd : RuleD d p q r) (hp : p.natAbs < 2 ^ 64) (q0 : 0 < q) (q1 : q < 2 ^ 62) (s1 : 1 ≤ s) (s2 : s < nxt p q r s) (hP : RepP d' L) (hL : L.length ≤ 1000) {m : Nat} (hm : m ≤ 100000) (hk : 5 ≤ K) :
    callN FT n K 152 [d, d', .int s, .int (m : Nat)] st = .ok (.tup (encP (srunL L p q r s (m + 1)))) st := by
  obtain ⟨k, rfl⟩ : ∃ k, K = k + 5 := ⟨K - 5, by omega⟩
  have hf : frzD d = some d := by rcases hd with rfl | rfl <;> rfl
  have hfP := hP.frz
  have e1 := fun st => sizes_okF (n := n) (K := k + 4) (st := st) H.h21 H.h24 H.h25 H.h72 H.h73 hd hp q0 q1 s1 s2 hm (by omega)
  have e2 := fun st => tupP_ok (n := n) (K := k + 4) (st := st) H.h22 hP (by omega) (by omega)
  have sqT : ∀ xs : List D, seqOf (.tup xs) = some xs := fun _ => rfl
  have sqF : ∀ xs : List D, seqOf (.fls xs) = some xs := fun _ => rfl
  rw [callN, H.h152]
  simp (disch := omega) only [f152_stays_run, evE, evA, evs, evs', evI, evsP, exS, bind_ok, bind_ex, bind_bad, so_ok, so_ex, so_bad, then_nx, then_rt, then_bk, then_ex, then_bad, lift_some, lift_none, soE_some', soE_none, noEx_ok, p_nm, p_tup, p_lst, pN_nil, pN_cons, p_frz, p_fls, p_int, p_bl, p_non, p_tupm, p_lstm, f_int, f_bl, f_str, f_non, f_tup, f_lst, f_fls, f_box, f_scr, u_int, u_bl, u_str, u_non, u_tup, u_lst, u_fls, t_bl, t_non, t_int, t_tup, t_lst, t_mls, t_fls, bd_int, bk_fls, bk_flsb, bk_int, bk_bl, bk_non, bk_str, bk_tup, bk_lst, bk_box, back_rt, back_nx, back_ex, idx_int, ix_tup, ix_lst, ix_mls, ix_fls, ix_box, sl_tup, sl_lst, sl_mls, sl_fls, sl_scr, b_add, b_sub, c_lt, c_le, c_gt, c_ge, c_eq, c_ne, c_eqB, c_neB, c_isN, c_notN, i_int, i_intB, i_abs, i_max, i_min, l_lst, l_tup, l_mls, l_fls, li_lst, li_tup, li_fls, tu_lst, tu_tup, tu_fls, tu_mls, su_2, frzM, getM, isS, subM, isNil, isNon, Gb.start, Option.bind_some, Option.bind_none, Option.map_some, Option.map_none, id_eq, List.getElem?_cons_zero, List.getElem?_cons_succ, List.getElem?_nil, List.set_cons_zero, List.set_cons_succ, List.map_cons, List.map_nil, List.length_cons, List.length_nil, List.cons_append, List.nil_append, List.replicate_succ, List.replicate_zero, Nat.reduceSub, Nat.reduceAdd, Nat.zero_add, Nat.reduceLT, if_true, if_false, reduceIte, Bool.false_eq_true, Bool.not_true, Bool.not_false, Bool.not_not, decide_true, decide_false, decide_not, is0_non, is0_bl, is0_int, is0_str, is0_tup, is0_lst, is0_mls, is0_fls, is1_non, is1_bl, is1_int, is1_str, is1_tup, is1_lst, is1_mls, is1_fls, is2_non, is2_bl, is2_int, is2_str, is2_tup, is2_lst, is2_mls, is2_fls, is3_non, is3_bl, is3_int, is3_str, is3_tup, is3_lst, is3_mls, is3_fls, is4_non, is4_bl, is4_int, is4_str, is4_tup, is4_lst, is4_mls, is4_fls, is5_non, is5_bl, is5_int, is5_str, is5_tup, is5_lst, is5_mls, is5_fls, is6_non, is6_bl, is6_int, is6_str, is6_tup, is6_lst, is6_mls, is6_fls, is7_non, is7_bl, is7_int, is7_str, is7_tup, is7_lst, is7_mls, is7_fls, beq_self_eq_true, Bool.true_beq, Bool.false_beq, Bool.and_true, Bool.true_and, Bool.and_false, Bool.false_and, Bool.or_true, Bool.true_or, Bool.or_false, Bool.false_or, wipeE, hf, e1, if_sz]
  generalize hr : forL _ _ _ _ = w
  let P : List D → Env → Store → Prop := fun ds ρ st' => ∃ (i : Nat) (a b : Option D), i + ds.length = m + 1 ∧ ds = (List.range' i ds.length).map (fun j => .int (siz p q r s j)) ∧ ρ = [some d, some d', some (.int s), some (.int (m : Nat)), some (.mls (encP (srunL L p q r s i))), a, b] ∧ st' = st
  obtain ⟨ρ', st', rfl, i, a, b, hi, _, rfl, rfl⟩ : ∃ ρ' st', w = .nx ρ' st' ∧ P [] ρ' st' := by
    rw [← hr]
    refine forL_run P ?_ _ _ _ ?_
    · rintro x ds ρ st' ⟨i, a, b, hi, hds, rfl, rfl⟩
      rw [List.length_cons] at hi hds
      rw [List.range'_succ, List.map_cons] at hds
      obtain ⟨rfl, hds2⟩ := List.cons.inj hds
      have hl := encP_len (srunL L p q r s i)
      rw [srunL_len] at hl
      have hLl := encP_len L
      have hc := cut_len1 (encP (srunL L p q r s i))
      rw [hl] at hc
      have hcut := bits_cut L p q r s i
      have hbe := bits_len (p := p) (q := q) (r := r) (s := s) hL i
      have hs := sort_pairs (bits L p q r s i) (x := .lst (encP (bits L p q r s i))) rfl
      have lo := fun st => lowest_ok (FT := FT) (n := n) (K := k + 4) (st := st) (L := sortB leP (bits L p q r s i)) (size := siz p q r s i) H.h137 (.inr (.inl rfl)) (by omega)
      simp (disch := first | omega | (simp only [List.length_append, List.length_nil, List.append_nil]; omega)) only [evE, evA, evs, evs', evI, evsP, exS, bind_ok, bind_ex, bind_bad, so_ok, so_ex, so_bad, then_nx, then_rt, then_bk, then_ex, then_bad, lift_some, lift_none, soE_some', soE_none, noEx_ok, p_nm, p_tup, p_lst, pN_nil, pN_cons, p_frz, p_fls, p_int, p_bl, p_non, p_tupm, p_lstm, f_int, f_bl, f_str, f_non, f_tup, f_lst, f_fls, f_box, f_scr, u_int, u_bl, u_str, u_non, u_tup, u_lst, u_fls, t_bl, t_non, t_int, t_tup, t_lst, t_mls, t_fls, bd_int, bk_fls, bk_flsb, bk_int, bk_bl, bk_non, bk_str, bk_tup, bk_lst, bk_box, back_rt, back_nx, back_ex, idx_int, ix_tup, ix_lst, ix_mls, ix_fls, ix_box, sl_tup, sl_lst, sl_mls, sl_fls, sl_scr, b_add, b_sub, c_lt, c_le, c_gt, c_ge, c_eq, c_ne, c_eqB, c_neB, c_isN, c_notN, i_int, i_intB, i_abs, i_max, i_min, l_lst, l_tup, l_mls, l_fls, li_lst, li_tup, li_fls, tu_lst, tu_tup, tu_fls, tu_mls, su_2, frzM, getM, isS, subM, isNil, isNon, Gb.start, Option.bind_some, Option.bind_none, Option.map_some, Option.map_none, id_eq, List.getElem?_cons_zero, List.getElem?_cons_succ, List.getElem?_nil, List.set_cons_zero, List.set_cons_succ, List.map_cons, List.map_nil, List.length_cons, List.length_nil, List.cons_append, List.nil_append, List.replicate_succ, List.replicate_zero, Nat.reduceSub, Nat.reduceAdd, Nat.zero_add, Nat.reduceLT, if_true, if_false, reduceIte, Bool.false_eq_true, Bool.not_true, Bool.not_false, Bool.not_not, decide_true, decide_false, decide_not, is0_non, is0_bl, is0_int, is0_str, is0_tup, is0_lst, is0_mls, is0_fls, is1_non, is1_bl, is1_int, is1_str, is1_tup, is1_lst, is1_mls, is1_fls, is2_non, is2_bl, is2_int, is2_str, is2_tup, is2_lst, is2_mls, is2_fls, is3_non, is3_bl, is3_int, is3_str, is3_tup, is3_lst, is3_mls, is3_fls, is4_non, is4_bl, is4_int, is4_str, is4_tup, is4_lst, is4_mls, is4_fls, is5_non, is5_bl, is5_int, is5_str, is5_tup, is5_lst, is5_mls, is5_fls, is6_non, is6_bl, is6_int, is6_str, is6_tup, is6_lst, is6_mls, is6_fls, is7_non, is7_bl, is7_int, is7_str, is7_tup, is7_lst, is7_mls, is7_fls, beq_self_eq_true, Bool.true_beq, Bool.false_beq, Bool.and_true, Bool.true_and, Bool.and_false, Bool.false_and, Bool.or_true, Bool.true_or, Bool.or_false, Bool.false_or, wipeE, hfP, e2, sqT, sqF, List.append_nil, hcut, if_sz, if_szl, hs, lo, hl]
      refine ⟨_, _, rfl, i + 1, some (.int (siz p q r s i)), some (.lst (encP (bits L p q r s i))), by omega, hds2, ?_, rfl⟩
      rw [srunL_succ, encP_app, srun_eq]
      rfl
    · exact ⟨0, none, none, by rw [sizL_len]; omega, by rw [sizL_len]; unfold sizL; rw [List.range_eq_range'], rfl, rfl⟩
  simp (disch := omega) only [evE, evA, evs, evs', evI, evsP, exS, bind_ok, bind_ex, bind_bad, so_ok, so_ex, so_bad, then_nx, then_rt, then_bk, then_ex, then_bad, lift_some, lift_none, soE_some', soE_none, noEx_ok, p_nm, p_tup, p_lst, pN_nil, pN_cons, p_frz, p_fls, p_int, p_bl, p_non, p_tupm, p_lstm, f_int, f_bl, f_str, f_non, f_tup, f_lst, f_fls, f_box, f_scr, u_int, u_bl, u_str, u_non, u_tup, u_lst, u_fls, t_bl, t_non, t_int, t_tup, t_lst, t_mls, t_fls, bd_int, bk_fls, bk_flsb, bk_int, bk_bl, bk_non, bk_str, bk_tup, bk_lst, bk_box, back_rt, back_nx, back_ex, idx_int, ix_tup, ix_lst, ix_mls, ix_fls, ix_box, sl_tup, sl_lst, sl_mls, sl_fls, sl_scr, b_add, b_sub, c_lt, c_le, c_gt, c_ge, c_eq, c_ne, c_eqB, c_neB, c_isN, c_notN, i_int, i_intB, i_abs, i_max, i_min, l_lst, l_tup, l_mls, l_fls, li_lst, li_tup, li_fls, tu_lst, tu_tup, tu_fls, tu_mls, su_2, frzM, getM, isS, subM, isNil, isNon, Gb.start, Option.bind_some, Option.bind_none, Option.map_some, Option.map_none, id_eq, List.getElem?_cons_zero, List.getElem?_cons_succ, List.getElem?_nil, List.set_cons_zero, List.set_cons_succ, List.map_cons, List.map_nil, List.length_cons, List.length_nil, List.cons_append, List.nil_append, List.replicate_succ, List.replicate_zero, Nat.reduceSub, Nat.reduceAdd, Nat.zero_add, Nat.reduceLT, if_true, if_false, reduceIte, Bool.false_eq_true, Bool.not_true, Bool.not_false, Bool.not_not, decide_true, decide_false, decide_not, is0_non, is0_bl, is0_int, is0_str, is0_tup, is0_lst, is0_mls, is0_fls, is1_non, is1_bl, is1_int, is1_str, is1_tup, is1_lst, is1_mls, is1_fls, is2_non, is2_bl, is2_int, is2_str, is2_tup, is2_lst, is2_mls, is2_fls, is3_non, is3_bl, is3_int, is3_str, is3_tup, is3_lst, is3_mls, is3_fls, is4_non, is4_bl, is4_int, is4_str, is4_tup, is4_lst, is4_mls, is4_fls, is5_non, is5_bl, is5_int, is5_str, is5_tup, is5_lst, is5_mls, is5_fls, is6_non, is6_bl, is6_int, is6_str, is6_tup, is6_lst, is6_mls, is6_fls, is7_non, is7_bl, is7_int, is7_str, is7_tup, is7_lst, is7_mls, is7_fls, beq_self_eq_true, Bool.true_beq, Bool.false_beq, Bool.and_true, Bool.true_and, Bool.and_false, Bool.false_and, Bool.or_true, Bool.true_or, Bool.or_false, Bool.false_or, wipeE]
  have : i = m + 1 := by simpa using hi
  rw [this]
theorem ahead_ok {K : Nat} (H : RunS FT) (hd : RuleD d p q r) (hp : p.natAbs < 2 ^ 64) (q0 : 0 < q) (q1 : q < 2 ^ 62) (s1 : 1 ≤ s) (s2 : s < nxt p q r s) (hP : RepP d' L) (hL : L.length ≤ 1000) {m : Nat} (hm : m ≤ 100000) (hk : 6 ≤ K) :
    callN FT n K 153 [d, d', .int s, .int (m : Nat)] st = .ok (.tup (aheadL L p q r s (m + 1))) st := by
  obtain ⟨k, rfl⟩ : ∃ k, K = k + 6 := ⟨K - 6, by omega⟩
  have hf : frzD d = some d := by rcases hd with rfl | rfl <;> rfl
  have hfP := hP.frz
  have e1 := fun st => endof_ok (n := n) (K := k + 5) (st := st) H.h124 hP (by omega)
  have e2 := fun st => srun_ok (n := n) (K := k + 5) (st := st) H hd hp q0 q1 s1 s2 hP hL hm (by omega)
  rw [callN, H.h153]
  simp (disch := omega) only [f153_ahead_at, evE, evA, evs, evs', evI, evsP, exS, bind_ok, bind_ex, bind_bad, so_ok, so_ex, so_bad, then_nx, then_rt, then_bk, then_ex, then_bad, lift_some, lift_none, soE_some', soE_none, noEx_ok, p_nm, p_tup, p_lst, pN_nil, pN_cons, p_frz, p_fls, p_int, p_bl, p_non, p_tupm, p_lstm, f_int, f_bl, f_str, f_non, f_tup, f_lst, f_fls, f_box, f_scr, u_int, u_bl, u_str, u_non, u_tup, u_lst, u_fls, t_bl, t_non, t_int, t_tup, t_lst, t_mls, t_fls, bd_int, bk_fls, bk_flsb, bk_int, bk_bl, bk_non, bk_str, bk_tup, bk_lst, bk_box, back_rt, back_nx, back_ex, idx_int, ix_tup, ix_lst, ix_mls, ix_fls, ix_box, sl_tup, sl_lst, sl_mls, sl_fls, sl_scr, b_add, b_sub, c_lt, c_le, c_gt, c_ge, c_eq, c_ne, c_eqB, c_neB, c_isN, c_notN, i_int, i_intB, i_abs, i_max, i_min, l_lst, l_tup, l_mls, l_fls, li_lst, li_tup, li_fls, tu_lst, tu_tup, tu_fls, tu_mls, su_2, frzM, getM, isS, subM, isNil, isNon, Gb.start, Option.bind_some, Option.bind_none, Option.map_some, Option.map_none, id_eq, List.getElem?_cons_zero, List.getElem?_cons_succ, List.getElem?_nil, List.set_cons_zero, List.set_cons_succ, List.map_cons, List.map_nil, List.length_cons, List.length_nil, List.cons_append, List.nil_append, List.replicate_succ, List.replicate_zero, Nat.reduceSub, Nat.reduceAdd, Nat.zero_add, Nat.reduceLT, if_true, if_false, reduceIte, Bool.false_eq_true, Bool.not_true, Bool.not_false, Bool.not_not, decide_true, decide_false, decide_not, is0_non, is0_bl, is0_int, is0_str, is0_tup, is0_lst, is0_mls, is0_fls, is1_non, is1_bl, is1_int, is1_str, is1_tup, is1_lst, is1_mls, is1_fls, is2_non, is2_bl, is2_int, is2_str, is2_tup, is2_lst, is2_mls, is2_fls, is3_non, is3_bl, is3_int, is3_str, is3_tup, is3_lst, is3_mls, is3_fls, is4_non, is4_bl, is4_int, is4_str, is4_tup, is4_lst, is4_mls, is4_fls, is5_non, is5_bl, is5_int, is5_str, is5_tup, is5_lst, is5_mls, is5_fls, is6_non, is6_bl, is6_int, is6_str, is6_tup, is6_lst, is6_mls, is6_fls, is7_non, is7_bl, is7_int, is7_str, is7_tup, is7_lst, is7_mls, is7_fls, beq_self_eq_true, Bool.true_beq, Bool.false_beq, Bool.and_true, Bool.true_and, Bool.and_false, Bool.false_and, Bool.or_true, Bool.true_or, Bool.or_false, Bool.false_or, wipeE, hf, hfP, e1, e2]
  rw [compL_filter (g := ahG (endP 0 L)) _ _ (fun d hd => ?_) (by unfold enumL; rw [List.length_mapIdx, encP_len, srunL_len]; exact sz (by simp; omega)), List.nil_append]
  · simp (disch := omega) only [evE, evA, evs, evs', evI, evsP, exS, bind_ok, bind_ex, bind_bad, so_ok, so_ex, so_bad, then_nx, then_rt, then_bk, then_ex, then_bad, lift_some, lift_none, soE_some', soE_none, noEx_ok, p_nm, p_tup, p_lst, pN_nil, pN_cons, p_frz, p_fls, p_int, p_bl, p_non, p_tupm, p_lstm, f_int, f_bl, f_str, f_non, f_tup, f_lst, f_fls, f_box, f_scr, u_int, u_bl, u_str, u_non, u_tup, u_lst, u_fls, t_bl, t_non, t_int, t_tup, t_lst, t_mls, t_fls, bd_int, bk_fls, bk_flsb, bk_int, bk_bl, bk_non, bk_str, bk_tup, bk_lst, bk_box, back_rt, back_nx, back_ex, idx_int, ix_tup, ix_lst, ix_mls, ix_fls, ix_box, sl_tup, sl_lst, sl_mls, sl_fls, sl_scr, b_add, b_sub, c_lt, c_le, c_gt, c_ge, c_eq, c_ne, c_eqB, c_neB, c_isN, c_notN, i_int, i_intB, i_abs, i_max, i_min, l_lst, l_tup, l_mls, l_fls, li_lst, li_tup, li_fls, tu_lst, tu_tup, tu_fls, tu_mls, su_2, frzM, getM, isS, subM, isNil, isNon, Gb.start, Option.bind_some, Option.bind_none, Option.map_some, Option.map_none, id_eq, List.getElem?_cons_zero, List.getElem?_cons_succ, List.getElem?_nil, List.set_cons_zero, List.set_cons_succ, List.map_cons, List.map_nil, List.length_cons, List.length_nil, List.cons_append, List.nil_append, List.replicate_succ, List.replicate_zero, Nat.reduceSub, Nat.reduceAdd, Nat.zero_add, Nat.reduceLT, if_true, if_false, reduceIte, Bool.false_eq_true, Bool.not_true, Bool.not_false, Bool.not_not, decide_true, decide_false, decide_not, is0_non, is0_bl, is0_int, is0_str, is0_tup, is0_lst, is0_mls, is0_fls, is1_non, is1_bl, is1_int, is1_str, is1_tup, is1_lst, is1_mls, is1_fls, is2_non, is2_bl, is2_int, is2_str, is2_tup, is2_lst, is2_mls, is2_fls, is3_non, is3_bl, is3_int, is3_str, is3_tup, is3_lst, is3_mls, is3_fls, is4_non, is4_bl, is4_int, is4_str, is4_tup, is4_lst, is4_mls, is4_fls, is5_non, is5_bl, is5_int, is5_str, is5_tup, is5_lst, is5_mls, is5_fls, is6_non, is6_bl, is6_int, is6_str, is6_tup, is6_lst, is6_mls, is6_fls, is7_non, is7_bl, is7_int, is7_str, is7_tup, is7_lst, is7_mls, is7_fls, beq_self_eq_true, Bool.true_beq, Bool.false_beq, Bool.and_true, Bool.true_and, Bool.and_false, Bool.false_and, Bool.or_true, Bool.true_or, Bool.or_false, Bool.false_or, wipeE]
    rfl
  · obtain ⟨i, c, rfl⟩ := enum_mem hd
    by_cases h : c.1 < endP 0 L
    · simp (disch := omega) only [evE, evA, evs, evs', evI, evsP, exS, bind_ok, bind_ex, bind_bad, so_ok, so_ex, so_bad, then_nx, then_rt, then_bk, then_ex, then_bad, lift_some, lift_none, soE_some', soE_none, noEx_ok, p_nm, p_tup, p_lst, pN_nil, pN_cons, p_frz, p_fls, p_int, p_bl, p_non, p_tupm, p_lstm, f_int, f_bl, f_str, f_non, f_tup, f_lst, f_fls, f_box, f_scr, u_int, u_bl, u_str, u_non, u_tup, u_lst, u_fls, t_bl, t_non, t_int, t_tup, t_lst, t_mls, t_fls, bd_int, bk_fls, bk_flsb, bk_int, bk_bl, bk_non, bk_str, bk_tup, bk_lst, bk_box, back_rt, back_nx, back_ex, idx_int, ix_tup, ix_lst, ix_mls, ix_fls, ix_box, sl_tup, sl_lst, sl_mls, sl_fls, sl_scr, b_add, b_sub, c_lt, c_le, c_gt, c_ge, c_eq, c_ne, c_eqB, c_neB, c_isN, c_notN, i_int, i_intB, i_abs, i_max, i_min, l_lst, l_tup, l_mls, l_fls, li_lst, li_tup, li_fls, tu_lst, tu_tup, tu_fls, tu_mls, su_2, frzM, getM, isS, subM, isNil, isNon, Gb.start, Option.bind_some, Option.bind_none, Option.map_some, Option.map_none, id_eq, List.getElem?_cons_zero, List.getElem?_cons_succ, List.getElem?_nil, List.set_cons_zero, List.set_cons_succ, List.map_cons, List.map_nil, List.length_cons, List.length_nil, List.cons_append, List.nil_append, List.replicate_succ, List.replicate_zero, Nat.reduceSub, Nat.reduceAdd, Nat.zero_add, Nat.reduceLT, if_true, if_false, reduceIte, Bool.false_eq_true, Bool.not_true, Bool.not_false, Bool.not_not, decide_true, decide_false, decide_not, is0_non, is0_bl, is0_int, is0_str, is0_tup, is0_lst, is0_mls, is0_fls, is1_non, is1_bl, is1_int, is1_str, is1_tup, is1_lst, is1_mls, is1_fls, is2_non, is2_bl, is2_int, is2_str, is2_tup, is2_lst, is2_mls, is2_fls, is3_non, is3_bl, is3_int, is3_str, is3_tup, is3_lst, is3_mls, is3_fls, is4_non, is4_bl, is4_int, is4_str, is4_tup, is4_lst, is4_mls, is4_fls, is5_non, is5_bl, is5_int, is5_str, is5_tup, is5_lst, is5_mls, is5_fls, is6_non, is6_bl, is6_int, is6_str, is6_tup, is6_lst, is6_mls, is6_fls, is7_non, is7_bl, is7_int, is7_str, is7_tup, is7_lst, is7_mls, is7_fls, beq_self_eq_true, Bool.true_beq, Bool.false_beq, Bool.and_true, Bool.true_and, Bool.and_false, Bool.false_and, Bool.or_true, Bool.true_or, Bool.or_false, Bool.false_or, wipeE, encC, at2_0', h, ahG]
    · simp (disch := omega) only [evE, evA, evs, evs', evI, evsP, exS, bind_ok, bind_ex, bind_bad, so_ok, so_ex, so_bad, then_nx, then_rt, then_bk, then_ex, then_bad, lift_some, lift_none, soE_some', soE_none, noEx_ok, p_nm, p_tup, p_lst, pN_nil, pN_cons, p_frz, p_fls, p_int, p_bl, p_non, p_tupm, p_lstm, f_int, f_bl, f_str, f_non, f_tup, f_lst, f_fls, f_box, f_scr, u_int, u_bl, u_str, u_non, u_tup, u_lst, u_fls, t_bl, t_non, t_int, t_tup, t_lst, t_mls, t_fls, bd_int, bk_fls, bk_flsb, bk_int, bk_bl, bk_non, bk_str, bk_tup, bk_lst, bk_box, back_rt, back_nx, back_ex, idx_int, ix_tup, ix_lst, ix_mls, ix_fls, ix_box, sl_tup, sl_lst, sl_mls, sl_fls, sl_scr, b_add, b_sub, c_lt, c_le, c_gt, c_ge, c_eq, c_ne, c_eqB, c_neB, c_isN, c_notN, i_int, i_intB, i_abs, i_max, i_min, l_lst, l_tup, l_mls, l_fls, li_lst, li_tup, li_fls, tu_lst, tu_tup, tu_fls, tu_mls, su_2, frzM, getM, isS, subM, isNil, isNon, Gb.start, Option.bind_some, Option.bind_none, Option.map_some, Option.map_none, id_eq, List.getElem?_cons_zero, List.getElem?_cons_succ, List.getElem?_nil, List.set_cons_zero, List.set_cons_succ, List.map_cons, List.map_nil, List.length_cons, List.length_nil, List.cons_append, List.nil_append, List.replicate_succ, List.replicate_zero, Nat.reduceSub, Nat.reduceAdd, Nat.zero_add, Nat.reduceLT, if_true, if_false, reduceIte, Bool.false_eq_true, Bool.not_true, Bool.not_false, Bool.not_not, decide_true, decide_false, decide_not, is0_non, is0_bl, is0_int, is0_str, is0_tup, is0_lst, is0_mls, is0_fls, is1_non, is1_bl, is1_int, is1_str, is1_tup, is1_lst, is1_mls, is1_fls, is2_non, is2_bl, is2_int, is2_str, is2_tup, is2_lst, is2_mls, is2_fls, is3_non, is3_bl, is3_int, is3_str, is3_tup, is3_lst, is3_mls, is3_fls, is4_non, is4_bl, is4_int, is4_str, is4_tup, is4_lst, is4_mls, is4_fls, is5_non, is5_bl, is5_int, is5_str, is5_tup, is5_lst, is5_mls, is5_fls, is6_non, is6_bl, is6_int, is6_str, is6_tup, is6_lst, is6_mls, is6_fls, is7_non, is7_bl, is7_int, is7_str, is7_tup, is7_lst, is7_mls, is7_fls, beq_self_eq_true, Bool.true_beq, Bool.false_beq, Bool.and_true, Bool.true_and, Bool.and_false, Bool.false_and, Bool.or_true, Bool.true_or, Bool.or_false, Bool.false_or, wipeE, encC, at2_0', h, ahG]
theorem slowS_ok {K : Nat} (h43 : FT 43 = some f43_law_next) (h79 : FT 79 = some f79_law_free) (h80 : FT 80 = some f80_law_filled) (h156 : FT 156 = some f156_law_slow) (hK : Kin p q r) (s1 : 1 ≤ s) (s2 : s < nxt p q r s) (hS : Srt 0 L) (hL : L.length ≤ 1000) {m : Nat} (hm : m ≤ 1000) {B : Int}
    (hB : ∀ i, i ≤ m → siz p q r s i ≤ B ∧ ∀ c ∈ bits L p q r s i, c.1 + c.2 ≤ B) (b0 : 0 ≤ B) (b1 : B ≤ 100000) (hn : 300000 < n) (hk : 4 ≤ K) :
    callN FT n K 156 [.tup [.int p, .int q, .int r], .tup (encP L), .int s, .int (m : Nat)] st = .ok (.tup (encP (srunL L p q r s (m + 1)))) st := by
  obtain ⟨k, rfl⟩ : ∃ k, K = k + 4 := ⟨K - 4, by omega⟩
  have hq := hK.q1
  have hqp := hK.qp
  have hp1 := hK.p1
  have eN := fun st (s : Int) => lnext_ok (FT := FT) (n := n) (K := k + 3) (st := st) (p := p) (q := q) (r := r) (s := s) h43 (by omega) (by omega) (by omega) (by omega)
  have hc : ((m : Nat) : Int) + 1 = ((m + 1 : Nat) : Int) := by omega
  rw [callN, h156]
  simp (disch := omega) only [f156_law_slow, evE, evA, evs, evs', evI, evsP, exS, bind_ok, bind_ex, bind_bad, so_ok, so_ex, so_bad, then_nx, then_rt, then_bk, then_ex, then_bad, lift_some, lift_none, soE_some', soE_none, noEx_ok, p_nm, p_tup, p_lst, pN_nil, pN_cons, p_frz, p_fls, p_int, p_bl, p_non, p_tupm, p_lstm, f_int, f_bl, f_str, f_non, f_tup, f_lst, f_fls, f_box, f_scr, u_int, u_bl, u_str, u_non, u_tup, u_lst, u_fls, t_bl, t_non, t_int, t_tup, t_lst, t_mls, t_fls, bd_int, bk_fls, bk_flsb, bk_int, bk_bl, bk_non, bk_str, bk_tup, bk_lst, bk_box, back_rt, back_nx, back_ex, idx_int, ix_tup, ix_lst, ix_mls, ix_fls, ix_box, sl_tup, sl_lst, sl_mls, sl_fls, sl_scr, b_add, b_sub, c_lt, c_le, c_gt, c_ge, c_eq, c_ne, c_eqB, c_neB, c_isN, c_notN, i_int, i_intB, i_abs, i_max, i_min, l_lst, l_tup, l_mls, l_fls, li_lst, li_tup, li_fls, tu_lst, tu_tup, tu_fls, tu_mls, su_2, frzM, getM, isS, subM, isNil, isNon, Gb.start, Option.bind_some, Option.bind_none, Option.map_some, Option.map_none, id_eq, List.getElem?_cons_zero, List.getElem?_cons_succ, List.getElem?_nil, List.set_cons_zero, List.set_cons_succ, List.map_cons, List.map_nil, List.length_cons, List.length_nil, List.cons_append, List.nil_append, List.replicate_succ, List.replicate_zero, Nat.reduceSub, Nat.reduceAdd, Nat.zero_add, Nat.reduceLT, if_true, if_false, reduceIte, Bool.false_eq_true, Bool.not_true, Bool.not_false, Bool.not_not, decide_true, decide_false, decide_not, is0_non, is0_bl, is0_int, is0_str, is0_tup, is0_lst, is0_mls, is0_fls, is1_non, is1_bl, is1_int, is1_str, is1_tup, is1_lst, is1_mls, is1_fls, is2_non, is2_bl, is2_int, is2_str, is2_tup, is2_lst, is2_mls, is2_fls, is3_non, is3_bl, is3_int, is3_str, is3_tup, is3_lst, is3_mls, is3_fls, is4_non, is4_bl, is4_int, is4_str, is4_tup, is4_lst, is4_mls, is4_fls, is5_non, is5_bl, is5_int, is5_str, is5_tup, is5_lst, is5_mls, is5_fls, is6_non, is6_bl, is6_int, is6_str, is6_tup, is6_lst, is6_mls, is6_fls, is7_non, is7_bl, is7_int, is7_str, is7_tup, is7_lst, is7_mls, is7_fls, beq_self_eq_true, Bool.true_beq, Bool.false_beq, Bool.and_true, Bool.true_and, Bool.and_false, Bool.false_and, Bool.or_true, Bool.true_or, Bool.or_false, Bool.false_or, wipeE, hc, if_sz, rngOk_t]
  generalize hr : forL _ _ _ _ = w
  let P : List D → Env → Store → Prop := fun ds ρ st' => ∃ (i : Nat) (a b c e : Option D), i + ds.length = m + 1 ∧ ρ = [some (.tup [.int p, .int q, .int r]), some (.tup (encP L)), some (.int s), some (.int (m : Nat)), a, some (.int (siz p q r s i)), some (.mls (encP (srunL L p q r s i))), b, c, e] ∧ st' = st ∧ ∀ d ∈ ds, ∃ z : Int, d = .int z
  obtain ⟨ρ', st', rfl, i, a, b, c, e, hi, rfl, rfl, _⟩ : ∃ ρ' st', w = .nx ρ' st' ∧ P [] ρ' st' := by
    rw [← hr]
    refine forL_run P ?_ _ _ _ ?_
    · rintro x ds ρ st' ⟨i, a, b, c, e, hi, rfl, rfl, h3⟩
      obtain ⟨z, rfl⟩ := h3 x List.mem_cons_self
      rw [List.length_cons] at hi
      obtain ⟨B1, B2⟩ := hB i (by omega)
      obtain ⟨o1, o2⟩ := sr_ok hS hK s1 s2 i
      have hp := sortB_perm (le := leP) (bits L p q r s i)
      have hz := (siz_good hK s1 s2 i).1
      have B3 : ∀ c ∈ bits L p q r s i, 0 ≤ c.1 ∧ 1 ≤ c.2 := fun c hc => by
        have := Srt.mem o1 c (hp.mem_iff.mpr hc); omega
      have hl := encP_len (srunL L p q r s i)
      rw [srunL_len] at hl
      have hLl := encP_len L
      have hc1 := cut_len1 (encP (srunL L p q r s i))
      rw [hl] at hc1
      have hcut := bits_cut L p q r s i
      have hbe := bits_len (p := p) (q := q) (r := r) (s := s) hL i
      have hbl := hbe
      rw [encP_len] at hbl
      simp (disch := first | omega | (simp only [List.length_append]; omega)) only [evE, evA, evs, evs', evI, evsP, exS, bind_ok, bind_ex, bind_bad, so_ok, so_ex, so_bad, then_nx, then_rt, then_bk, then_ex, then_bad, lift_some, lift_none, soE_some', soE_none, noEx_ok, p_nm, p_tup, p_lst, pN_nil, pN_cons, p_frz, p_fls, p_int, p_bl, p_non, p_tupm, p_lstm, f_int, f_bl, f_str, f_non, f_tup, f_lst, f_fls, f_box, f_scr, u_int, u_bl, u_str, u_non, u_tup, u_lst, u_fls, t_bl, t_non, t_int, t_tup, t_lst, t_mls, t_fls, bd_int, bk_fls, bk_flsb, bk_int, bk_bl, bk_non, bk_str, bk_tup, bk_lst, bk_box, back_rt, back_nx, back_ex, idx_int, ix_tup, ix_lst, ix_mls, ix_fls, ix_box, sl_tup, sl_lst, sl_mls, sl_fls, sl_scr, b_add, b_sub, c_lt, c_le, c_gt, c_ge, c_eq, c_ne, c_eqB, c_neB, c_isN, c_notN, i_int, i_intB, i_abs, i_max, i_min, l_lst, l_tup, l_mls, l_fls, li_lst, li_tup, li_fls, tu_lst, tu_tup, tu_fls, tu_mls, su_2, frzM, getM, isS, subM, isNil, isNon, Gb.start, Option.bind_some, Option.bind_none, Option.map_some, Option.map_none, id_eq, List.getElem?_cons_zero, List.getElem?_cons_succ, List.getElem?_nil, List.set_cons_zero, List.set_cons_succ, List.map_cons, List.map_nil, List.length_cons, List.length_nil, List.cons_append, List.nil_append, List.replicate_succ, List.replicate_zero, Nat.reduceSub, Nat.reduceAdd, Nat.zero_add, Nat.reduceLT, if_true, if_false, reduceIte, Bool.false_eq_true, Bool.not_true, Bool.not_false, Bool.not_not, decide_true, decide_false, decide_not, is0_non, is0_bl, is0_int, is0_str, is0_tup, is0_lst, is0_mls, is0_fls, is1_non, is1_bl, is1_int, is1_str, is1_tup, is1_lst, is1_mls, is1_fls, is2_non, is2_bl, is2_int, is2_str, is2_tup, is2_lst, is2_mls, is2_fls, is3_non, is3_bl, is3_int, is3_str, is3_tup, is3_lst, is3_mls, is3_fls, is4_non, is4_bl, is4_int, is4_str, is4_tup, is4_lst, is4_mls, is4_fls, is5_non, is5_bl, is5_int, is5_str, is5_tup, is5_lst, is5_mls, is5_fls, is6_non, is6_bl, is6_int, is6_str, is6_tup, is6_lst, is6_mls, is6_fls, is7_non, is7_bl, is7_int, is7_str, is7_tup, is7_lst, is7_mls, is7_fls, beq_self_eq_true, Bool.true_beq, Bool.false_beq, Bool.and_true, Bool.true_and, Bool.and_false, Bool.false_and, Bool.or_true, Bool.true_or, Bool.or_false, Bool.false_or, wipeE, hcut, b_cff, if_sz]
      rw [compL_map (g := sumC) _ _ (fun d hd => ?_) (by rw [encP_len]; exact sz (by simp; omega)), List.nil_append, endsC_map]
      · have hmx := b_maxF (xs := 0 :: endsC (bits L p q r s i)) (by simp)
        rw [List.map_cons] at hmx
        obtain ⟨x1, x2⟩ := mxL_mem (x := 0) (r := endsC (bits L p q r s i))
        have hel : (endsC (bits L p q r s i)).length ≤ 1001 := by unfold endsC; rw [List.length_map]; exact hbl
        generalize mxL (0 :: endsC (bits L p q r s i)) = far at hmx x1 x2
        have f0 := x2 0 List.mem_cons_self
        have f1 : far ≤ B := by
          rcases List.mem_cons.mp x1 with rfl | x1
          · exact b0
          · unfold endsC at x1
            obtain ⟨c, hc, rfl⟩ := List.mem_map.mp x1
            exact B2 c hc
        have f2 : ∀ c ∈ bits L p q r s i, c.1 + c.2 ≤ far := fun c hc => x2 _ (List.mem_cons_of_mem _ (List.mem_map.mpr ⟨c, hc, rfl⟩))
        obtain ⟨F, rfl⟩ : ∃ F : Nat, far = (F : Int) := ⟨far.toNat, by omega⟩
        have e3 := fun st => filled_ok (FT := FT) (n := n) (K := k + 3) (st := st) (L := bits L p q r s i) (d := .lst (encP (bits L p q r s i))) (far := F) h80 (.inr rfl) (fun c hc => by have := B3 c hc; have := f2 c hc; omega) (by omega) (by omega)
        have e4 := fun st => free_ok (FT := FT) (n := n) (K := k + 3) (st := st) (L := bits L p q r s i) (far := F) (room := siz p q r s i) h79 (fun c hc => by have := B3 c hc; have := f2 c hc; omega) hz o2 (by omega) (by omega)
        simp (disch := first | omega | (simp only [List.length_append, List.length_map, List.length_cons, List.length_nil]; omega)) only [evE, evA, evs, evs', evI, evsP, exS, bind_ok, bind_ex, bind_bad, so_ok, so_ex, so_bad, then_nx, then_rt, then_bk, then_ex, then_bad, lift_some, lift_none, soE_some', soE_none, noEx_ok, p_nm, p_tup, p_lst, pN_nil, pN_cons, p_frz, p_fls, p_int, p_bl, p_non, p_tupm, p_lstm, f_int, f_bl, f_str, f_non, f_tup, f_lst, f_fls, f_box, f_scr, u_int, u_bl, u_str, u_non, u_tup, u_lst, u_fls, t_bl, t_non, t_int, t_tup, t_lst, t_mls, t_fls, bd_int, bk_fls, bk_flsb, bk_int, bk_bl, bk_non, bk_str, bk_tup, bk_lst, bk_box, back_rt, back_nx, back_ex, idx_int, ix_tup, ix_lst, ix_mls, ix_fls, ix_box, sl_tup, sl_lst, sl_mls, sl_fls, sl_scr, b_add, b_sub, c_lt, c_le, c_gt, c_ge, c_eq, c_ne, c_eqB, c_neB, c_isN, c_notN, i_int, i_intB, i_abs, i_max, i_min, l_lst, l_tup, l_mls, l_fls, li_lst, li_tup, li_fls, tu_lst, tu_tup, tu_fls, tu_mls, su_2, frzM, getM, isS, subM, isNil, isNon, Gb.start, Option.bind_some, Option.bind_none, Option.map_some, Option.map_none, id_eq, List.getElem?_cons_zero, List.getElem?_cons_succ, List.getElem?_nil, List.set_cons_zero, List.set_cons_succ, List.map_cons, List.map_nil, List.length_cons, List.length_nil, List.cons_append, List.nil_append, List.replicate_succ, List.replicate_zero, Nat.reduceSub, Nat.reduceAdd, Nat.zero_add, Nat.reduceLT, if_true, if_false, reduceIte, Bool.false_eq_true, Bool.not_true, Bool.not_false, Bool.not_not, decide_true, decide_false, decide_not, is0_non, is0_bl, is0_int, is0_str, is0_tup, is0_lst, is0_mls, is0_fls, is1_non, is1_bl, is1_int, is1_str, is1_tup, is1_lst, is1_mls, is1_fls, is2_non, is2_bl, is2_int, is2_str, is2_tup, is2_lst, is2_mls, is2_fls, is3_non, is3_bl, is3_int, is3_str, is3_tup, is3_lst, is3_mls, is3_fls, is4_non, is4_bl, is4_int, is4_str, is4_tup, is4_lst, is4_mls, is4_fls, is5_non, is5_bl, is5_int, is5_str, is5_tup, is5_lst, is5_mls, is5_fls, is6_non, is6_bl, is6_int, is6_str, is6_tup, is6_lst, is6_mls, is6_fls, is7_non, is7_bl, is7_int, is7_str, is7_tup, is7_lst, is7_mls, is7_fls, beq_self_eq_true, Bool.true_beq, Bool.false_beq, Bool.and_true, Bool.true_and, Bool.and_false, Bool.false_and, Bool.or_true, Bool.true_or, Bool.or_false, Bool.false_or, wipeE, b_cff, hmx, e3, e4, eN, if_sz, if_szl, hl]
        refine ⟨_, _, rfl, i + 1, some (.int z), some (.lst (encP (bits L p q r s i))), some (.int (F : Nat)), e, by omega, ?_, rfl, fun d hd => h3 d (List.mem_cons_of_mem _ hd)⟩
        rw [srunL_succ, encP_app]
        have e2 : (srun L p q r s i).2 = siz p q r s i := by rw [srun_eq]
        show [_, _, _, _, _, _, some (D.mls (encP (srunL L p q r s i) ++ [D.tup [.int (srun L p q r s i).1, .int (siz p q r s i)]])), _, _, _] = [_, _, _, _, _, _, some (D.mls (encP (srunL L p q r s i) ++ [D.tup [.int (srun L p q r s i).1, .int (srun L p q r s i).2]])), _, _, _]
        rw [e2]
        rfl
      · unfold encP at hd
        obtain ⟨c, _, rfl⟩ := List.mem_map.mp hd
        simp (disch := omega) only [evE, evA, evs, evs', evI, evsP, exS, bind_ok, bind_ex, bind_bad, so_ok, so_ex, so_bad, then_nx, then_rt, then_bk, then_ex, then_bad, lift_some, lift_none, soE_some', soE_none, noEx_ok, p_nm, p_tup, p_lst, pN_nil, pN_cons, p_frz, p_fls, p_int, p_bl, p_non, p_tupm, p_lstm, f_int, f_bl, f_str, f_non, f_tup, f_lst, f_fls, f_box, f_scr, u_int, u_bl, u_str, u_non, u_tup, u_lst, u_fls, t_bl, t_non, t_int, t_tup, t_lst, t_mls, t_fls, bd_int, bk_fls, bk_flsb, bk_int, bk_bl, bk_non, bk_str, bk_tup, bk_lst, bk_box, back_rt, back_nx, back_ex, idx_int, ix_tup, ix_lst, ix_mls, ix_fls, ix_box, sl_tup, sl_lst, sl_mls, sl_fls, sl_scr, b_add, b_sub, c_lt, c_le, c_gt, c_ge, c_eq, c_ne, c_eqB, c_neB, c_isN, c_notN, i_int, i_intB, i_abs, i_max, i_min, l_lst, l_tup, l_mls, l_fls, li_lst, li_tup, li_fls, tu_lst, tu_tup, tu_fls, tu_mls, su_2, frzM, getM, isS, subM, isNil, isNon, Gb.start, Option.bind_some, Option.bind_none, Option.map_some, Option.map_none, id_eq, List.getElem?_cons_zero, List.getElem?_cons_succ, List.getElem?_nil, List.set_cons_zero, List.set_cons_succ, List.map_cons, List.map_nil, List.length_cons, List.length_nil, List.cons_append, List.nil_append, List.replicate_succ, List.replicate_zero, Nat.reduceSub, Nat.reduceAdd, Nat.zero_add, Nat.reduceLT, if_true, if_false, reduceIte, Bool.false_eq_true, Bool.not_true, Bool.not_false, Bool.not_not, decide_true, decide_false, decide_not, is0_non, is0_bl, is0_int, is0_str, is0_tup, is0_lst, is0_mls, is0_fls, is1_non, is1_bl, is1_int, is1_str, is1_tup, is1_lst, is1_mls, is1_fls, is2_non, is2_bl, is2_int, is2_str, is2_tup, is2_lst, is2_mls, is2_fls, is3_non, is3_bl, is3_int, is3_str, is3_tup, is3_lst, is3_mls, is3_fls, is4_non, is4_bl, is4_int, is4_str, is4_tup, is4_lst, is4_mls, is4_fls, is5_non, is5_bl, is5_int, is5_str, is5_tup, is5_lst, is5_mls, is5_fls, is6_non, is6_bl, is6_int, is6_str, is6_tup, is6_lst, is6_mls, is6_fls, is7_non, is7_bl, is7_int, is7_str, is7_tup, is7_lst, is7_mls, is7_fls, beq_self_eq_true, Bool.true_beq, Bool.false_beq, Bool.and_true, Bool.true_and, Bool.and_false, Bool.false_and, Bool.or_true, Bool.true_or, Bool.or_false, Bool.false_or, wipeE, encC, sumC]
    · exact ⟨0, none, none, none, none, by rw [rng0_len]; omega, rfl, rfl, fun d hd => by obtain ⟨i, _, e⟩ := rng0_mem hd; exact ⟨_, e⟩⟩
  simp (disch := omega) only [evE, evA, evs, evs', evI, evsP, exS, bind_ok, bind_ex, bind_bad, so_ok, so_ex, so_bad, then_nx, then_rt, then_bk, then_ex, then_bad, lift_some, lift_none, soE_some', soE_none, noEx_ok, p_nm, p_tup, p_lst, pN_nil, pN_cons, p_frz, p_fls, p_int, p_bl, p_non, p_tupm, p_lstm, f_int, f_bl, f_str, f_non, f_tup, f_lst, f_fls, f_box, f_scr, u_int, u_bl, u_str, u_non, u_tup, u_lst, u_fls, t_bl, t_non, t_int, t_tup, t_lst, t_mls, t_fls, bd_int, bk_fls, bk_flsb, bk_int, bk_bl, bk_non, bk_str, bk_tup, bk_lst, bk_box, back_rt, back_nx, back_ex, idx_int, ix_tup, ix_lst, ix_mls, ix_fls, ix_box, sl_tup, sl_lst, sl_mls, sl_fls, sl_scr, b_add, b_sub, c_lt, c_le, c_gt, c_ge, c_eq, c_ne, c_eqB, c_neB, c_isN, c_notN, i_int, i_intB, i_abs, i_max, i_min, l_lst, l_tup, l_mls, l_fls, li_lst, li_tup, li_fls, tu_lst, tu_tup, tu_fls, tu_mls, su_2, frzM, getM, isS, subM, isNil, isNon, Gb.start, Option.bind_some, Option.bind_none, Option.map_some, Option.map_none, id_eq, List.getElem?_cons_zero, List.getElem?_cons_succ, List.getElem?_nil, List.set_cons_zero, List.set_cons_succ, List.map_cons, List.map_nil, List.length_cons, List.length_nil, List.cons_append, List.nil_append, List.replicate_succ, List.replicate_zero, Nat.reduceSub, Nat.reduceAdd, Nat.zero_add, Nat.reduceLT, if_true, if_false, reduceIte, Bool.false_eq_true, Bool.not_true, Bool.not_false, Bool.not_not, decide_true, decide_false, decide_not, is0_non, is0_bl, is0_int, is0_str, is0_tup, is0_lst, is0_mls, is0_fls, is1_non, is1_bl, is1_int, is1_str, is1_tup, is1_lst, is1_mls, is1_fls, is2_non, is2_bl, is2_int, is2_str, is2_tup, is2_lst, is2_mls, is2_fls, is3_non, is3_bl, is3_int, is3_str, is3_tup, is3_lst, is3_mls, is3_fls, is4_non, is4_bl, is4_int, is4_str, is4_tup, is4_lst, is4_mls, is4_fls, is5_non, is5_bl, is5_int, is5_str, is5_tup, is5_lst, is5_mls, is5_fls, is6_non, is6_bl, is6_int, is6_str, is6_tup, is6_lst, is6_mls, is6_fls, is7_non, is7_bl, is7_int, is7_str, is7_tup, is7_lst, is7_mls, is7_fls, beq_self_eq_true, Bool.true_beq, Bool.false_beq, Bool.and_true, Bool.true_and, Bool.and_false, Bool.false_and, Bool.or_true, Bool.true_or, Bool.or_false, Bool.false_or, wipeE]
  have : i = m + 1 := by simpa using hi
  rw [this]
end
end Gb

/-! Holes among stays. -/
namespace Gb
open PySem
def f125_holes : Fn := ⟨1, 5,
    (.seq (.par [(1, true), (2, false)] (.cons (.lst .nil) (.cons (.con (.int 0)) .nil)))
    (.seq (.for (.tp [(3, false), (4, false)]) (.seq (.var 0)) (.seq (.ite (.cmp .gt (.var 3) (.var 2)) (.app 1 (.tup (.cons (.var 2) (.cons (.bin .sub (.var 3) (.var 2)) .nil)))) .pass)
    (.asg (.nm 2 false) (.bin .add (.var 3) (.var 4)))))
    (.ret (.bi .tuple (.cons (.var 1) .nil))))), false⟩
def holeP : Int → Prs → Prs
  | _, [] => []
  | h, c :: r => (if h < c.1 then [(h, c.1 - h)] else []) ++ holeP (c.1 + c.2) r
theorem holeP_len : ∀ (L : Prs) (h : Int), (holeP h L).length ≤ L.length
  | [], h => Nat.le_refl _
  | c :: r, h => by
    have := holeP_len r (c.1 + c.2)
    unfold holeP
    rw [List.length_append, List.length_cons]
    split <;> simp <;> omega
theorem holeP_cov : ∀ {L : Prs} {h : Int}, Srt h L → ∀ k, cov (holeP h L) k = (decide (h ≤ k ∧ k < endP h L) && !cov L k)
  | [], h, _, k => by
    rw [show holeP h [] = [] from rfl, cov_nil, decide_eq_false (by show ¬ (h ≤ k ∧ k < h); omega)]; rfl
  | c :: r, h, hs, k => by
    obtain ⟨s1, s2, s3⟩ := hs
    have ih := holeP_cov s3 k
    have up := Srt.endP_le s3
    have e1 : cov (if h < c.1 then [(h, c.1 - h)] else []) k = decide (h ≤ k ∧ k < c.1) := by
      by_cases hh : h < c.1
      · rw [if_pos hh, cov_cons, cov_nil, Bool.or_false]
        exact decide_eq_decide.mpr (by show (h ≤ k ∧ k < h + (c.1 - h)) ↔ _; omega)
      · rw [if_neg hh, cov_nil, decide_eq_false (by omega)]
    unfold holeP
    rw [cov_app, e1, ih, cov_cons]
    have below : k < c.1 + c.2 → cov r k = false := fun hk => by
      cases q : cov r k
      · rfl
      · obtain ⟨x, hx, x1, x2⟩ := (cov_iff _ _).mp q
        have := (Srt.mem s3 x hx).1
        omega
    show _ = (decide (h ≤ k ∧ k < endP (c.1 + c.2) r) && _)
    by_cases h1 : k < c.1
    · rw [below (by omega), decide_eq_false (show ¬ (c.1 + c.2 ≤ k ∧ k < endP (c.1 + c.2) r) by omega), decide_eq_false (show ¬ (c.1 ≤ k ∧ k < c.1 + c.2) by omega)]
      have : decide (h ≤ k ∧ k < c.1) = decide (h ≤ k ∧ k < endP (c.1 + c.2) r) := decide_eq_decide.mpr (by omega)
      rw [this]; simp
    · by_cases h2 : k < c.1 + c.2
      · rw [below h2, decide_eq_false (show ¬ (c.1 + c.2 ≤ k ∧ k < endP (c.1 + c.2) r) by omega), decide_eq_true (show c.1 ≤ k ∧ k < c.1 + c.2 by omega), decide_eq_false (show ¬ (h ≤ k ∧ k < c.1) by omega)]
        simp
      · rw [decide_eq_false (show ¬ (c.1 ≤ k ∧ k < c.1 + c.2) by omega), decide_eq_false (show ¬ (h ≤ k ∧ k < c.1) by omega)]
        have : decide (c.1 + c.2 ≤ k ∧ k < endP (c.1 + c.2) r) = decide (h ≤ k ∧ k < endP (c.1 + c.2) r) := decide_eq_decide.mpr (by omega)
        rw [this]; simp
theorem holeP_can : ∀ {L : Prs} {h : Int}, Srt h L → Can (holeP h L) ∧ ∀ x ∈ holeP h L, h ≤ x.1 ∧ x.1 + x.2 ≤ endP h L
  | [], h, _ => ⟨can_nil, fun x hx => by cases hx⟩
  | c :: r, h, hs => by
    obtain ⟨s1, s2, s3⟩ := hs
    obtain ⟨i1, i2⟩ := holeP_can s3
    have up := Srt.endP_le s3
    unfold holeP
    show Can _ ∧ ∀ x ∈ (_ ++ _ : Prs), h ≤ x.1 ∧ x.1 + x.2 ≤ endP (c.1 + c.2) r
    by_cases hh : h < c.1
    · rw [if_pos hh, List.singleton_append]
      refine ⟨⟨List.pairwise_cons.mpr ⟨fun x hx => ?_, i1.1⟩, fun x hx => ?_⟩, fun x hx => ?_⟩
      · have := (i2 x hx).1
        show h + (c.1 - h) < x.1
        omega
      · rcases List.mem_cons.mp hx with rfl | hx
        · show 1 ≤ c.1 - h; omega
        · exact i1.2 x hx
      · rcases List.mem_cons.mp hx with rfl | hx
        · exact ⟨Int.le_refl _, by show h + (c.1 - h) ≤ _; omega⟩
        · have := i2 x hx; omega
    · rw [if_neg hh, List.nil_append]
      exact ⟨i1, fun x hx => by have := i2 x hx; omega⟩
/-! ### ints from one to another -/
def fromTo (lo hi : Int) : List Int := (List.range (hi - lo).toNat).map fun i => lo + (i : Nat)
theorem rng_ft (lo hi : Int) : rng lo hi = (fromTo lo hi).map .int := by
  unfold rng fromTo
  rw [List.map_map]
  rfl
theorem ft_iff {lo hi z : Int} : z ∈ fromTo lo hi ↔ lo ≤ z ∧ z < hi := by
  unfold fromTo
  rw [List.mem_map]
  constructor
  · rintro ⟨i, hi, rfl⟩
    rw [List.mem_range] at hi
    omega
  · rintro ⟨h1, h2⟩
    exact ⟨(z - lo).toNat, List.mem_range.mpr (by omega), by omega⟩
theorem ft_len (lo hi : Int) : (fromTo lo hi).length = (hi - lo).toNat := by unfold fromTo; simp
theorem ft_app {lo mid hi : Int} (h1 : lo ≤ mid) (h2 : mid ≤ hi) : fromTo lo hi = fromTo lo mid ++ fromTo mid hi := by
  unfold fromTo
  obtain ⟨a, rfl⟩ : ∃ a : Nat, mid = lo + (a : Int) := ⟨(mid - lo).toNat, by omega⟩
  obtain ⟨b, rfl⟩ : ∃ b : Nat, hi = lo + (a : Int) + (b : Int) := ⟨(hi - (lo + a)).toNat, by omega⟩
  rw [show (lo + (a : Int) + (b : Int) - lo).toNat = a + b by omega, show (lo + (a : Int) - lo).toNat = a by omega, show (lo + (a : Int) + (b : Int) - (lo + (a : Int))).toNat = b by omega]
  rw [List.range_eq_range', List.range_eq_range', List.range_eq_range']
  have := List.range'_append (s := 0) (m := a) (n := b) (step := 1)
  rw [Nat.one_mul] at this
  rw [← this, List.map_append]
  congr 1
  rw [Nat.zero_add, List.range'_eq_map_range, List.range'_eq_map_range, List.map_map, List.map_map]
  refine List.map_congr_left fun i _ => ?_
  show lo + ((a + i : Nat) : Int) = lo + (a : Int) + ((0 + i : Nat) : Int)
  omega
theorem ft_cnt {lo hi b : Int} (h : b < hi) : (((fromTo lo hi).filter fun k => decide (k ≤ b)).length : Int) = max 0 (b + 1 - lo) := by
  by_cases h1 : lo ≤ b + 1
  · rw [ft_app (mid := b + 1) h1 (by omega), List.filter_append, List.filter_eq_self.mpr fun k hk => decide_eq_true (by have := ft_iff.mp hk; omega), List.filter_eq_nil_iff.mpr fun k hk => by have := ft_iff.mp hk; simp; omega, List.append_nil, ft_len]
    omega
  · rw [List.filter_eq_nil_iff.mpr fun k hk => by have := ft_iff.mp hk; simp; omega, List.length_nil]
    omega
section
variable {FT : Nat → Option Fn} {n : Nat} {st : Store} {d : D} {L : Prs}
theorem holes_ok {K : Nat} (h125 : FT 125 = some f125_holes) (hd : RepP d L) (hl : L.length ≤ 10000) (hk : 1 ≤ K) : callN FT n K 125 [d] st = .ok (.tup (encP (holeP 0 L))) st := by
  obtain ⟨k, rfl⟩ : ∃ k, K = k + 1 := ⟨K - 1, by omega⟩
  rw [callN, h125]
  have run : ∀ (en : Int × Int → D) (f : D → Env → Store → SO) (d : D)
      (hf : ∀ (c : Int × Int) (h : Int) (A : Prs) (a b : Option D), A.length < 10000 → f (en c) [some d, some (.mls (encP A)), some (.int h), a, b] st = .nx [some d, some (.mls (encP (A ++ (if h < c.1 then [(h, c.1 - h)] else [])))), some (.int (c.1 + c.2)), some (.int c.1), some (.int c.2)] st),
      ∀ (L : Prs) (h : Int) (A : Prs) (a b : Option D), A.length + L.length ≤ 10000 → ∃ h' a' b', forL f (L.map en) [some d, some (.mls (encP A)), some (.int h), a, b] st = .nx [some d, some (.mls (encP (A ++ holeP h L))), h', a', b'] st := by
    intro en f d hf L
    induction L with
    | nil => intro h A a b _; exact ⟨some (.int h), a, b, by rw [show holeP h [] = [] from rfl, List.append_nil]; rfl⟩
    | cons c L ih =>
      intro h A a b hA
      rw [List.length_cons] at hA
      rw [List.map_cons, forL_c, hf c h A a b (by omega), loop_nx]
      obtain ⟨h', a', b', e⟩ := ih (c.1 + c.2) (A ++ (if h < c.1 then [(h, c.1 - h)] else [])) (some (.int c.1)) (some (.int c.2)) (by rw [List.length_append]; split <;> simp <;> omega)
      refine ⟨h', a', b', ?_⟩
      rw [e, List.append_assoc]
      rfl
  rcases hd with rfl | rfl | rfl
  all_goals
    simp (disch := omega) only [f125_holes, evE, evA, evs, evs', evI, evsP, exS, bind_ok, bind_ex, bind_bad, so_ok, so_ex, so_bad, then_nx, then_rt, then_bk, then_ex, then_bad, lift_some, lift_none, soE_some', soE_none, noEx_ok, p_nm, p_tup, p_lst, pN_nil, pN_cons, p_frz, p_fls, p_int, p_bl, p_non, p_tupm, p_lstm, f_int, f_bl, f_str, f_non, f_tup, f_lst, f_fls, f_box, f_scr, u_int, u_bl, u_str, u_non, u_tup, u_lst, u_fls, t_bl, t_non, t_int, t_tup, t_lst, t_mls, t_fls, bd_int, bk_fls, bk_flsb, bk_int, bk_bl, bk_non, bk_str, bk_tup, bk_lst, bk_box, back_rt, back_nx, back_ex, idx_int, ix_tup, ix_lst, ix_mls, ix_fls, ix_box, sl_tup, sl_lst, sl_mls, sl_fls, sl_scr, b_add, b_sub, c_lt, c_le, c_gt, c_ge, c_eq, c_ne, c_eqB, c_neB, c_isN, c_notN, i_int, i_intB, i_abs, i_max, i_min, l_lst, l_tup, l_mls, l_fls, li_lst, li_tup, li_fls, tu_lst, tu_tup, tu_fls, tu_mls, su_2, frzM, getM, isS, subM, isNil, isNon, Gb.start, Option.bind_some, Option.bind_none, Option.map_some, Option.map_none, id_eq, List.getElem?_cons_zero, List.getElem?_cons_succ, List.getElem?_nil, List.set_cons_zero, List.set_cons_succ, List.map_cons, List.map_nil, List.length_cons, List.length_nil, List.cons_append, List.nil_append, List.replicate_succ, List.replicate_zero, Nat.reduceSub, Nat.reduceAdd, Nat.zero_add, Nat.reduceLT, if_true, if_false, reduceIte, Bool.false_eq_true, Bool.not_true, Bool.not_false, Bool.not_not, decide_true, decide_false, decide_not, is0_non, is0_bl, is0_int, is0_str, is0_tup, is0_lst, is0_mls, is0_fls, is1_non, is1_bl, is1_int, is1_str, is1_tup, is1_lst, is1_mls, is1_fls, is2_non, is2_bl, is2_int, is2_str, is2_tup, is2_lst, is2_mls, is2_fls, is3_non, is3_bl, is3_int, is3_str, is3_tup, is3_lst, is3_mls, is3_fls, is4_non, is4_bl, is4_int, is4_str, is4_tup, is4_lst, is4_mls, is4_fls, is5_non, is5_bl, is5_int, is5_str, is5_tup, is5_lst, is5_mls, is5_fls, is6_non, is6_bl, is6_int, is6_str, is6_tup, is6_lst, is6_mls, is6_fls, is7_non, is7_bl, is7_int, is7_str, is7_tup, is7_lst, is7_mls, is7_fls, beq_self_eq_true, Bool.true_beq, Bool.false_beq, Bool.and_true, Bool.true_and, Bool.and_false, Bool.false_and, Bool.or_true, Bool.true_or, Bool.or_false, Bool.false_or, wipeE, if_sz]
    generalize hf : (fun (d : D) (ρ : Env) (st : Store) => _) = f
  · obtain ⟨h', a', b', e⟩ := run encC f _ (fun c h A a b hA => by
      subst hf
      have hl := encP_len A
      by_cases hh : h < c.1
      · rw [if_pos hh, encP_app]; simp (disch := omega) only [encC, evE, evA, evs, evs', evI, evsP, exS, bind_ok, bind_ex, bind_bad, so_ok, so_ex, so_bad, then_nx, then_rt, then_bk, then_ex, then_bad, lift_some, lift_none, soE_some', soE_none, noEx_ok, p_nm, p_tup, p_lst, pN_nil, pN_cons, p_frz, p_fls, p_int, p_bl, p_non, p_tupm, p_lstm, f_int, f_bl, f_str, f_non, f_tup, f_lst, f_fls, f_box, f_scr, u_int, u_bl, u_str, u_non, u_tup, u_lst, u_fls, t_bl, t_non, t_int, t_tup, t_lst, t_mls, t_fls, bd_int, bk_fls, bk_flsb, bk_int, bk_bl, bk_non, bk_str, bk_tup, bk_lst, bk_box, back_rt, back_nx, back_ex, idx_int, ix_tup, ix_lst, ix_mls, ix_fls, ix_box, sl_tup, sl_lst, sl_mls, sl_fls, sl_scr, b_add, b_sub, c_lt, c_le, c_gt, c_ge, c_eq, c_ne, c_eqB, c_neB, c_isN, c_notN, i_int, i_intB, i_abs, i_max, i_min, l_lst, l_tup, l_mls, l_fls, li_lst, li_tup, li_fls, tu_lst, tu_tup, tu_fls, tu_mls, su_2, frzM, getM, isS, subM, isNil, isNon, Gb.start, Option.bind_some, Option.bind_none, Option.map_some, Option.map_none, id_eq, List.getElem?_cons_zero, List.getElem?_cons_succ, List.getElem?_nil, List.set_cons_zero, List.set_cons_succ, List.map_cons, List.map_nil, List.length_cons, List.length_nil, List.cons_append, List.nil_append, List.replicate_succ, List.replicate_zero, Nat.reduceSub, Nat.reduceAdd, Nat.zero_add, Nat.reduceLT, if_true, if_false, reduceIte, Bool.false_eq_true, Bool.not_true, Bool.not_false, Bool.not_not, decide_true, decide_false, decide_not, is0_non, is0_bl, is0_int, is0_str, is0_tup, is0_lst, is0_mls, is0_fls, is1_non, is1_bl, is1_int, is1_str, is1_tup, is1_lst, is1_mls, is1_fls, is2_non, is2_bl, is2_int, is2_str, is2_tup, is2_lst, is2_mls, is2_fls, is3_non, is3_bl, is3_int, is3_str, is3_tup, is3_lst, is3_mls, is3_fls, is4_non, is4_bl, is4_int, is4_str, is4_tup, is4_lst, is4_mls, is4_fls, is5_non, is5_bl, is5_int, is5_str, is5_tup, is5_lst, is5_mls, is5_fls, is6_non, is6_bl, is6_int, is6_str, is6_tup, is6_lst, is6_mls, is6_fls, is7_non, is7_bl, is7_int, is7_str, is7_tup, is7_lst, is7_mls, is7_fls, beq_self_eq_true, Bool.true_beq, Bool.false_beq, Bool.and_true, Bool.true_and, Bool.and_false, Bool.false_and, Bool.or_true, Bool.true_or, Bool.or_false, Bool.false_or, wipeE, hh, if_sz, if_szl, hl]; rfl
      · rw [if_neg hh, List.append_nil]; simp (disch := omega) only [encC, evE, evA, evs, evs', evI, evsP, exS, bind_ok, bind_ex, bind_bad, so_ok, so_ex, so_bad, then_nx, then_rt, then_bk, then_ex, then_bad, lift_some, lift_none, soE_some', soE_none, noEx_ok, p_nm, p_tup, p_lst, pN_nil, pN_cons, p_frz, p_fls, p_int, p_bl, p_non, p_tupm, p_lstm, f_int, f_bl, f_str, f_non, f_tup, f_lst, f_fls, f_box, f_scr, u_int, u_bl, u_str, u_non, u_tup, u_lst, u_fls, t_bl, t_non, t_int, t_tup, t_lst, t_mls, t_fls, bd_int, bk_fls, bk_flsb, bk_int, bk_bl, bk_non, bk_str, bk_tup, bk_lst, bk_box, back_rt, back_nx, back_ex, idx_int, ix_tup, ix_lst, ix_mls, ix_fls, ix_box, sl_tup, sl_lst, sl_mls, sl_fls, sl_scr, b_add, b_sub, c_lt, c_le, c_gt, c_ge, c_eq, c_ne, c_eqB, c_neB, c_isN, c_notN, i_int, i_intB, i_abs, i_max, i_min, l_lst, l_tup, l_mls, l_fls, li_lst, li_tup, li_fls, tu_lst, tu_tup, tu_fls, tu_mls, su_2, frzM, getM, isS, subM, isNil, isNon, Gb.start, Option.bind_some, Option.bind_none, Option.map_some, Option.map_none, id_eq, List.getElem?_cons_zero, List.getElem?_cons_succ, List.getElem?_nil, List.set_cons_zero, List.set_cons_succ, List.map_cons, List.map_nil, List.length_cons, List.length_nil, List.cons_append, List.nil_append, List.replicate_succ, List.replicate_zero, Nat.reduceSub, Nat.reduceAdd, Nat.zero_add, Nat.reduceLT, if_true, if_false, reduceIte, Bool.false_eq_true, Bool.not_true, Bool.not_false, Bool.not_not, decide_true, decide_false, decide_not, is0_non, is0_bl, is0_int, is0_str, is0_tup, is0_lst, is0_mls, is0_fls, is1_non, is1_bl, is1_int, is1_str, is1_tup, is1_lst, is1_mls, is1_fls, is2_non, is2_bl, is2_int, is2_str, is2_tup, is2_lst, is2_mls, is2_fls, is3_non, is3_bl, is3_int, is3_str, is3_tup, is3_lst, is3_mls, is3_fls, is4_non, is4_bl, is4_int, is4_str, is4_tup, is4_lst, is4_mls, is4_fls, is5_non, is5_bl, is5_int, is5_str, is5_tup, is5_lst, is5_mls, is5_fls, is6_non, is6_bl, is6_int, is6_str, is6_tup, is6_lst, is6_mls, is6_fls, is7_non, is7_bl, is7_int, is7_str, is7_tup, is7_lst, is7_mls, is7_fls, beq_self_eq_true, Bool.true_beq, Bool.false_beq, Bool.and_true, Bool.true_and, Bool.and_false, Bool.false_and, Bool.or_true, Bool.true_or, Bool.or_false, Bool.false_or, wipeE, hh]) L 0 [] none none (by simpa using hl)
    rw [show encP [] = [] from rfl] at e
    rw [show encP L = L.map encC from rfl, e]; simp (disch := omega) only [evE, evA, evs, evs', evI, evsP, exS, bind_ok, bind_ex, bind_bad, so_ok, so_ex, so_bad, then_nx, then_rt, then_bk, then_ex, then_bad, lift_some, lift_none, soE_some', soE_none, noEx_ok, p_nm, p_tup, p_lst, pN_nil, pN_cons, p_frz, p_fls, p_int, p_bl, p_non, p_tupm, p_lstm, f_int, f_bl, f_str, f_non, f_tup, f_lst, f_fls, f_box, f_scr, u_int, u_bl, u_str, u_non, u_tup, u_lst, u_fls, t_bl, t_non, t_int, t_tup, t_lst, t_mls, t_fls, bd_int, bk_fls, bk_flsb, bk_int, bk_bl, bk_non, bk_str, bk_tup, bk_lst, bk_box, back_rt, back_nx, back_ex, idx_int, ix_tup, ix_lst, ix_mls, ix_fls, ix_box, sl_tup, sl_lst, sl_mls, sl_fls, sl_scr, b_add, b_sub, c_lt, c_le, c_gt, c_ge, c_eq, c_ne, c_eqB, c_neB, c_isN, c_notN, i_int, i_intB, i_abs, i_max, i_min, l_lst, l_tup, l_mls, l_fls, li_lst, li_tup, li_fls, tu_lst, tu_tup, tu_fls, tu_mls, su_2, frzM, getM, isS, subM, isNil, isNon, Gb.start, Option.bind_some, Option.bind_none, Option.map_some, Option.map_none, id_eq, List.getElem?_cons_zero, List.getElem?_cons_succ, List.getElem?_nil, List.set_cons_zero, List.set_cons_succ, List.map_cons, List.map_nil, List.length_cons, List.length_nil, List.cons_append, List.nil_append, List.replicate_succ, List.replicate_zero, Nat.reduceSub, Nat.reduceAdd, Nat.zero_add, Nat.reduceLT, if_true, if_false, reduceIte, Bool.false_eq_true, Bool.not_true, Bool.not_false, Bool.not_not, decide_true, decide_false, decide_not, is0_non, is0_bl, is0_int, is0_str, is0_tup, is0_lst, is0_mls, is0_fls, is1_non, is1_bl, is1_int, is1_str, is1_tup, is1_lst, is1_mls, is1_fls, is2_non, is2_bl, is2_int, is2_str, is2_tup, is2_lst, is2_mls, is2_fls, is3_non, is3_bl, is3_int, is3_str, is3_tup, is3_lst, is3_mls, is3_fls, is4_non, is4_bl, is4_int, is4_str, is4_tup, is4_lst, is4_mls, is4_fls, is5_non, is5_bl, is5_int, is5_str, is5_tup, is5_lst, is5_mls, is5_fls, is6_non, is6_bl, is6_int, is6_str, is6_tup, is6_lst, is6_mls, is6_fls, is7_non, is7_bl, is7_int, is7_str, is7_tup, is7_lst, is7_mls, is7_fls, beq_self_eq_true, Bool.true_beq, Bool.false_beq, Bool.and_true, Bool.true_and, Bool.and_false, Bool.false_and, Bool.or_true, Bool.true_or, Bool.or_false, Bool.false_or, wipeE]
  · obtain ⟨h', a', b', e⟩ := run encC f _ (fun c h A a b hA => by
      subst hf
      have hl := encP_len A
      by_cases hh : h < c.1
      · rw [if_pos hh, encP_app]; simp (disch := omega) only [encC, evE, evA, evs, evs', evI, evsP, exS, bind_ok, bind_ex, bind_bad, so_ok, so_ex, so_bad, then_nx, then_rt, then_bk, then_ex, then_bad, lift_some, lift_none, soE_some', soE_none, noEx_ok, p_nm, p_tup, p_lst, pN_nil, pN_cons, p_frz, p_fls, p_int, p_bl, p_non, p_tupm, p_lstm, f_int, f_bl, f_str, f_non, f_tup, f_lst, f_fls, f_box, f_scr, u_int, u_bl, u_str, u_non, u_tup, u_lst, u_fls, t_bl, t_non, t_int, t_tup, t_lst, t_mls, t_fls, bd_int, bk_fls, bk_flsb, bk_int, bk_bl, bk_non, bk_str, bk_tup, bk_lst, bk_box, back_rt, back_nx, back_ex, idx_int, ix_tup, ix_lst, ix_mls, ix_fls, ix_box, sl_tup, sl_lst, sl_mls, sl_fls, sl_scr, b_add, b_sub, c_lt, c_le, c_gt, c_ge, c_eq, c_ne, c_eqB, c_neB, c_isN, c_notN, i_int, i_intB, i_abs, i_max, i_min, l_lst, l_tup, l_mls, l_fls, li_lst, li_tup, li_fls, tu_lst, tu_tup, tu_fls, tu_mls, su_2, frzM, getM, isS, subM, isNil, isNon, Gb.start, Option.bind_some, Option.bind_none, Option.map_some, Option.map_none, id_eq, List.getElem?_cons_zero, List.getElem?_cons_succ, List.getElem?_nil, List.set_cons_zero, List.set_cons_succ, List.map_cons, List.map_nil, List.length_cons, List.length_nil, List.cons_append, List.nil_append, List.replicate_succ, List.replicate_zero, Nat.reduceSub, Nat.reduceAdd, Nat.zero_add, Nat.reduceLT, if_true, if_false, reduceIte, Bool.false_eq_true, Bool.not_true, Bool.not_false, Bool.not_not, decide_true, decide_false, decide_not, is0_non, is0_bl, is0_int, is0_str, is0_tup, is0_lst, is0_mls, is0_fls, is1_non, is1_bl, is1_int, is1_str, is1_tup, is1_lst, is1_mls, is1_fls, is2_non, is2_bl, is2_int, is2_str, is2_tup, is2_lst, is2_mls, is2_fls, is3_non, is3_bl, is3_int, is3_str, is3_tup, is3_lst, is3_mls, is3_fls, is4_non, is4_bl, is4_int, is4_str, is4_tup, is4_lst, is4_mls, is4_fls, is5_non, is5_bl, is5_int, is5_str, is5_tup, is5_lst, is5_mls, is5_fls, is6_non, is6_bl, is6_int, is6_str, is6_tup, is6_lst, is6_mls, is6_fls, is7_non, is7_bl, is7_int, is7_str, is7_tup, is7_lst, is7_mls, is7_fls, beq_self_eq_true, Bool.true_beq, Bool.false_beq, Bool.and_true, Bool.true_and, Bool.and_false, Bool.false_and, Bool.or_true, Bool.true_or, Bool.or_false, Bool.false_or, wipeE, hh, if_sz, if_szl, hl]; rfl
      · rw [if_neg hh, List.append_nil]; simp (disch := omega) only [encC, evE, evA, evs, evs', evI, evsP, exS, bind_ok, bind_ex, bind_bad, so_ok, so_ex, so_bad, then_nx, then_rt, then_bk, then_ex, then_bad, lift_some, lift_none, soE_some', soE_none, noEx_ok, p_nm, p_tup, p_lst, pN_nil, pN_cons, p_frz, p_fls, p_int, p_bl, p_non, p_tupm, p_lstm, f_int, f_bl, f_str, f_non, f_tup, f_lst, f_fls, f_box, f_scr, u_int, u_bl, u_str, u_non, u_tup, u_lst, u_fls, t_bl, t_non, t_int, t_tup, t_lst, t_mls, t_fls, bd_int, bk_fls, bk_flsb, bk_int, bk_bl, bk_non, bk_str, bk_tup, bk_lst, bk_box, back_rt, back_nx, back_ex, idx_int, ix_tup, ix_lst, ix_mls, ix_fls, ix_box, sl_tup, sl_lst, sl_mls, sl_fls, sl_scr, b_add, b_sub, c_lt, c_le, c_gt, c_ge, c_eq, c_ne, c_eqB, c_neB, c_isN, c_notN, i_int, i_intB, i_abs, i_max, i_min, l_lst, l_tup, l_mls, l_fls, li_lst, li_tup, li_fls, tu_lst, tu_tup, tu_fls, tu_mls, su_2, frzM, getM, isS, subM, isNil, isNon, Gb.start, Option.bind_some, Option.bind_none, Option.map_some, Option.map_none, id_eq, List.getElem?_cons_zero, List.getElem?_cons_succ, List.getElem?_nil, List.set_cons_zero, List.set_cons_succ, List.map_cons, List.map_nil, List.length_cons, List.length_nil, List.cons_append, List.nil_append, List.replicate_succ, List.replicate_zero, Nat.reduceSub, Nat.reduceAdd, Nat.zero_add, Nat.reduceLT, if_true, if_false, reduceIte, Bool.false_eq_true, Bool.not_true, Bool.not_false, Bool.not_not, decide_true, decide_false, decide_not, is0_non, is0_bl, is0_int, is0_str, is0_tup, is0_lst, is0_mls, is0_fls, is1_non, is1_bl, is1_int, is1_str, is1_tup, is1_lst, is1_mls, is1_fls, is2_non, is2_bl, is2_int, is2_str, is2_tup, is2_lst, is2_mls, is2_fls, is3_non, is3_bl, is3_int, is3_str, is3_tup, is3_lst, is3_mls, is3_fls, is4_non, is4_bl, is4_int, is4_str, is4_tup, is4_lst, is4_mls, is4_fls, is5_non, is5_bl, is5_int, is5_str, is5_tup, is5_lst, is5_mls, is5_fls, is6_non, is6_bl, is6_int, is6_str, is6_tup, is6_lst, is6_mls, is6_fls, is7_non, is7_bl, is7_int, is7_str, is7_tup, is7_lst, is7_mls, is7_fls, beq_self_eq_true, Bool.true_beq, Bool.false_beq, Bool.and_true, Bool.true_and, Bool.and_false, Bool.false_and, Bool.or_true, Bool.true_or, Bool.or_false, Bool.false_or, wipeE, hh]) L 0 [] none none (by simpa using hl)
    rw [show encP [] = [] from rfl] at e
    rw [show encP L = L.map encC from rfl, e]; simp (disch := omega) only [evE, evA, evs, evs', evI, evsP, exS, bind_ok, bind_ex, bind_bad, so_ok, so_ex, so_bad, then_nx, then_rt, then_bk, then_ex, then_bad, lift_some, lift_none, soE_some', soE_none, noEx_ok, p_nm, p_tup, p_lst, pN_nil, pN_cons, p_frz, p_fls, p_int, p_bl, p_non, p_tupm, p_lstm, f_int, f_bl, f_str, f_non, f_tup, f_lst, f_fls, f_box, f_scr, u_int, u_bl, u_str, u_non, u_tup, u_lst, u_fls, t_bl, t_non, t_int, t_tup, t_lst, t_mls, t_fls, bd_int, bk_fls, bk_flsb, bk_int, bk_bl, bk_non, bk_str, bk_tup, bk_lst, bk_box, back_rt, back_nx, back_ex, idx_int, ix_tup, ix_lst, ix_mls, ix_fls, ix_box, sl_tup, sl_lst, sl_mls, sl_fls, sl_scr, b_add, b_sub, c_lt, c_le, c_gt, c_ge, c_eq, c_ne, c_eqB, c_neB, c_isN, c_notN, i_int, i_intB, i_abs, i_max, i_min, l_lst, l_tup, l_mls, l_fls, li_lst, li_tup, li_fls, tu_lst, tu_tup, tu_fls, tu_mls, su_2, frzM, getM, isS, subM, isNil, isNon, Gb.start, Option.bind_some, Option.bind_none, Option.map_some, Option.map_none, id_eq, List.getElem?_cons_zero, List.getElem?_cons_succ, List.getElem?_nil, List.set_cons_zero, List.set_cons_succ, List.map_cons, List.map_nil, List.length_cons, List.length_nil, List.cons_append, List.nil_append, List.replicate_succ, List.replicate_zero, Nat.reduceSub, Nat.reduceAdd, Nat.zero_add, Nat.reduceLT, if_true, if_false, reduceIte, Bool.false_eq_true, Bool.not_true, Bool.not_false, Bool.not_not, decide_true, decide_false, decide_not, is0_non, is0_bl, is0_int, is0_str, is0_tup, is0_lst, is0_mls, is0_fls, is1_non, is1_bl, is1_int, is1_str, is1_tup, is1_lst, is1_mls, is1_fls, is2_non, is2_bl, is2_int, is2_str, is2_tup, is2_lst, is2_mls, is2_fls, is3_non, is3_bl, is3_int, is3_str, is3_tup, is3_lst, is3_mls, is3_fls, is4_non, is4_bl, is4_int, is4_str, is4_tup, is4_lst, is4_mls, is4_fls, is5_non, is5_bl, is5_int, is5_str, is5_tup, is5_lst, is5_mls, is5_fls, is6_non, is6_bl, is6_int, is6_str, is6_tup, is6_lst, is6_mls, is6_fls, is7_non, is7_bl, is7_int, is7_str, is7_tup, is7_lst, is7_mls, is7_fls, beq_self_eq_true, Bool.true_beq, Bool.false_beq, Bool.and_true, Bool.true_and, Bool.and_false, Bool.false_and, Bool.or_true, Bool.true_or, Bool.or_false, Bool.false_or, wipeE]
  · obtain ⟨h', a', b', e⟩ := run encCl f _ (fun c h A a b hA => by
      subst hf
      have hl := encP_len A
      by_cases hh : h < c.1
      · rw [if_pos hh, encP_app]; simp (disch := omega) only [encCl, evE, evA, evs, evs', evI, evsP, exS, bind_ok, bind_ex, bind_bad, so_ok, so_ex, so_bad, then_nx, then_rt, then_bk, then_ex, then_bad, lift_some, lift_none, soE_some', soE_none, noEx_ok, p_nm, p_tup, p_lst, pN_nil, pN_cons, p_frz, p_fls, p_int, p_bl, p_non, p_tupm, p_lstm, f_int, f_bl, f_str, f_non, f_tup, f_lst, f_fls, f_box, f_scr, u_int, u_bl, u_str, u_non, u_tup, u_lst, u_fls, t_bl, t_non, t_int, t_tup, t_lst, t_mls, t_fls, bd_int, bk_fls, bk_flsb, bk_int, bk_bl, bk_non, bk_str, bk_tup, bk_lst, bk_box, back_rt, back_nx, back_ex, idx_int, ix_tup, ix_lst, ix_mls, ix_fls, ix_box, sl_tup, sl_lst, sl_mls, sl_fls, sl_scr, b_add, b_sub, c_lt, c_le, c_gt, c_ge, c_eq, c_ne, c_eqB, c_neB, c_isN, c_notN, i_int, i_intB, i_abs, i_max, i_min, l_lst, l_tup, l_mls, l_fls, li_lst, li_tup, li_fls, tu_lst, tu_tup, tu_fls, tu_mls, su_2, frzM, getM, isS, subM, isNil, isNon, Gb.start, Option.bind_some, Option.bind_none, Option.map_some, Option.map_none, id_eq, List.getElem?_cons_zero, List.getElem?_cons_succ, List.getElem?_nil, List.set_cons_zero, List.set_cons_succ, List.map_cons, List.map_nil, List.length_cons, List.length_nil, List.cons_append, List.nil_append, List.replicate_succ, List.replicate_zero, Nat.reduceSub, Nat.reduceAdd, Nat.zero_add, Nat.reduceLT, if_true, if_false, reduceIte, Bool.false_eq_true, Bool.not_true, Bool.not_false, Bool.not_not, decide_true, decide_false, decide_not, is0_non, is0_bl, is0_int, is0_str, is0_tup, is0_lst, is0_mls, is0_fls, is1_non, is1_bl, is1_int, is1_str, is1_tup, is1_lst, is1_mls, is1_fls, is2_non, is2_bl, is2_int, is2_str, is2_tup, is2_lst, is2_mls, is2_fls, is3_non, is3_bl, is3_int, is3_str, is3_tup, is3_lst, is3_mls, is3_fls, is4_non, is4_bl, is4_int, is4_str, is4_tup, is4_lst, is4_mls, is4_fls, is5_non, is5_bl, is5_int, is5_str, is5_tup, is5_lst, is5_mls, is5_fls, is6_non, is6_bl, is6_int, is6_str, is6_tup, is6_lst, is6_mls, is6_fls, is7_non, is7_bl, is7_int, is7_str, is7_tup, is7_lst, is7_mls, is7_fls, beq_self_eq_true, Bool.true_beq, Bool.false_beq, Bool.and_true, Bool.true_and, Bool.and_false, Bool.false_and, Bool.or_true, Bool.true_or, Bool.or_false, Bool.false_or, wipeE, hh, if_sz, if_szl, hl]; rfl
      · rw [if_neg hh, List.append_nil]; simp (disch := omega) only [encCl, evE, evA, evs, evs', evI, evsP, exS, bind_ok, bind_ex, bind_bad, so_ok, so_ex, so_bad, then_nx, then_rt, then_bk, then_ex, then_bad, lift_some, lift_none, soE_some', soE_none, noEx_ok, p_nm, p_tup, p_lst, pN_nil, pN_cons, p_frz, p_fls, p_int, p_bl, p_non, p_tupm, p_lstm, f_int, f_bl, f_str, f_non, f_tup, f_lst, f_fls, f_box, f_scr, u_int, u_bl, u_str, u_non, u_tup, u_lst, u_fls, t_bl, t_non, t_int, t_tup, t_lst, t_mls, t_fls, bd_int, bk_fls, bk_flsb, bk_int, bk_bl, bk_non, bk_str, bk_tup, bk_lst, bk_box, back_rt, back_nx, back_ex, idx_int, ix_tup, ix_lst, ix_mls, ix_fls, ix_box, sl_tup, sl_lst, sl_mls, sl_fls, sl_scr, b_add, b_sub, c_lt, c_le, c_gt, c_ge, c_eq, c_ne, c_eqB, c_neB, c_isN, c_notN, i_int, i_intB, i_abs, i_max, i_min, l_lst, l_tup, l_mls, l_fls, li_lst, li_tup, li_fls, tu_lst, tu_tup, tu_fls, tu_mls, su_2, frzM, getM, isS, subM, isNil, isNon, Gb.start, Option.bind_some, Option.bind_none, Option.map_some, Option.map_none, id_eq, List.getElem?_cons_zero, List.getElem?_cons_succ, List.getElem?_nil, List.set_cons_zero, List.set_cons_succ, List.map_cons, List.map_nil, List.length_cons, List.length_nil, List.cons_append, List.nil_append, List.replicate_succ, List.replicate_zero, Nat.reduceSub, Nat.reduceAdd, Nat.zero_add, Nat.reduceLT, if_true, if_false, reduceIte, Bool.false_eq_true, Bool.not_true, Bool.not_false, Bool.not_not, decide_true, decide_false, decide_not, is0_non, is0_bl, is0_int, is0_str, is0_tup, is0_lst, is0_mls, is0_fls, is1_non, is1_bl, is1_int, is1_str, is1_tup, is1_lst, is1_mls, is1_fls, is2_non, is2_bl, is2_int, is2_str, is2_tup, is2_lst, is2_mls, is2_fls, is3_non, is3_bl, is3_int, is3_str, is3_tup, is3_lst, is3_mls, is3_fls, is4_non, is4_bl, is4_int, is4_str, is4_tup, is4_lst, is4_mls, is4_fls, is5_non, is5_bl, is5_int, is5_str, is5_tup, is5_lst, is5_mls, is5_fls, is6_non, is6_bl, is6_int, is6_str, is6_tup, is6_lst, is6_mls, is6_fls, is7_non, is7_bl, is7_int, is7_str, is7_tup, is7_lst, is7_mls, is7_fls, beq_self_eq_true, Bool.true_beq, Bool.false_beq, Bool.and_true, Bool.true_and, Bool.and_false, Bool.false_and, Bool.or_true, Bool.true_or, Bool.or_false, Bool.false_or, wipeE, hh]) L 0 [] none none (by simpa using hl)
    rw [show encP [] = [] from rfl] at e
    rw [show encQ L = L.map encCl from rfl, e]; simp (disch := omega) only [evE, evA, evs, evs', evI, evsP, exS, bind_ok, bind_ex, bind_bad, so_ok, so_ex, so_bad, then_nx, then_rt, then_bk, then_ex, then_bad, lift_some, lift_none, soE_some', soE_none, noEx_ok, p_nm, p_tup, p_lst, pN_nil, pN_cons, p_frz, p_fls, p_int, p_bl, p_non, p_tupm, p_lstm, f_int, f_bl, f_str, f_non, f_tup, f_lst, f_fls, f_box, f_scr, u_int, u_bl, u_str, u_non, u_tup, u_lst, u_fls, t_bl, t_non, t_int, t_tup, t_lst, t_mls, t_fls, bd_int, bk_fls, bk_flsb, bk_int, bk_bl, bk_non, bk_str, bk_tup, bk_lst, bk_box, back_rt, back_nx, back_ex, idx_int, ix_tup, ix_lst, ix_mls, ix_fls, ix_box, sl_tup, sl_lst, sl_mls, sl_fls, sl_scr, b_add, b_sub, c_lt, c_le, c_gt, c_ge, c_eq, c_ne, c_eqB, c_neB, c_isN, c_notN, i_int, i_intB, i_abs, i_max, i_min, l_lst, l_tup, l_mls, l_fls, li_lst, li_tup, li_fls, tu_lst, tu_tup, tu_fls, tu_mls, su_2, frzM, getM, isS, subM, isNil, isNon, Gb.start, Option.bind_some, Option.bind_none, Option.map_some, Option.map_none, id_eq, List.getElem?_cons_zero, List.getElem?_cons_succ, List.getElem?_nil, List.set_cons_zero, List.set_cons_succ, List.map_cons, List.map_nil, List.length_cons, List.length_nil, List.cons_append, List.nil_append, List.replicate_succ, List.replicate_zero, Nat.reduceSub, Nat.reduceAdd, Nat.zero_add, Nat.reduceLT, if_true, if_false, reduceIte, Bool.false_eq_true, Bool.not_true, Bool.not_false, Bool.not_not, decide_true, decide_false, decide_not, is0_non, is0_bl, is0_int, is0_str, is0_tup, is0_lst, is0_mls, is0_fls, is1_non, is1_bl, is1_int, is1_str, is1_tup, is1_lst, is1_mls, is1_fls, is2_non, is2_bl, is2_int, is2_str, is2_tup, is2_lst, is2_mls, is2_fls, is3_non, is3_bl, is3_int, is3_str, is3_tup, is3_lst, is3_mls, is3_fls, is4_non, is4_bl, is4_int, is4_str, is4_tup, is4_lst, is4_mls, is4_fls, is5_non, is5_bl, is5_int, is5_str, is5_tup, is5_lst, is5_mls, is5_fls, is6_non, is6_bl, is6_int, is6_str, is6_tup, is6_lst, is6_mls, is6_fls, is7_non, is7_bl, is7_int, is7_str, is7_tup, is7_lst, is7_mls, is7_fls, beq_self_eq_true, Bool.true_beq, Bool.false_beq, Bool.and_true, Bool.true_and, Bool.and_false, Bool.false_and, Bool.or_true, Bool.true_or, Bool.or_false, Bool.false_or, wipeE]
end
end Gb

namespace Gb
open PySem
def f123_is_stays : Fn := ⟨1, 4,
    (.seq (.ite (.not (.isi (.var 0) [.tuple])) (.ret (.con (.bl false))) .pass)
    (.seq (.asg (.nm 1 false) (.con (.int 0)))
    (.seq (.for (.nm 2 false) (.seq (.var 0)) (.seq (.ite (.or (.not (.isi (.var 2) [.tuple])) (.or (.cmp .ne (.bi .len (.cons (.var 2) .nil)) (.con (.int 2))) (.not (.bi .all (.cons (.comp [3] (.nm 3 false) (.seq (.var 2)) (.con (.bl true)) (.call 21 (.cons (.var 3) .nil))) .nil))))) (.ret (.con (.bl false))) .pass)
    (.seq (.ite (.or (.cmp .lt (.idx (.var 2) (.con (.int 0))) (.var 1)) (.cmp .lt (.idx (.var 2) (.con (.int 1))) (.con (.int 1)))) (.ret (.con (.bl false))) .pass)
    (.asg (.nm 1 false) (.bin .add (.idx (.var 2) (.con (.int 0))) (.idx (.var 2) (.con (.int 1))))))))
    (.ret (.con (.bl true)))))), false⟩
def f126_how_many_places : Fn := ⟨2, 4,
    (.ret (.bi .sum (.cons (.comp [2, 3] (.tp [(2, false), (3, false)]) (.seq (.call 125 (.cons (.var 0) .nil))) (.con (.bl true)) (.bi .max2 (.cons (.con (.int 0)) (.cons (.bin .add (.bin .sub (.var 3) (.var 1)) (.con (.int 1))) .nil)))) .nil))), false⟩
def f127_law_box : Fn := ⟨2, 3,
    (.seq (.asg (.nm 2 false) (.ite (.cmp .lt (.var 1) (.bi .len (.cons (.var 0) .nil))) (.idx (.var 0) (.var 1)) (.con (.int 0))))
    (.ret (.lst (.cons (.bin .mul (.bi .abs (.cons (.var 2) .nil)) (.bi .int (.cons (.cmp .ge (.bi .abs (.cons (.var 2) .nil)) (.bin .pow (.con (.int 10)) (.con (.int 18)))) .nil))) (.cons (.bin .add (.bin .add (.bin .mod (.bi .int (.cons (.var 2) .nil)) (.con (.int 2305843009213693951))) (.bin .mul (.con (.int 39373)) (.var 1))) (.con (.int 2464))) (.cons (.con (.int 0)) .nil)))))), true⟩
def f130_law_is : Fn := ⟨1, 4,
    (.seq (.ite (.not (.isi (.var 0) [.tuple])) (.ret (.con (.bl false))) .pass)
    (.seq (.asg (.nm 1 false) (.con (.int 0)))
    (.seq (.for (.nm 2 false) (.seq (.var 0)) (.seq (.ite (.or (.not (.isi (.var 2) [.tuple])) (.cmp .ne (.bi .len (.cons (.var 2) .nil)) (.con (.int 2)))) (.ret (.con (.bl false))) .pass)
    (.seq (.ite (.or (.cmp .ne (.comp [3] (.nm 3 false) (.seq (.var 2)) (.or (.isi (.var 3) [.bool]) (.not (.isi (.var 3) [.int]))) (.var 3)) (.lst .nil)) (.or (.cmp .lt (.idx (.var 2) (.con (.int 0))) (.var 1)) (.cmp .lt (.idx (.var 2) (.con (.int 1))) (.con (.int 1))))) (.ret (.con (.bl false))) .pass)
    (.asg (.nm 1 false) (.bin .add (.idx (.var 2) (.con (.int 0))) (.idx (.var 2) (.con (.int 1))))))))
    (.ret (.con (.bl true)))))), false⟩
def f131_law_holes : Fn := ⟨1, 5,
    (.seq (.asg (.nm 1 false) (.call 129 (.cons (.var 0) .nil)))
    (.seq (.par [(3, false), (4, true)] (.cons (.call 80 (.cons (.var 0) (.cons (.var 1) .nil))) (.cons (.lst .nil) .nil)))
    (.seq (.for (.nm 2 false) (.rng1 (.var 1)) (.ite (.not (.idx (.var 3) (.var 2))) (.ite (.and (.cmp .ne (.var 4) (.lst .nil)) (.cmp .eq (.bi .sum (.cons (.idx (.var 4) (.neg (.con (.int 1)))) .nil)) (.var 2))) (.sub 4 (.neg (.con (.int 1))) (.tup (.cons (.idx (.idx (.var 4) (.neg (.con (.int 1)))) (.con (.int 0))) (.cons (.bin .add (.idx (.idx (.var 4) (.neg (.con (.int 1)))) (.con (.int 1))) (.con (.int 1))) .nil)))) (.app 4 (.tup (.cons (.var 2) (.cons (.con (.int 1)) .nil))))) .pass))
    (.ret (.bi .tuple (.cons (.var 4) .nil)))))), false⟩
def f132_law_spots : Fn := ⟨2, 5,
    (.seq (.asg (.nm 2 false) (.call 129 (.cons (.var 0) .nil)))
    (.seq (.asg (.nm 3 false) (.call 80 (.cons (.var 0) (.cons (.var 2) .nil))))
    (.ret (.bi .len (.cons (.comp [4] (.nm 4 false) (.rng1 (.var 2)) (.and (.cmp .le (.bin .add (.var 4) (.var 1)) (.var 2)) (.cmp .nmem (.con (.bl true)) (.slc (.var 3) (.var 4) (.bin .add (.var 4) (.var 1))))) (.var 4)) .nil))))), false⟩
def f133_law_by_hand_right : Fn := ⟨0, 7,
    (.seq (.asg (.nm 0 false) (.lst (.cons (.tup .nil) (.cons (.tup (.cons (.tup (.cons (.con (.int 3)) (.cons (.con (.int 1)) .nil))) (.cons (.tup (.cons (.con (.int 10)) (.cons (.con (.int 2)) .nil))) .nil))) (.cons (.tup (.cons (.tup (.cons (.con (.int 0)) (.cons (.con (.int 1)) .nil))) .nil)) (.cons (.tup (.cons (.tup (.cons (.con (.int 0)) (.cons (.con (.int 1)) .nil))) (.cons (.tup (.cons (.con (.int 1)) (.cons (.con (.int 1)) .nil))) .nil))) (.cons (.tup (.cons (.tup (.cons (.bin .pow (.con (.int 10)) (.con (.int 41))) (.cons (.bin .pow (.con (.int 10)) (.con (.int 41))) .nil))) .nil)) .nil)))))))
    (.seq (.asg (.nm 0 false) (.bin .add (.var 0) (.lst (.cons (.tup (.cons (.tup (.cons (.con (.int 5)) (.cons (.con (.int 2)) .nil))) (.cons (.tup (.cons (.con (.int 7)) (.cons (.con (.int 3)) .nil))) (.cons (.tup (.cons (.con (.int 10)) (.cons (.con (.int 1)) .nil))) .nil)))) .nil))))
    (.seq (.asg (.nm 1 false) (.lst (.cons (.tup (.cons (.tup (.cons (.con (.int 3)) (.cons (.con (.int 1)) .nil))) (.cons (.tup (.cons (.con (.int 3)) (.cons (.con (.int 2)) .nil))) .nil))) (.cons (.tup (.cons (.tup (.cons (.con (.int 3)) (.cons (.con (.int 2)) .nil))) (.cons (.tup (.cons (.con (.int 4)) (.cons (.con (.int 1)) .nil))) .nil))) (.cons (.tup (.cons (.tup (.cons (.neg (.con (.int 1))) (.cons (.con (.int 2)) .nil))) .nil)) (.cons (.tup (.cons (.tup (.cons (.con (.int 3)) (.cons (.con (.int 0)) .nil))) .nil)) (.cons (.tup (.cons (.tup (.cons (.con (.int 3)) (.cons (.con (.int 1)) .nil))) (.cons (.tup (.cons (.con (.int 1)) (.cons (.con (.int 1)) .nil))) .nil))) (.cons (.tup (.cons (.tup (.cons (.con (.int 3)) .nil)) .nil)) .nil))))))))
    (.seq (.asg (.nm 1 false) (.bin .add (.var 1) (.lst (.cons (.tup (.cons (.tup (.cons (.con (.int 3)) (.cons (.con (.int 1)) (.cons (.con (.int 1)) .nil)))) .nil)) (.cons (.lst (.cons (.tup (.cons (.con (.int 3)) (.cons (.con (.int 1)) .nil))) .nil)) (.cons (.tup (.cons (.lst (.cons (.con (.int 3)) (.cons (.con (.int 1)) .nil))) .nil)) (.cons (.tup (.cons (.tup (.cons (.con (.bl true)) (.cons (.con (.int 1)) .nil))) .nil)) (.cons (.tup (.cons (.tup (.cons (.con (.int 3)) (.cons (.con (.bl true)) .nil))) .nil)) (.cons (.tup (.cons (.tup (.cons (.con (.int 3)) (.cons (.con (.non)) .nil))) .nil)) (.cons (.con (.non)) (.cons (.con (.int 0)) .nil)))))))))))
    (.seq (.asg (.nm 1 false) (.bin .add (.var 1) (.lst (.cons (.con (.str (Str.ofString "ab"))) (.cons (.tup (.cons (.con (.int 3)) (.cons (.con (.int 1)) .nil))) (.cons (.tup (.cons (.tup (.cons (.con (.int 3)) (.cons (.con (.str (Str.ofString "1"))) .nil))) .nil)) (.cons (.tup (.cons (.tup (.cons (.tup (.cons (.con (.int 3)) (.cons (.con (.int 1)) .nil))) (.cons (.tup (.cons (.con (.int 5)) (.cons (.con (.int 1)) .nil))) .nil))) .nil)) .nil)))))))
    (.seq (.asg (.nm 2 false) (.tup (.cons (.tup (.cons (.con (.int 3)) (.cons (.con (.int 1)) .nil))) (.cons (.tup (.cons (.con (.int 10)) (.cons (.con (.int 2)) .nil))) .nil))))
    (.seq (.asg (.nm 3 false) (.lst (.cons (.comp [5] (.nm 5 false) (.seq (.var 0)) (.con (.bl true)) (.call 123 (.cons (.var 5) .nil))) (.cons (.comp [5] (.nm 5 false) (.seq (.var 1)) (.con (.bl true)) (.call 123 (.cons (.var 5) .nil))) .nil))))
    (.seq (.asg (.nm 3 false) (.bin .add (.var 3) (.lst (.cons (.comp [5] (.nm 5 false) (.seq (.tup (.cons (.idx (.var 0) (.con (.int 0))) (.cons (.idx (.var 0) (.con (.int 1))) (.cons (.idx (.var 0) (.con (.int 2))) (.cons (.idx (.var 0) (.con (.int 5))) .nil)))))) (.con (.bl true)) (.call 124 (.cons (.var 5) .nil))) .nil))))
    (.seq (.asg (.nm 3 false) (.bin .add (.var 3) (.lst (.cons (.comp [5] (.nm 5 false) (.seq (.tup (.cons (.idx (.var 0) (.con (.int 0))) (.cons (.idx (.var 0) (.con (.int 1))) (.cons (.idx (.var 0) (.con (.int 2))) (.cons (.idx (.var 0) (.con (.int 5))) .nil)))))) (.con (.bl true)) (.call 125 (.cons (.var 5) .nil))) .nil))))
    (.seq (.asg (.nm 4 false) (.lst (.cons (.bin .mul (.lst (.cons (.con (.bl true)) .nil)) (.con (.int 6))) (.cons (.bin .mul (.lst (.cons (.con (.bl false)) .nil)) (.bi .len (.cons (.var 1) .nil))) (.cons (.lst (.cons (.con (.int 0)) (.cons (.con (.int 12)) (.cons (.con (.int 1)) (.cons (.con (.int 11)) .nil))))) (.cons (.lst (.cons (.tup .nil) (.cons (.tup (.cons (.tup (.cons (.con (.int 0)) (.cons (.con (.int 3)) .nil))) (.cons (.tup (.cons (.con (.int 4)) (.cons (.con (.int 6)) .nil))) .nil))) (.cons (.tup .nil) (.cons (.tup (.cons (.tup (.cons (.con (.int 0)) (.cons (.con (.int 5)) .nil))) .nil)) .nil))))) .nil))))))
    (.seq (.asg (.nm 3 false) (.bin .add (.var 3) (.lst (.cons (.comp [6] (.nm 6 false) (.seq (.tup (.cons (.con (.int 1)) (.cons (.con (.int 2)) (.cons (.con (.int 3)) (.cons (.con (.int 4)) (.cons (.con (.int 6)) (.cons (.con (.int 7)) (.cons (.bin .pow (.con (.int 10)) (.con (.int 40))) .nil))))))))) (.con (.bl true)) (.call 126 (.cons (.var 2) (.cons (.var 6) .nil)))) .nil))))
    (.seq (.asg (.nm 3 false) (.bin .add (.var 3) (.lst (.cons (.call 126 (.cons (.tup .nil) (.cons (.con (.int 1)) .nil))) (.cons (.call 125 (.cons (.tup (.cons (.tup (.cons (.con (.int 1000)) (.cons (.con (.int 1000)) .nil))) .nil)) .nil)) (.cons (.call 124 (.cons (.tup (.cons (.tup (.cons (.con (.int 1000)) (.cons (.con (.int 1000)) .nil))) .nil)) .nil)) .nil))))))
    (.seq (.asg (.nm 3 false) (.bin .add (.var 3) (.lst (.cons (.call 126 (.cons (.tup (.cons (.tup (.cons (.con (.int 1000)) (.cons (.con (.int 1000)) .nil))) .nil)) (.cons (.con (.int 999)) .nil))) .nil))))
    (.seq (.asg (.nm 4 false) (.bin .add (.var 4) (.lst (.cons (.lst (.cons (.con (.int 9)) (.cons (.con (.int 7)) (.cons (.con (.int 5)) (.cons (.con (.int 3)) (.cons (.con (.int 1)) (.cons (.con (.int 0)) (.cons (.con (.int 0)) .nil)))))))) (.cons (.con (.int 0)) (.cons (.tup (.cons (.tup (.cons (.con (.int 0)) (.cons (.con (.int 1000)) .nil))) .nil)) (.cons (.con (.int 2000)) (.cons (.con (.int 2)) .nil))))))))
    (.seq (.asg (.nm 3 false) (.bin .add (.var 3) (.lst (.cons (.callK 124 [0] (.cons (.call 10 (.cons (.var 2) .nil)) .nil)) (.cons (.callK 125 [0] (.cons (.call 10 (.cons (.var 2) .nil)) .nil)) .nil)))))
    (.seq (.asg (.nm 3 false) (.bin .add (.var 3) (.lst (.cons (.callK 126 [1, 0] (.cons (.con (.int 3)) (.cons (.call 10 (.cons (.var 2) .nil)) .nil))) (.cons (.callK 123 [0] (.cons (.var 2) .nil)) .nil)))))
    (.ret (.call 11 (.cons (.var 3) (.cons (.bin .add (.var 4) (.lst (.cons (.con (.int 12)) (.cons (.tup (.cons (.tup (.cons (.con (.int 0)) (.cons (.con (.int 3)) .nil))) (.cons (.tup (.cons (.con (.int 4)) (.cons (.con (.int 6)) .nil))) .nil))) (.cons (.con (.int 5)) (.cons (.con (.bl true)) .nil)))))) .nil)))))))))))))))))))), false⟩
def f297_law_case_right : Fn := ⟨1, 9,
    (.seq (.asg (.nm 1 false) (.call 128 (.cons (.var 0) (.cons (.con (.int 5)) (.cons (.con (.int 6)) .nil)))))
    (.seq (.asg (.nm 2 false) (.lst (.cons (.call 124 (.cons (.var 1) .nil)) (.cons (.call 125 (.cons (.var 1) .nil)) (.cons (.call 125 (.cons (.call 10 (.cons (.var 1) .nil)) .nil)) .nil)))))
    (.seq (.asg (.nm 2 false) (.bin .add (.var 2) (.lst (.cons (.comp [8] (.nm 8 false) (.rng2 (.con (.int 1)) (.con (.int 9))) (.con (.bl true)) (.call 126 (.cons (.var 1) (.cons (.var 8) .nil)))) (.cons (.call 123 (.cons (.var 1) .nil)) .nil)))))
    (.seq (.ite (.not (.call 11 (.cons (.var 2) (.cons (.lst (.cons (.call 129 (.cons (.var 1) .nil)) (.cons (.call 131 (.cons (.var 1) .nil)) (.cons (.call 131 (.cons (.var 1) .nil)) (.cons (.comp [8] (.nm 8 false) (.rng2 (.con (.int 1)) (.con (.int 9))) (.con (.bl true)) (.call 132 (.cons (.var 1) (.cons (.var 8) .nil)))) (.cons (.con (.bl true)) .nil)))))) .nil)))) (.ret (.con (.bl false))) .pass)
    (.seq (.asg (.nm 3 true) (.bi .list (.cons (.var 1) .nil)))
    (.seq (.for (.nm 4 false) (.rng1 (.bi .min2 (.cons (.con (.int 2)) (.cons (.bi .len (.cons (.var 3) .nil)) .nil)))) (.seq (.asg (.nm 6 false) (.call 7 (.cons (.var 0) (.cons (.bi .len (.cons (.var 3) .nil)) .nil))))
    (.sub 3 (.var 6) (.tup (.cons (.bin .sub (.bin .add (.idx (.idx (.var 3) (.var 6)) (.con (.int 0))) (.call 7 (.cons (.var 0) (.cons (.con (.int 7)) .nil)))) (.con (.int 3))) (.cons (.bin .sub (.bin .add (.idx (.idx (.var 3) (.var 6)) (.con (.int 1))) (.call 7 (.cons (.var 0) (.cons (.con (.int 5)) .nil)))) (.con (.int 2))) .nil))))))
    (.seq (.asg (.nm 5 false) (.lst (.cons (.bi .tuple (.cons (.var 3) .nil)) (.cons (.rev (.var 1)) (.cons (.bin .add (.var 1) (.var 1)) (.cons (.bi .list (.cons (.var 1) .nil)) .nil))))))
    (.seq (.asg (.nm 5 false) (.bin .add (.var 5) (.lst (.cons (.bi .tuple (.cons (.comp [7] (.nm 7 false) (.seq (.var 1)) (.con (.bl true)) (.bi .list (.cons (.var 7) .nil))) .nil)) .nil))))
    (.ret (.call 11 (.cons (.comp [7] (.nm 7 false) (.seq (.var 5)) (.con (.bl true)) (.call 123 (.cons (.var 7) .nil))) (.cons (.comp [7] (.nm 7 false) (.seq (.var 5)) (.con (.bl true)) (.call 130 (.cons (.var 7) .nil))) .nil)))))))))))), false⟩
def f298_law_right : Fn := ⟨1, 2,
    (.ret (.bi .all (.cons (.comp [1] (.nm 1 false) (.rng1 (.con (.int 10))) (.con (.bl true)) (.call 297 (.cons (.var 0) .nil))) .nil))), false⟩
def f299_law : Fn := ⟨1, 3,
    (.seq (.ite (.not (.call 133 .nil)) (.ret (.con (.bl false))) .pass)
    (.seq (.asg (.nm 1 false) (.call 8 (.cons (.var 0) (.cons (.con (.int 3)) .nil))))
    (.ret (.bi .all (.cons (.comp [2] (.nm 2 false) (.rng1 (.bi .len (.cons (.var 1) .nil))) (.con (.bl true)) (.call 298 (.cons (.call 127 (.cons (.var 1) (.cons (.var 2) .nil))) .nil))) .nil))))), false⟩
def FT : Nat → Option Fn
  | 21 => some f21_is_number
  | 123 => some f123_is_stays
  | 124 => some f124_end_of
  | 125 => some f125_holes
  | 126 => some f126_how_many_places
  | 127 => some f127_law_box
  | 7 => some f7_law_take
  | 8 => some f8_law_cells
  | 10 => some f10_law_lists
  | 11 => some f11_law_same
  | 128 => some f128_law_posts
  | 129 => some f129_law_border
  | 80 => some f80_law_filled
  | 130 => some f130_law_is
  | 131 => some f131_law_holes
  | 132 => some f132_law_spots
  | 133 => some f133_law_by_hand_right
  | 297 => some f297_law_case_right
  | 298 => some f298_law_right
  | 299 => some f299_law
  | _ => none
-- mods: G26 G27 G28 G29 G32 G33
abbrev turns : Nat := 10 ^ 6
abbrev depth : Nat := 30
/-! ### how many places -/
def frB (L : Prs) (size : Nat) (k : Int) : Bool := (List.range size).all fun i => !cov L (k + (i : Nat))
theorem frB_iff {L : Prs} {size : Nat} {k : Int} : frB L size k = true ↔ ∀ j : Int, k ≤ j → j < k + (size : Nat) → cov L j = false := by
  unfold frB
  rw [List.all_eq_true]
  constructor
  · intro h j h1 h2
    have := h (j - k).toNat (List.mem_range.mpr (by omega))
    rw [show k + (((j - k).toNat : Nat) : Int) = j by omega] at this
    simpa using this
  · intro h i hi
    rw [List.mem_range] at hi
    rw [h (k + (i : Nat)) (by omega) (by omega)]
    rfl
def okB (L : Prs) (E : Int) (size : Nat) (k : Int) : Bool := decide (k + (size : Nat) ≤ E) && frB L size k
def mxS (size : Int) (x : Int × Int) : Int := max 0 (x.2 - size + 1)
theorem count_ok {size : Nat} (h1 : 1 ≤ size) : ∀ {L : Prs} {h : Int}, Srt h L → (((fromTo h (endP h L)).filter (okB L (endP h L) size)).length : Int) = ((holeP h L).map (mxS size)).sum
  | [], h, _ => by
    rw [show endP h [] = h from rfl]
    have : fromTo h h = [] := by unfold fromTo; rw [show (h - h).toNat = 0 by omega]; rfl
    rw [this]; rfl
  | c :: r, h, hs => by
    obtain ⟨s1, s2, s3⟩ := hs
    have ih := count_ok h1 s3
    have up := Srt.endP_le s3
    have ee : endP h (c :: r) = endP (c.1 + c.2) r := rfl
    have rmem : ∀ x ∈ r, c.1 + c.2 ≤ x.1 := fun x hx => (Srt.mem s3 x hx).1
    have below : ∀ k, k < c.1 + c.2 → cov r k = false := fun k hk => by
      cases q : cov r k
      · rfl
      · obtain ⟨x, hx, x1, x2⟩ := (cov_iff _ _).mp q
        have := rmem x hx
        omega
    rw [ee, ft_app (lo := h) (mid := c.1 + c.2) (by omega) up, List.filter_append, List.length_append]
    have e2 : (fromTo (c.1 + c.2) (endP (c.1 + c.2) r)).filter (okB (c :: r) (endP (c.1 + c.2) r) size) = (fromTo (c.1 + c.2) (endP (c.1 + c.2) r)).filter (okB r (endP (c.1 + c.2) r) size) := by
      refine List.filter_congr fun k hk => ?_
      have hk := ft_iff.mp hk
      unfold okB
      congr 1
      refine Bool.eq_iff_iff.mpr ?_
      rw [frB_iff, frB_iff]
      refine forall_congr' fun j => forall_congr' fun j1 => forall_congr' fun j2 => ?_
      rw [cov_cons, decide_eq_false (by omega), Bool.false_or]
    have e1 : (fromTo h (c.1 + c.2)).filter (okB (c :: r) (endP (c.1 + c.2) r) size) = (fromTo h (c.1 + c.2)).filter (fun k => decide (k ≤ c.1 - (size : Nat))) := by
      refine List.filter_congr fun k hk => ?_
      have hk := ft_iff.mp hk
      by_cases q : k ≤ c.1 - (size : Nat)
      · rw [decide_eq_true q]
        unfold okB
        rw [decide_eq_true (by omega), Bool.true_and, frB_iff]
        intro j j1 j2
        rw [cov_cons, decide_eq_false (by omega), Bool.false_or]
        exact below j (by omega)
      · rw [decide_eq_false q]
        unfold okB
        rw [Bool.and_eq_false_iff]
        right
        cases z : frB (c :: r) size k
        · rfl
        · have := frB_iff.mp z (max k c.1) (by omega) (by omega)
          rw [cov_cons, decide_eq_true (by omega)] at this
          cases this
    have e3 := ft_cnt (lo := h) (hi := c.1 + c.2) (b := c.1 - (size : Nat)) (by omega)
    rw [e1, e2]
    show _ = ((_ ++ _ : Prs).map (mxS size)).sum
    rw [List.map_append, List.sum_append, ← ih]
    have e4 : ((if h < c.1 then [(h, c.1 - h)] else [] : Prs).map (mxS size)).sum = max 0 (c.1 - (size : Nat) + 1 - h) := by
      by_cases hh : h < c.1
      · rw [if_pos hh]
        show max 0 (c.1 - h - (size : Nat) + 1) + 0 = _
        omega
      · rw [if_neg hh]
        show 0 = _
        omega
    rw [e4]
    omega
/-! ### what is STAYS -/
def isP : Int → Prs → Bool
  | _, [] => true
  | h, c :: r => if c.1 < h ∨ c.2 < 1 then false else isP (c.1 + c.2) r
theorem isP_srt : ∀ {L : Prs} {h : Int}, Srt h L → isP h L = true
  | [], h, _ => rfl
  | c :: r, h, hs => by
    obtain ⟨s1, s2, s3⟩ := hs
    unfold isP
    rw [if_neg (by omega)]
    exact isP_srt s3
def mxG (size : Int) : D → D
  | .tup [.int _, .int c] => .int (max 0 (c - size + 1))
  | d => d
def spG (L : Prs) (E size : Int) : D → Option D
  | .int k => if okB L E size.toNat k then some (.int k) else none
  | d => some d
theorem spG_map (L : Prs) (E : Int) (size : Nat) : ∀ xs : List Int, (xs.map D.int).filterMap (spG L E (size : Nat)) = (xs.filter (okB L E size)).map .int
  | [] => rfl
  | x :: xs => by
    rw [List.map_cons, List.filterMap_cons, List.filter_cons, spG_map L E size xs]
    unfold spG
    dsimp only
    rw [Int.toNat_natCast]
    cases h : okB L E size x <;> simp
theorem su_ints {ns : List Int} : biD .sum [.fls (ns.map .int)] = some (.int ns.sum) := su_fls
theorem any_flat (bs : List Bool) : (bs.map D.bl).all flatD = true ∧ ((bs.map D.bl).any fun y => eqF y (.bl true)) = bs.any id := by
  constructor
  · exact List.all_eq_true.mpr fun d hd => by obtain ⟨b, _, rfl⟩ := List.mem_map.mp hd; rfl
  · rw [List.any_map]
    congr 1
    funext b
    cases b <;> rfl
section
variable {n K : Nat} {st : Store} {d : D} {L : Prs}
theorem many_ok (hd : RepP d L) (hl : L.length ≤ 1000) {size : Int} (hk : 2 ≤ K) : callN FT n K 126 [d, .int size] st = .ok (.int ((holeP 0 L).map (mxS size)).sum) st := by
  obtain ⟨k, rfl⟩ : ∃ k, K = k + 2 := ⟨K - 2, by omega⟩
  have hf := hd.frz
  have e1 := fun st => holes_ok (FT := FT) (n := n) (K := k + 1) (st := st) rfl hd (by omega) (by omega)
  have hh := holeP_len L 0
  rw [callN, show FT 126 = some f126_how_many_places from rfl]
  simp (disch := omega) only [f126_how_many_places, evE, evA, evs, evs', evI, evsP, exS, bind_ok, bind_ex, bind_bad, so_ok, so_ex, so_bad, then_nx, then_rt, then_bk, then_ex, then_bad, lift_some, lift_none, soE_some', soE_none, noEx_ok, p_nm, p_tup, p_lst, pN_nil, pN_cons, p_frz, p_fls, p_int, p_bl, p_non, p_tupm, p_lstm, f_int, f_bl, f_str, f_non, f_tup, f_lst, f_fls, f_box, f_scr, u_int, u_bl, u_str, u_non, u_tup, u_lst, u_fls, t_bl, t_non, t_int, t_tup, t_lst, t_mls, t_fls, bd_int, bk_fls, bk_flsb, bk_int, bk_bl, bk_non, bk_str, bk_tup, bk_lst, bk_box, back_rt, back_nx, back_ex, idx_int, ix_tup, ix_lst, ix_mls, ix_fls, ix_box, sl_tup, sl_lst, sl_mls, sl_fls, sl_scr, b_add, b_sub, c_lt, c_le, c_gt, c_ge, c_eq, c_ne, c_eqB, c_neB, c_isN, c_notN, i_int, i_intB, i_abs, i_max, i_min, l_lst, l_tup, l_mls, l_fls, li_lst, li_tup, li_fls, tu_lst, tu_tup, tu_fls, tu_mls, su_2, frzM, getM, isS, subM, isNil, isNon, Gb.start, Option.bind_some, Option.bind_none, Option.map_some, Option.map_none, id_eq, List.getElem?_cons_zero, List.getElem?_cons_succ, List.getElem?_nil, List.set_cons_zero, List.set_cons_succ, List.map_cons, List.map_nil, List.length_cons, List.length_nil, List.cons_append, List.nil_append, List.replicate_succ, List.replicate_zero, Nat.reduceSub, Nat.reduceAdd, Nat.zero_add, Nat.reduceLT, if_true, if_false, reduceIte, Bool.false_eq_true, Bool.not_true, Bool.not_false, Bool.not_not, decide_true, decide_false, decide_not, is0_non, is0_bl, is0_int, is0_str, is0_tup, is0_lst, is0_mls, is0_fls, is1_non, is1_bl, is1_int, is1_str, is1_tup, is1_lst, is1_mls, is1_fls, is2_non, is2_bl, is2_int, is2_str, is2_tup, is2_lst, is2_mls, is2_fls, is3_non, is3_bl, is3_int, is3_str, is3_tup, is3_lst, is3_mls, is3_fls, is4_non, is4_bl, is4_int, is4_str, is4_tup, is4_lst, is4_mls, is4_fls, is5_non, is5_bl, is5_int, is5_str, is5_tup, is5_lst, is5_mls, is5_fls, is6_non, is6_bl, is6_int, is6_str, is6_tup, is6_lst, is6_mls, is6_fls, is7_non, is7_bl, is7_int, is7_str, is7_tup, is7_lst, is7_mls, is7_fls, beq_self_eq_true, Bool.true_beq, Bool.false_beq, Bool.and_true, Bool.true_and, Bool.and_false, Bool.false_and, Bool.or_true, Bool.true_or, Bool.or_false, Bool.false_or, wipeE, hf, e1]
  rw [compL_map (g := mxG size) _ _ (fun d hd => ?_) (by rw [encP_len]; exact sz (by simp; omega)), List.nil_append]
  · have em : (encP (holeP 0 L)).map (mxG size) = ((holeP 0 L).map (mxS size)).map .int := by
      unfold encP
      rw [List.map_map, List.map_map]
      rfl
    rw [em]
    simp (disch := omega) only [evE, evA, evs, evs', evI, evsP, exS, bind_ok, bind_ex, bind_bad, so_ok, so_ex, so_bad, then_nx, then_rt, then_bk, then_ex, then_bad, lift_some, lift_none, soE_some', soE_none, noEx_ok, p_nm, p_tup, p_lst, pN_nil, pN_cons, p_frz, p_fls, p_int, p_bl, p_non, p_tupm, p_lstm, f_int, f_bl, f_str, f_non, f_tup, f_lst, f_fls, f_box, f_scr, u_int, u_bl, u_str, u_non, u_tup, u_lst, u_fls, t_bl, t_non, t_int, t_tup, t_lst, t_mls, t_fls, bd_int, bk_fls, bk_flsb, bk_int, bk_bl, bk_non, bk_str, bk_tup, bk_lst, bk_box, back_rt, back_nx, back_ex, idx_int, ix_tup, ix_lst, ix_mls, ix_fls, ix_box, sl_tup, sl_lst, sl_mls, sl_fls, sl_scr, b_add, b_sub, c_lt, c_le, c_gt, c_ge, c_eq, c_ne, c_eqB, c_neB, c_isN, c_notN, i_int, i_intB, i_abs, i_max, i_min, l_lst, l_tup, l_mls, l_fls, li_lst, li_tup, li_fls, tu_lst, tu_tup, tu_fls, tu_mls, su_2, frzM, getM, isS, subM, isNil, isNon, Gb.start, Option.bind_some, Option.bind_none, Option.map_some, Option.map_none, id_eq, List.getElem?_cons_zero, List.getElem?_cons_succ, List.getElem?_nil, List.set_cons_zero, List.set_cons_succ, List.map_cons, List.map_nil, List.length_cons, List.length_nil, List.cons_append, List.nil_append, List.replicate_succ, List.replicate_zero, Nat.reduceSub, Nat.reduceAdd, Nat.zero_add, Nat.reduceLT, if_true, if_false, reduceIte, Bool.false_eq_true, Bool.not_true, Bool.not_false, Bool.not_not, decide_true, decide_false, decide_not, is0_non, is0_bl, is0_int, is0_str, is0_tup, is0_lst, is0_mls, is0_fls, is1_non, is1_bl, is1_int, is1_str, is1_tup, is1_lst, is1_mls, is1_fls, is2_non, is2_bl, is2_int, is2_str, is2_tup, is2_lst, is2_mls, is2_fls, is3_non, is3_bl, is3_int, is3_str, is3_tup, is3_lst, is3_mls, is3_fls, is4_non, is4_bl, is4_int, is4_str, is4_tup, is4_lst, is4_mls, is4_fls, is5_non, is5_bl, is5_int, is5_str, is5_tup, is5_lst, is5_mls, is5_fls, is6_non, is6_bl, is6_int, is6_str, is6_tup, is6_lst, is6_mls, is6_fls, is7_non, is7_bl, is7_int, is7_str, is7_tup, is7_lst, is7_mls, is7_fls, beq_self_eq_true, Bool.true_beq, Bool.false_beq, Bool.and_true, Bool.true_and, Bool.and_false, Bool.false_and, Bool.or_true, Bool.true_or, Bool.or_false, Bool.false_or, wipeE, su_ints]
  · unfold encP at hd
    obtain ⟨c, _, rfl⟩ := List.mem_map.mp hd
    have em : ∀ b : Int, (if b > 0 then b else 0) = max 0 b := fun b => by omega
    simp (disch := omega) only [evE, evA, evs, evs', evI, evsP, exS, bind_ok, bind_ex, bind_bad, so_ok, so_ex, so_bad, then_nx, then_rt, then_bk, then_ex, then_bad, lift_some, lift_none, soE_some', soE_none, noEx_ok, p_nm, p_tup, p_lst, pN_nil, pN_cons, p_frz, p_fls, p_int, p_bl, p_non, p_tupm, p_lstm, f_int, f_bl, f_str, f_non, f_tup, f_lst, f_fls, f_box, f_scr, u_int, u_bl, u_str, u_non, u_tup, u_lst, u_fls, t_bl, t_non, t_int, t_tup, t_lst, t_mls, t_fls, bd_int, bk_fls, bk_flsb, bk_int, bk_bl, bk_non, bk_str, bk_tup, bk_lst, bk_box, back_rt, back_nx, back_ex, idx_int, ix_tup, ix_lst, ix_mls, ix_fls, ix_box, sl_tup, sl_lst, sl_mls, sl_fls, sl_scr, b_add, b_sub, c_lt, c_le, c_gt, c_ge, c_eq, c_ne, c_eqB, c_neB, c_isN, c_notN, i_int, i_intB, i_abs, i_max, i_min, l_lst, l_tup, l_mls, l_fls, li_lst, li_tup, li_fls, tu_lst, tu_tup, tu_fls, tu_mls, su_2, frzM, getM, isS, subM, isNil, isNon, Gb.start, Option.bind_some, Option.bind_none, Option.map_some, Option.map_none, id_eq, List.getElem?_cons_zero, List.getElem?_cons_succ, List.getElem?_nil, List.set_cons_zero, List.set_cons_succ, List.map_cons, List.map_nil, List.length_cons, List.length_nil, List.cons_append, List.nil_append, List.replicate_succ, List.replicate_zero, Nat.reduceSub, Nat.reduceAdd, Nat.zero_add, Nat.reduceLT, if_true, if_false, reduceIte, Bool.false_eq_true, Bool.not_true, Bool.not_false, Bool.not_not, decide_true, decide_false, decide_not, is0_non, is0_bl, is0_int, is0_str, is0_tup, is0_lst, is0_mls, is0_fls, is1_non, is1_bl, is1_int, is1_str, is1_tup, is1_lst, is1_mls, is1_fls, is2_non, is2_bl, is2_int, is2_str, is2_tup, is2_lst, is2_mls, is2_fls, is3_non, is3_bl, is3_int, is3_str, is3_tup, is3_lst, is3_mls, is3_fls, is4_non, is4_bl, is4_int, is4_str, is4_tup, is4_lst, is4_mls, is4_fls, is5_non, is5_bl, is5_int, is5_str, is5_tup, is5_lst, is5_mls, is5_fls, is6_non, is6_bl, is6_int, is6_str, is6_tup, is6_lst, is6_mls, is6_fls, is7_non, is7_bl, is7_int, is7_str, is7_tup, is7_lst, is7_mls, is7_fls, beq_self_eq_true, Bool.true_beq, Bool.false_beq, Bool.and_true, Bool.true_and, Bool.and_false, Bool.false_and, Bool.or_true, Bool.true_or, Bool.or_false, Bool.false_or, wipeE, encC, em, mxG]
theorem spots_ok (hS : Srt 0 L) {E : Nat} (hE : endP 0 L = (E : Int)) (hE2 : E ≤ 10000) {size : Nat} (h1 : 1 ≤ size) (h2 : size ≤ 1000) (hk : 2 ≤ K) : callN FT n K 132 [.tup (encP L), .int (size : Nat)] st = .ok (.int ((holeP 0 L).map (mxS (size : Nat))).sum) st := by
  obtain ⟨k, rfl⟩ : ∃ k, K = k + 2 := ⟨K - 2, by omega⟩
  have bL : ∀ c ∈ L, 0 ≤ c.1 ∧ 1 ≤ c.2 ∧ c.1 + c.2 ≤ (E : Int) := fun c hc => by have := Srt.mem hS c hc; omega
  have e1 := fun st => border_ok (FT := FT) (n := n) (K := k + 1) (st := st) (L := L) rfl (by omega)
  rw [hE] at e1
  have e2 := fun st => filled_ok (FT := FT) (n := n) (K := k + 1) (st := st) (L := L) (d := .tup (encP L)) (far := E) rfl (.inl rfl) (fun c hc => by have := bL c hc; omega) (by omega) (by omega)
  rw [callN, show FT 132 = some f132_law_spots from rfl]
  simp (disch := omega) only [f132_law_spots, evE, evA, evs, evs', evI, evsP, exS, bind_ok, bind_ex, bind_bad, so_ok, so_ex, so_bad, then_nx, then_rt, then_bk, then_ex, then_bad, lift_some, lift_none, soE_some', soE_none, noEx_ok, p_nm, p_tup, p_lst, pN_nil, pN_cons, p_frz, p_fls, p_int, p_bl, p_non, p_tupm, p_lstm, f_int, f_bl, f_str, f_non, f_tup, f_lst, f_fls, f_box, f_scr, u_int, u_bl, u_str, u_non, u_tup, u_lst, u_fls, t_bl, t_non, t_int, t_tup, t_lst, t_mls, t_fls, bd_int, bk_fls, bk_flsb, bk_int, bk_bl, bk_non, bk_str, bk_tup, bk_lst, bk_box, back_rt, back_nx, back_ex, idx_int, ix_tup, ix_lst, ix_mls, ix_fls, ix_box, sl_tup, sl_lst, sl_mls, sl_fls, sl_scr, b_add, b_sub, c_lt, c_le, c_gt, c_ge, c_eq, c_ne, c_eqB, c_neB, c_isN, c_notN, i_int, i_intB, i_abs, i_max, i_min, l_lst, l_tup, l_mls, l_fls, li_lst, li_tup, li_fls, tu_lst, tu_tup, tu_fls, tu_mls, su_2, frzM, getM, isS, subM, isNil, isNon, Gb.start, Option.bind_some, Option.bind_none, Option.map_some, Option.map_none, id_eq, List.getElem?_cons_zero, List.getElem?_cons_succ, List.getElem?_nil, List.set_cons_zero, List.set_cons_succ, List.map_cons, List.map_nil, List.length_cons, List.length_nil, List.cons_append, List.nil_append, List.replicate_succ, List.replicate_zero, Nat.reduceSub, Nat.reduceAdd, Nat.zero_add, Nat.reduceLT, if_true, if_false, reduceIte, Bool.false_eq_true, Bool.not_true, Bool.not_false, Bool.not_not, decide_true, decide_false, decide_not, is0_non, is0_bl, is0_int, is0_str, is0_tup, is0_lst, is0_mls, is0_fls, is1_non, is1_bl, is1_int, is1_str, is1_tup, is1_lst, is1_mls, is1_fls, is2_non, is2_bl, is2_int, is2_str, is2_tup, is2_lst, is2_mls, is2_fls, is3_non, is3_bl, is3_int, is3_str, is3_tup, is3_lst, is3_mls, is3_fls, is4_non, is4_bl, is4_int, is4_str, is4_tup, is4_lst, is4_mls, is4_fls, is5_non, is5_bl, is5_int, is5_str, is5_tup, is5_lst, is5_mls, is5_fls, is6_non, is6_bl, is6_int, is6_str, is6_tup, is6_lst, is6_mls, is6_fls, is7_non, is7_bl, is7_int, is7_str, is7_tup, is7_lst, is7_mls, is7_fls, beq_self_eq_true, Bool.true_beq, Bool.false_beq, Bool.and_true, Bool.true_and, Bool.and_false, Bool.false_and, Bool.or_true, Bool.true_or, Bool.or_false, Bool.false_or, wipeE, e1, e2, rngOk_t, rng_ft]
  rw [compL_filter (g := spG L (E : Nat) (size : Nat)) _ _ (fun d hd => ?_) (by rw [List.length_map, ft_len]; exact sz (by simp; omega)), List.nil_append, spG_map]
  · have hc := count_ok h1 hS
    rw [hE] at hc
    simp (disch := omega) only [evE, evA, evs, evs', evI, evsP, exS, bind_ok, bind_ex, bind_bad, so_ok, so_ex, so_bad, then_nx, then_rt, then_bk, then_ex, then_bad, lift_some, lift_none, soE_some', soE_none, noEx_ok, p_nm, p_tup, p_lst, pN_nil, pN_cons, p_frz, p_fls, p_int, p_bl, p_non, p_tupm, p_lstm, f_int, f_bl, f_str, f_non, f_tup, f_lst, f_fls, f_box, f_scr, u_int, u_bl, u_str, u_non, u_tup, u_lst, u_fls, t_bl, t_non, t_int, t_tup, t_lst, t_mls, t_fls, bd_int, bk_fls, bk_flsb, bk_int, bk_bl, bk_non, bk_str, bk_tup, bk_lst, bk_box, back_rt, back_nx, back_ex, idx_int, ix_tup, ix_lst, ix_mls, ix_fls, ix_box, sl_tup, sl_lst, sl_mls, sl_fls, sl_scr, b_add, b_sub, c_lt, c_le, c_gt, c_ge, c_eq, c_ne, c_eqB, c_neB, c_isN, c_notN, i_int, i_intB, i_abs, i_max, i_min, l_lst, l_tup, l_mls, l_fls, li_lst, li_tup, li_fls, tu_lst, tu_tup, tu_fls, tu_mls, su_2, frzM, getM, isS, subM, isNil, isNon, Gb.start, Option.bind_some, Option.bind_none, Option.map_some, Option.map_none, id_eq, List.getElem?_cons_zero, List.getElem?_cons_succ, List.getElem?_nil, List.set_cons_zero, List.set_cons_succ, List.map_cons, List.map_nil, List.length_cons, List.length_nil, List.cons_append, List.nil_append, List.replicate_succ, List.replicate_zero, Nat.reduceSub, Nat.reduceAdd, Nat.zero_add, Nat.reduceLT, if_true, if_false, reduceIte, Bool.false_eq_true, Bool.not_true, Bool.not_false, Bool.not_not, decide_true, decide_false, decide_not, is0_non, is0_bl, is0_int, is0_str, is0_tup, is0_lst, is0_mls, is0_fls, is1_non, is1_bl, is1_int, is1_str, is1_tup, is1_lst, is1_mls, is1_fls, is2_non, is2_bl, is2_int, is2_str, is2_tup, is2_lst, is2_mls, is2_fls, is3_non, is3_bl, is3_int, is3_str, is3_tup, is3_lst, is3_mls, is3_fls, is4_non, is4_bl, is4_int, is4_str, is4_tup, is4_lst, is4_mls, is4_fls, is5_non, is5_bl, is5_int, is5_str, is5_tup, is5_lst, is5_mls, is5_fls, is6_non, is6_bl, is6_int, is6_str, is6_tup, is6_lst, is6_mls, is6_fls, is7_non, is7_bl, is7_int, is7_str, is7_tup, is7_lst, is7_mls, is7_fls, beq_self_eq_true, Bool.true_beq, Bool.false_beq, Bool.and_true, Bool.true_and, Bool.and_false, Bool.false_and, Bool.or_true, Bool.true_or, Bool.or_false, Bool.false_or, wipeE, List.length_map]
    rw [hc]
  · obtain ⟨z, hz, rfl⟩ := List.mem_map.mp hd
    have hz := ft_iff.mp hz
    obtain ⟨i, rfl⟩ : ∃ i : Nat, z = (i : Int) := ⟨z.toNat, by omega⟩
    have hs : ((i : Int) + (size : Nat)) = ((i + size : Nat) : Int) := by omega
    by_cases hle : i + size ≤ E
    · have hle' : ((i + size : Nat) : Int) ≤ (E : Int) := by omega
      obtain ⟨f1, f2⟩ := any_flat (((fillL L E).drop i).take size)
      have hm : cmpD .nmem (.bl true) (.fls ((((fillL L E).map D.bl).drop i).take size)) = some (okB L (E : Nat) size (i : Nat)) := by
        rw [← List.map_drop, ← List.map_take]
        show (memD (.bl true) (.fls _)).map (!·) = _
        show (if (flatD (.bl true) && (List.map D.bl _).all flatD) = true then some ((List.map D.bl _).any fun y => eqF y (.bl true)) else none).map (!·) = _
        rw [f1, f2]
        show some (!List.any _ id) = _
        congr 1
        unfold okB frB
        rw [decide_eq_true (by omega), Bool.true_and, List.not_any_eq_all_not]
        have e : ((fillL L E).drop i).take size = (List.range size).map fun u => cov L ((i : Int) + (u : Nat)) := by
          unfold fillL
          refine List.ext_getElem (by simp; omega) fun u h1 h2 => ?_
          simp
        rw [e, List.all_map]
        rfl
      have c1 : cutL ((fillL L E).map D.bl) (some ((i : Nat) : Int)) (some ((i + size : Nat) : Int)) = (((fillL L E).map D.bl).drop i).take size := by
        rw [cut_in, Nat.add_sub_cancel_left]
      cases hq : okB L (E : Nat) size (i : Nat) with
      | true =>
        rw [hq] at hm
        simp (disch := omega) only [evE, evA, evs, evs', evI, evsP, exS, bind_ok, bind_ex, bind_bad, so_ok, so_ex, so_bad, then_nx, then_rt, then_bk, then_ex, then_bad, lift_some, lift_none, soE_some', soE_none, noEx_ok, p_nm, p_tup, p_lst, pN_nil, pN_cons, p_frz, p_fls, p_int, p_bl, p_non, p_tupm, p_lstm, f_int, f_bl, f_str, f_non, f_tup, f_lst, f_fls, f_box, f_scr, u_int, u_bl, u_str, u_non, u_tup, u_lst, u_fls, t_bl, t_non, t_int, t_tup, t_lst, t_mls, t_fls, bd_int, bk_fls, bk_flsb, bk_int, bk_bl, bk_non, bk_str, bk_tup, bk_lst, bk_box, back_rt, back_nx, back_ex, idx_int, ix_tup, ix_lst, ix_mls, ix_fls, ix_box, sl_tup, sl_lst, sl_mls, sl_fls, sl_scr, b_add, b_sub, c_lt, c_le, c_gt, c_ge, c_eq, c_ne, c_eqB, c_neB, c_isN, c_notN, i_int, i_intB, i_abs, i_max, i_min, l_lst, l_tup, l_mls, l_fls, li_lst, li_tup, li_fls, tu_lst, tu_tup, tu_fls, tu_mls, su_2, frzM, getM, isS, subM, isNil, isNon, Gb.start, Option.bind_some, Option.bind_none, Option.map_some, Option.map_none, id_eq, List.getElem?_cons_zero, List.getElem?_cons_succ, List.getElem?_nil, List.set_cons_zero, List.set_cons_succ, List.map_cons, List.map_nil, List.length_cons, List.length_nil, List.cons_append, List.nil_append, List.replicate_succ, List.replicate_zero, Nat.reduceSub, Nat.reduceAdd, Nat.zero_add, Nat.reduceLT, if_true, if_false, reduceIte, Bool.false_eq_true, Bool.not_true, Bool.not_false, Bool.not_not, decide_true, decide_false, decide_not, is0_non, is0_bl, is0_int, is0_str, is0_tup, is0_lst, is0_mls, is0_fls, is1_non, is1_bl, is1_int, is1_str, is1_tup, is1_lst, is1_mls, is1_fls, is2_non, is2_bl, is2_int, is2_str, is2_tup, is2_lst, is2_mls, is2_fls, is3_non, is3_bl, is3_int, is3_str, is3_tup, is3_lst, is3_mls, is3_fls, is4_non, is4_bl, is4_int, is4_str, is4_tup, is4_lst, is4_mls, is4_fls, is5_non, is5_bl, is5_int, is5_str, is5_tup, is5_lst, is5_mls, is5_fls, is6_non, is6_bl, is6_int, is6_str, is6_tup, is6_lst, is6_mls, is6_fls, is7_non, is7_bl, is7_int, is7_str, is7_tup, is7_lst, is7_mls, is7_fls, beq_self_eq_true, Bool.true_beq, Bool.false_beq, Bool.and_true, Bool.true_and, Bool.and_false, Bool.false_and, Bool.or_true, Bool.true_or, Bool.or_false, Bool.false_or, wipeE, hs, hle', c1, hm, spG, Int.toNat_natCast, hq]
      | false =>
        rw [hq] at hm
        simp (disch := omega) only [evE, evA, evs, evs', evI, evsP, exS, bind_ok, bind_ex, bind_bad, so_ok, so_ex, so_bad, then_nx, then_rt, then_bk, then_ex, then_bad, lift_some, lift_none, soE_some', soE_none, noEx_ok, p_nm, p_tup, p_lst, pN_nil, pN_cons, p_frz, p_fls, p_int, p_bl, p_non, p_tupm, p_lstm, f_int, f_bl, f_str, f_non, f_tup, f_lst, f_fls, f_box, f_scr, u_int, u_bl, u_str, u_non, u_tup, u_lst, u_fls, t_bl, t_non, t_int, t_tup, t_lst, t_mls, t_fls, bd_int, bk_fls, bk_flsb, bk_int, bk_bl, bk_non, bk_str, bk_tup, bk_lst, bk_box, back_rt, back_nx, back_ex, idx_int, ix_tup, ix_lst, ix_mls, ix_fls, ix_box, sl_tup, sl_lst, sl_mls, sl_fls, sl_scr, b_add, b_sub, c_lt, c_le, c_gt, c_ge, c_eq, c_ne, c_eqB, c_neB, c_isN, c_notN, i_int, i_intB, i_abs, i_max, i_min, l_lst, l_tup, l_mls, l_fls, li_lst, li_tup, li_fls, tu_lst, tu_tup, tu_fls, tu_mls, su_2, frzM, getM, isS, subM, isNil, isNon, Gb.start, Option.bind_some, Option.bind_none, Option.map_some, Option.map_none, id_eq, List.getElem?_cons_zero, List.getElem?_cons_succ, List.getElem?_nil, List.set_cons_zero, List.set_cons_succ, List.map_cons, List.map_nil, List.length_cons, List.length_nil, List.cons_append, List.nil_append, List.replicate_succ, List.replicate_zero, Nat.reduceSub, Nat.reduceAdd, Nat.zero_add, Nat.reduceLT, if_true, if_false, reduceIte, Bool.false_eq_true, Bool.not_true, Bool.not_false, Bool.not_not, decide_true, decide_false, decide_not, is0_non, is0_bl, is0_int, is0_str, is0_tup, is0_lst, is0_mls, is0_fls, is1_non, is1_bl, is1_int, is1_str, is1_tup, is1_lst, is1_mls, is1_fls, is2_non, is2_bl, is2_int, is2_str, is2_tup, is2_lst, is2_mls, is2_fls, is3_non, is3_bl, is3_int, is3_str, is3_tup, is3_lst, is3_mls, is3_fls, is4_non, is4_bl, is4_int, is4_str, is4_tup, is4_lst, is4_mls, is4_fls, is5_non, is5_bl, is5_int, is5_str, is5_tup, is5_lst, is5_mls, is5_fls, is6_non, is6_bl, is6_int, is6_str, is6_tup, is6_lst, is6_mls, is6_fls, is7_non, is7_bl, is7_int, is7_str, is7_tup, is7_lst, is7_mls, is7_fls, beq_self_eq_true, Bool.true_beq, Bool.false_beq, Bool.and_true, Bool.true_and, Bool.and_false, Bool.false_and, Bool.or_true, Bool.true_or, Bool.or_false, Bool.false_or, wipeE, hs, hle', c1, hm, spG, Int.toNat_natCast, hq]
    · have hle' : ¬ ((i + size : Nat) : Int) ≤ (E : Int) := by omega
      have hq : okB L (E : Nat) size (i : Nat) = false := by
        unfold okB
        rw [decide_eq_false (by omega)]; rfl
      simp (disch := omega) only [evE, evA, evs, evs', evI, evsP, exS, bind_ok, bind_ex, bind_bad, so_ok, so_ex, so_bad, then_nx, then_rt, then_bk, then_ex, then_bad, lift_some, lift_none, soE_some', soE_none, noEx_ok, p_nm, p_tup, p_lst, pN_nil, pN_cons, p_frz, p_fls, p_int, p_bl, p_non, p_tupm, p_lstm, f_int, f_bl, f_str, f_non, f_tup, f_lst, f_fls, f_box, f_scr, u_int, u_bl, u_str, u_non, u_tup, u_lst, u_fls, t_bl, t_non, t_int, t_tup, t_lst, t_mls, t_fls, bd_int, bk_fls, bk_flsb, bk_int, bk_bl, bk_non, bk_str, bk_tup, bk_lst, bk_box, back_rt, back_nx, back_ex, idx_int, ix_tup, ix_lst, ix_mls, ix_fls, ix_box, sl_tup, sl_lst, sl_mls, sl_fls, sl_scr, b_add, b_sub, c_lt, c_le, c_gt, c_ge, c_eq, c_ne, c_eqB, c_neB, c_isN, c_notN, i_int, i_intB, i_abs, i_max, i_min, l_lst, l_tup, l_mls, l_fls, li_lst, li_tup, li_fls, tu_lst, tu_tup, tu_fls, tu_mls, su_2, frzM, getM, isS, subM, isNil, isNon, Gb.start, Option.bind_some, Option.bind_none, Option.map_some, Option.map_none, id_eq, List.getElem?_cons_zero, List.getElem?_cons_succ, List.getElem?_nil, List.set_cons_zero, List.set_cons_succ, List.map_cons, List.map_nil, List.length_cons, List.length_nil, List.cons_append, List.nil_append, List.replicate_succ, List.replicate_zero, Nat.reduceSub, Nat.reduceAdd, Nat.zero_add, Nat.reduceLT, if_true, if_false, reduceIte, Bool.false_eq_true, Bool.not_true, Bool.not_false, Bool.not_not, decide_true, decide_false, decide_not, is0_non, is0_bl, is0_int, is0_str, is0_tup, is0_lst, is0_mls, is0_fls, is1_non, is1_bl, is1_int, is1_str, is1_tup, is1_lst, is1_mls, is1_fls, is2_non, is2_bl, is2_int, is2_str, is2_tup, is2_lst, is2_mls, is2_fls, is3_non, is3_bl, is3_int, is3_str, is3_tup, is3_lst, is3_mls, is3_fls, is4_non, is4_bl, is4_int, is4_str, is4_tup, is4_lst, is4_mls, is4_fls, is5_non, is5_bl, is5_int, is5_str, is5_tup, is5_lst, is5_mls, is5_fls, is6_non, is6_bl, is6_int, is6_str, is6_tup, is6_lst, is6_mls, is6_fls, is7_non, is7_bl, is7_int, is7_str, is7_tup, is7_lst, is7_mls, is7_fls, beq_self_eq_true, Bool.true_beq, Bool.false_beq, Bool.and_true, Bool.true_and, Bool.and_false, Bool.false_and, Bool.or_true, Bool.true_or, Bool.or_false, Bool.false_or, wipeE, hs, hle', spG, Int.toNat_natCast, hq]
theorem strS_len (F : Prs) (z : Int) (bb : Bool) : (strS F z bb).length ≤ F.length + 1 := by
  cases bb with
  | false => exact Nat.le_succ _
  | true =>
    rcases List.eq_nil_or_concat F with rfl | ⟨G, l, rfl⟩
    · exact Nat.le_refl _
    · rw [List.concat_eq_append, strS_snoc]
      split <;> simp
def nofL (L : Prs) (E : Nat) : List Bool := (List.range E).map fun k => !cov L (k : Nat)
theorem nof_str {L : Prs} {E : Nat} (hS : Srt 0 L) (hE : endP 0 L = (E : Int)) : strL 0 (nofL L E) [] = holeP 0 L := by
  obtain ⟨h1, h2⟩ := str_inv (B := nofL L E) (i := 0) can_nil (fun x hx => by cases hx)
  refine can_uniq h1 (holeP_can hS).1 fun k => ?_
  rw [holeP_cov hS, hE]
  refine Bool.eq_iff_iff.mpr ((h2 k).trans ⟨fun z => ?_, fun z => ?_⟩)
  · rcases z with z | ⟨j, z1, z2⟩
    · cases z
    · unfold nofL at z1
      rw [List.getElem?_map] at z1
      obtain ⟨u, z3, z4⟩ := Option.map_eq_some_iff.mp z1
      obtain ⟨z5, z6⟩ := List.getElem?_eq_some_iff.mp z3
      rw [List.getElem_range] at z6
      rw [List.length_range] at z5
      rw [z2, Nat.zero_add, z6]
      rw [decide_eq_true (by omega), Bool.true_and]
      exact z4
  · rw [Bool.and_eq_true, decide_eq_true_eq] at z
    obtain ⟨⟨z1, z2⟩, z3⟩ := z
    refine .inr ⟨k.toNat, ?_, by omega⟩
    unfold nofL
    rw [List.getElem?_map, List.getElem?_range (by omega), Option.map_some, show ((k.toNat : Nat) : Int) = k by omega, z3]
theorem lholes_ok (hS : Srt 0 L) {E : Nat} (hE : endP 0 L = (E : Int)) (hE2 : E ≤ 5000) (hk : 2 ≤ K) : callN FT n K 131 [.tup (encP L)] st = .ok (.tup (encP (holeP 0 L))) st := by
  obtain ⟨k, rfl⟩ : ∃ k, K = k + 2 := ⟨K - 2, by omega⟩
  have bL : ∀ c ∈ L, 0 ≤ c.1 ∧ 1 ≤ c.2 ∧ c.1 + c.2 ≤ (E : Int) := fun c hc => by have := Srt.mem hS c hc; omega
  have e1 := fun st => border_ok (FT := FT) (n := n) (K := k + 1) (st := st) (L := L) rfl (by omega)
  rw [hE] at e1
  have e2 := fun st => filled_ok (FT := FT) (n := n) (K := k + 1) (st := st) (L := L) (d := .tup (encP L)) (far := E) rfl (.inl rfl) (fun c hc => by have := bL c hc; omega) (by omega) (by omega)
  rw [callN, show FT 131 = some f131_law_holes from rfl]
  simp (disch := omega) only [f131_law_holes, evE, evA, evs, evs', evI, evsP, exS, bind_ok, bind_ex, bind_bad, so_ok, so_ex, so_bad, then_nx, then_rt, then_bk, then_ex, then_bad, lift_some, lift_none, soE_some', soE_none, noEx_ok, p_nm, p_tup, p_lst, pN_nil, pN_cons, p_frz, p_fls, p_int, p_bl, p_non, p_tupm, p_lstm, f_int, f_bl, f_str, f_non, f_tup, f_lst, f_fls, f_box, f_scr, u_int, u_bl, u_str, u_non, u_tup, u_lst, u_fls, t_bl, t_non, t_int, t_tup, t_lst, t_mls, t_fls, bd_int, bk_fls, bk_flsb, bk_int, bk_bl, bk_non, bk_str, bk_tup, bk_lst, bk_box, back_rt, back_nx, back_ex, idx_int, ix_tup, ix_lst, ix_mls, ix_fls, ix_box, sl_tup, sl_lst, sl_mls, sl_fls, sl_scr, b_add, b_sub, c_lt, c_le, c_gt, c_ge, c_eq, c_ne, c_eqB, c_neB, c_isN, c_notN, i_int, i_intB, i_abs, i_max, i_min, l_lst, l_tup, l_mls, l_fls, li_lst, li_tup, li_fls, tu_lst, tu_tup, tu_fls, tu_mls, su_2, frzM, getM, isS, subM, isNil, isNon, Gb.start, Option.bind_some, Option.bind_none, Option.map_some, Option.map_none, id_eq, List.getElem?_cons_zero, List.getElem?_cons_succ, List.getElem?_nil, List.set_cons_zero, List.set_cons_succ, List.map_cons, List.map_nil, List.length_cons, List.length_nil, List.cons_append, List.nil_append, List.replicate_succ, List.replicate_zero, Nat.reduceSub, Nat.reduceAdd, Nat.zero_add, Nat.reduceLT, if_true, if_false, reduceIte, Bool.false_eq_true, Bool.not_true, Bool.not_false, Bool.not_not, decide_true, decide_false, decide_not, is0_non, is0_bl, is0_int, is0_str, is0_tup, is0_lst, is0_mls, is0_fls, is1_non, is1_bl, is1_int, is1_str, is1_tup, is1_lst, is1_mls, is1_fls, is2_non, is2_bl, is2_int, is2_str, is2_tup, is2_lst, is2_mls, is2_fls, is3_non, is3_bl, is3_int, is3_str, is3_tup, is3_lst, is3_mls, is3_fls, is4_non, is4_bl, is4_int, is4_str, is4_tup, is4_lst, is4_mls, is4_fls, is5_non, is5_bl, is5_int, is5_str, is5_tup, is5_lst, is5_mls, is5_fls, is6_non, is6_bl, is6_int, is6_str, is6_tup, is6_lst, is6_mls, is6_fls, is7_non, is7_bl, is7_int, is7_str, is7_tup, is7_lst, is7_mls, is7_fls, beq_self_eq_true, Bool.true_beq, Bool.false_beq, Bool.and_true, Bool.true_and, Bool.and_false, Bool.false_and, Bool.or_true, Bool.true_or, Bool.or_false, Bool.false_or, wipeE, e1, e2, if_sz, rngOk_t]
  generalize hr : forL _ _ _ _ = w
  let P : List D → Env → Store → Prop := fun ds ρ st' => ∃ (i : Nat) (F : Prs) (a2 : Option D), i + ds.length = E ∧ ds = (List.range' i ds.length).map (fun j => .int (j : Nat)) ∧ strL i ((nofL L E).drop i) F = holeP 0 L ∧ F.length ≤ i ∧ ρ = [some (.tup (encP L)), some (.int (E : Nat)), a2, some (.lst ((fillL L E).map .bl)), some (.mls (encP F))] ∧ st' = st
  obtain ⟨ρ', st', rfl, i, F, a2, hi, _, hF, _, rfl, rfl⟩ : ∃ ρ' st', w = .nx ρ' st' ∧ P [] ρ' st' := by
    rw [← hr]
    refine forL_run P ?_ _ _ _ ?_
    · rintro x ds ρ st' ⟨i, F, a2, hi, hds, hF, hl, rfl, rfl⟩
      rw [List.length_cons] at hi hds
      rw [List.range'_succ, List.map_cons] at hds
      obtain ⟨rfl, hds2⟩ := List.cons.inj hds
      have hlen : i < (nofL L E).length := by unfold nofL; simp; omega
      have hget : (nofL L E)[i] = !cov L (i : Nat) := by simp only [nofL, List.getElem_map, List.getElem_range]
      rw [List.drop_eq_getElem_cons hlen, hget] at hF
      have hfa := fill_at (L := L) (far := E) (i := (i : Nat)) (by omega) (by omega)
      have key : ∀ X : Prs, X = strS F (i : Nat) (!cov L (i : Nat)) → ∀ st2, st2 = st' → ∃ ρ' st3, SO.nx [some (D.tup (encP L)), some (.int (E : Nat)), some (.int (i : Nat)), some (.lst ((fillL L E).map .bl)), some (.mls (encP X))] st2 = .nx ρ' st3 ∧ P ds ρ' st3 := fun X hX st2 hs =>
        ⟨_, _, rfl, i + 1, X, _, by omega, hds2, by rw [hX]; exact hF, by rw [hX]; exact Nat.le_trans (strS_len _ _ _) (by omega), rfl, hs⟩
      cases hc : cov L (i : Nat) with
      | true =>
        rw [hc] at hfa key
        simp (disch := first | omega | (simp only [List.length_append, List.length_map, List.length_take, List.length_drop, List.length_cons, List.length_nil, List.length_range, List.length_replicate, List.length_set, List.length_zipWith, List.length_reverse]; omega)) only [evE, evA, evs, evs', evI, evsP, exS, bind_ok, bind_ex, bind_bad, so_ok, so_ex, so_bad, then_nx, then_rt, then_bk, then_ex, then_bad, lift_some, lift_none, soE_some', soE_none, noEx_ok, p_nm, p_tup, p_lst, pN_nil, pN_cons, p_frz, p_fls, p_int, p_bl, p_non, p_tupm, p_lstm, f_int, f_bl, f_str, f_non, f_tup, f_lst, f_fls, f_box, f_scr, u_int, u_bl, u_str, u_non, u_tup, u_lst, u_fls, t_bl, t_non, t_int, t_tup, t_lst, t_mls, t_fls, bd_int, bk_fls, bk_flsb, bk_int, bk_bl, bk_non, bk_str, bk_tup, bk_lst, bk_box, back_rt, back_nx, back_ex, idx_int, ix_tup, ix_lst, ix_mls, ix_fls, ix_box, sl_tup, sl_lst, sl_mls, sl_fls, sl_scr, b_add, b_sub, c_lt, c_le, c_gt, c_ge, c_eq, c_ne, c_eqB, c_neB, c_isN, c_notN, i_int, i_intB, i_abs, i_max, i_min, l_lst, l_tup, l_mls, l_fls, li_lst, li_tup, li_fls, tu_lst, tu_tup, tu_fls, tu_mls, su_2, frzM, getM, isS, subM, isNil, isNon, Gb.start, Option.bind_some, Option.bind_none, Option.map_some, Option.map_none, id_eq, List.getElem?_cons_zero, List.getElem?_cons_succ, List.getElem?_nil, List.set_cons_zero, List.set_cons_succ, List.map_cons, List.map_nil, List.length_cons, List.length_nil, List.cons_append, List.nil_append, List.replicate_succ, List.replicate_zero, Nat.reduceSub, Nat.reduceAdd, Nat.zero_add, Nat.reduceLT, if_true, if_false, reduceIte, Bool.false_eq_true, Bool.not_true, Bool.not_false, Bool.not_not, decide_true, decide_false, decide_not, is0_non, is0_bl, is0_int, is0_str, is0_tup, is0_lst, is0_mls, is0_fls, is1_non, is1_bl, is1_int, is1_str, is1_tup, is1_lst, is1_mls, is1_fls, is2_non, is2_bl, is2_int, is2_str, is2_tup, is2_lst, is2_mls, is2_fls, is3_non, is3_bl, is3_int, is3_str, is3_tup, is3_lst, is3_mls, is3_fls, is4_non, is4_bl, is4_int, is4_str, is4_tup, is4_lst, is4_mls, is4_fls, is5_non, is5_bl, is5_int, is5_str, is5_tup, is5_lst, is5_mls, is5_fls, is6_non, is6_bl, is6_int, is6_str, is6_tup, is6_lst, is6_mls, is6_fls, is7_non, is7_bl, is7_int, is7_str, is7_tup, is7_lst, is7_mls, is7_fls, beq_self_eq_true, Bool.true_beq, Bool.false_beq, Bool.and_true, Bool.true_and, Bool.and_false, Bool.false_and, Bool.or_true, Bool.true_or, Bool.or_false, Bool.false_or, wipeE, hfa]
        exact key F rfl _ rfl
      | false =>
        rw [hc] at hfa key
        rcases List.eq_nil_or_concat F with rfl | ⟨G, l, rfl⟩
        · have e1 : cmpD .ne (.mls []) (.fls []) = some false := c_neL (k := 0) (x := .mls []) (xs := []) rfl rfl (by decide)
          simp (disch := first | omega | (simp only [List.length_append, List.length_map, List.length_take, List.length_drop, List.length_cons, List.length_nil, List.length_range, List.length_replicate, List.length_set, List.length_zipWith, List.length_reverse]; omega)) only [evE, evA, evs, evs', evI, evsP, exS, bind_ok, bind_ex, bind_bad, so_ok, so_ex, so_bad, then_nx, then_rt, then_bk, then_ex, then_bad, lift_some, lift_none, soE_some', soE_none, noEx_ok, p_nm, p_tup, p_lst, pN_nil, pN_cons, p_frz, p_fls, p_int, p_bl, p_non, p_tupm, p_lstm, f_int, f_bl, f_str, f_non, f_tup, f_lst, f_fls, f_box, f_scr, u_int, u_bl, u_str, u_non, u_tup, u_lst, u_fls, t_bl, t_non, t_int, t_tup, t_lst, t_mls, t_fls, bd_int, bk_fls, bk_flsb, bk_int, bk_bl, bk_non, bk_str, bk_tup, bk_lst, bk_box, back_rt, back_nx, back_ex, idx_int, ix_tup, ix_lst, ix_mls, ix_fls, ix_box, sl_tup, sl_lst, sl_mls, sl_fls, sl_scr, b_add, b_sub, c_lt, c_le, c_gt, c_ge, c_eq, c_ne, c_eqB, c_neB, c_isN, c_notN, i_int, i_intB, i_abs, i_max, i_min, l_lst, l_tup, l_mls, l_fls, li_lst, li_tup, li_fls, tu_lst, tu_tup, tu_fls, tu_mls, su_2, frzM, getM, isS, subM, isNil, isNon, Gb.start, Option.bind_some, Option.bind_none, Option.map_some, Option.map_none, id_eq, List.getElem?_cons_zero, List.getElem?_cons_succ, List.getElem?_nil, List.set_cons_zero, List.set_cons_succ, List.map_cons, List.map_nil, List.length_cons, List.length_nil, List.cons_append, List.nil_append, List.replicate_succ, List.replicate_zero, Nat.reduceSub, Nat.reduceAdd, Nat.zero_add, Nat.reduceLT, if_true, if_false, reduceIte, Bool.false_eq_true, Bool.not_true, Bool.not_false, Bool.not_not, decide_true, decide_false, decide_not, is0_non, is0_bl, is0_int, is0_str, is0_tup, is0_lst, is0_mls, is0_fls, is1_non, is1_bl, is1_int, is1_str, is1_tup, is1_lst, is1_mls, is1_fls, is2_non, is2_bl, is2_int, is2_str, is2_tup, is2_lst, is2_mls, is2_fls, is3_non, is3_bl, is3_int, is3_str, is3_tup, is3_lst, is3_mls, is3_fls, is4_non, is4_bl, is4_int, is4_str, is4_tup, is4_lst, is4_mls, is4_fls, is5_non, is5_bl, is5_int, is5_str, is5_tup, is5_lst, is5_mls, is5_fls, is6_non, is6_bl, is6_int, is6_str, is6_tup, is6_lst, is6_mls, is6_fls, is7_non, is7_bl, is7_int, is7_str, is7_tup, is7_lst, is7_mls, is7_fls, beq_self_eq_true, Bool.true_beq, Bool.false_beq, Bool.and_true, Bool.true_and, Bool.and_false, Bool.false_and, Bool.or_true, Bool.true_or, Bool.or_false, Bool.false_or, wipeE, hfa, show encP [] = [] from rfl, e1, if_sz, if_szl]
          exact key [(((i : Nat) : Int), (1 : Int))] rfl _ rfl
        · rw [List.concat_eq_append] at hl key ⊢
          rw [List.length_append, List.length_singleton] at hl
          have hG := encP_len G
          have e1 : cmpD .ne (.mls (encP G ++ [D.tup [.int l.1, .int l.2]])) (.fls []) = some true := by
            have := c_neL (k := 1) (x := .mls (encP (G ++ [l]))) rfl (encP_pl _) (by decide)
            rw [encP_emp] at this
            rw [← sndLast, this]
            simp
          rw [show (!false) = true from rfl, strS_snoc] at key
          rw [sndLast]
          by_cases q : l.1 + l.2 = (i : Nat)
          · simp (disch := first | omega | (simp only [List.length_append, List.length_map, List.length_take, List.length_drop, List.length_cons, List.length_nil, List.length_range, List.length_replicate, List.length_set, List.length_zipWith, List.length_reverse]; omega)) only [evE, evA, evs, evs', evI, evsP, exS, bind_ok, bind_ex, bind_bad, so_ok, so_ex, so_bad, then_nx, then_rt, then_bk, then_ex, then_bad, lift_some, lift_none, soE_some', soE_none, noEx_ok, p_nm, p_tup, p_lst, pN_nil, pN_cons, p_frz, p_fls, p_int, p_bl, p_non, p_tupm, p_lstm, f_int, f_bl, f_str, f_non, f_tup, f_lst, f_fls, f_box, f_scr, u_int, u_bl, u_str, u_non, u_tup, u_lst, u_fls, t_bl, t_non, t_int, t_tup, t_lst, t_mls, t_fls, bd_int, bk_fls, bk_flsb, bk_int, bk_bl, bk_non, bk_str, bk_tup, bk_lst, bk_box, back_rt, back_nx, back_ex, idx_int, ix_tup, ix_lst, ix_mls, ix_fls, ix_box, sl_tup, sl_lst, sl_mls, sl_fls, sl_scr, b_add, b_sub, c_lt, c_le, c_gt, c_ge, c_eq, c_ne, c_eqB, c_neB, c_isN, c_notN, i_int, i_intB, i_abs, i_max, i_min, l_lst, l_tup, l_mls, l_fls, li_lst, li_tup, li_fls, tu_lst, tu_tup, tu_fls, tu_mls, su_2, frzM, getM, isS, subM, isNil, isNon, Gb.start, Option.bind_some, Option.bind_none, Option.map_some, Option.map_none, id_eq, List.getElem?_cons_zero, List.getElem?_cons_succ, List.getElem?_nil, List.set_cons_zero, List.set_cons_succ, List.map_cons, List.map_nil, List.length_cons, List.length_nil, List.cons_append, List.nil_append, List.replicate_succ, List.replicate_zero, Nat.reduceSub, Nat.reduceAdd, Nat.zero_add, Nat.reduceLT, if_true, if_false, reduceIte, Bool.false_eq_true, Bool.not_true, Bool.not_false, Bool.not_not, decide_true, decide_false, decide_not, is0_non, is0_bl, is0_int, is0_str, is0_tup, is0_lst, is0_mls, is0_fls, is1_non, is1_bl, is1_int, is1_str, is1_tup, is1_lst, is1_mls, is1_fls, is2_non, is2_bl, is2_int, is2_str, is2_tup, is2_lst, is2_mls, is2_fls, is3_non, is3_bl, is3_int, is3_str, is3_tup, is3_lst, is3_mls, is3_fls, is4_non, is4_bl, is4_int, is4_str, is4_tup, is4_lst, is4_mls, is4_fls, is5_non, is5_bl, is5_int, is5_str, is5_tup, is5_lst, is5_mls, is5_fls, is6_non, is6_bl, is6_int, is6_str, is6_tup, is6_lst, is6_mls, is6_fls, is7_non, is7_bl, is7_int, is7_str, is7_tup, is7_lst, is7_mls, is7_fls, beq_self_eq_true, Bool.true_beq, Bool.false_beq, Bool.and_true, Bool.true_and, Bool.and_false, Bool.false_and, Bool.or_true, Bool.true_or, Bool.or_false, Bool.false_or, wipeE, hfa, e1, if_sz, at_last, q, at2_0', at2_1', ix_last, List.length_append, set_last]
            have := key (G ++ [(l.1, l.2 + 1)]) (by rw [if_pos q]) _ rfl
            rw [sndLast] at this
            exact this
          · simp (disch := first | omega | (simp only [List.length_append, List.length_map, List.length_take, List.length_drop, List.length_cons, List.length_nil, List.length_range, List.length_replicate, List.length_set, List.length_zipWith, List.length_reverse]; omega)) only [evE, evA, evs, evs', evI, evsP, exS, bind_ok, bind_ex, bind_bad, so_ok, so_ex, so_bad, then_nx, then_rt, then_bk, then_ex, then_bad, lift_some, lift_none, soE_some', soE_none, noEx_ok, p_nm, p_tup, p_lst, pN_nil, pN_cons, p_frz, p_fls, p_int, p_bl, p_non, p_tupm, p_lstm, f_int, f_bl, f_str, f_non, f_tup, f_lst, f_fls, f_box, f_scr, u_int, u_bl, u_str, u_non, u_tup, u_lst, u_fls, t_bl, t_non, t_int, t_tup, t_lst, t_mls, t_fls, bd_int, bk_fls, bk_flsb, bk_int, bk_bl, bk_non, bk_str, bk_tup, bk_lst, bk_box, back_rt, back_nx, back_ex, idx_int, ix_tup, ix_lst, ix_mls, ix_fls, ix_box, sl_tup, sl_lst, sl_mls, sl_fls, sl_scr, b_add, b_sub, c_lt, c_le, c_gt, c_ge, c_eq, c_ne, c_eqB, c_neB, c_isN, c_notN, i_int, i_intB, i_abs, i_max, i_min, l_lst, l_tup, l_mls, l_fls, li_lst, li_tup, li_fls, tu_lst, tu_tup, tu_fls, tu_mls, su_2, frzM, getM, isS, subM, isNil, isNon, Gb.start, Option.bind_some, Option.bind_none, Option.map_some, Option.map_none, id_eq, List.getElem?_cons_zero, List.getElem?_cons_succ, List.getElem?_nil, List.set_cons_zero, List.set_cons_succ, List.map_cons, List.map_nil, List.length_cons, List.length_nil, List.cons_append, List.nil_append, List.replicate_succ, List.replicate_zero, Nat.reduceSub, Nat.reduceAdd, Nat.zero_add, Nat.reduceLT, if_true, if_false, reduceIte, Bool.false_eq_true, Bool.not_true, Bool.not_false, Bool.not_not, decide_true, decide_false, decide_not, is0_non, is0_bl, is0_int, is0_str, is0_tup, is0_lst, is0_mls, is0_fls, is1_non, is1_bl, is1_int, is1_str, is1_tup, is1_lst, is1_mls, is1_fls, is2_non, is2_bl, is2_int, is2_str, is2_tup, is2_lst, is2_mls, is2_fls, is3_non, is3_bl, is3_int, is3_str, is3_tup, is3_lst, is3_mls, is3_fls, is4_non, is4_bl, is4_int, is4_str, is4_tup, is4_lst, is4_mls, is4_fls, is5_non, is5_bl, is5_int, is5_str, is5_tup, is5_lst, is5_mls, is5_fls, is6_non, is6_bl, is6_int, is6_str, is6_tup, is6_lst, is6_mls, is6_fls, is7_non, is7_bl, is7_int, is7_str, is7_tup, is7_lst, is7_mls, is7_fls, beq_self_eq_true, Bool.true_beq, Bool.false_beq, Bool.and_true, Bool.true_and, Bool.and_false, Bool.false_and, Bool.or_true, Bool.true_or, Bool.or_false, Bool.false_or, wipeE, hfa, e1, if_sz, if_szl, at_last, q, encP_len]
            have := key (G ++ [l] ++ [(((i : Nat) : Int), (1 : Int))]) (by rw [if_neg q]) _ rfl
            rw [sndLast, sndLast] at this
            exact this
    · refine ⟨0, [], none, by rw [rng0_len]; omega, ?_, by rw [List.drop_zero]; exact nof_str hS hE, Nat.le_refl _, rfl, rfl⟩
      unfold rng
      rw [List.length_map, List.length_range, Int.sub_zero, Int.toNat_natCast, List.range_eq_range']
      refine List.map_congr_left fun i _ => ?_
      show D.int (0 + (i : Int)) = _
      rw [Int.zero_add]
  have hi : i = E := by simpa using hi
  subst hi
  rw [List.drop_eq_nil_of_le (by unfold nofL; simp)] at hF
  have hF : F = holeP 0 L := hF
  simp (disch := omega) only [evE, evA, evs, evs', evI, evsP, exS, bind_ok, bind_ex, bind_bad, so_ok, so_ex, so_bad, then_nx, then_rt, then_bk, then_ex, then_bad, lift_some, lift_none, soE_some', soE_none, noEx_ok, p_nm, p_tup, p_lst, pN_nil, pN_cons, p_frz, p_fls, p_int, p_bl, p_non, p_tupm, p_lstm, f_int, f_bl, f_str, f_non, f_tup, f_lst, f_fls, f_box, f_scr, u_int, u_bl, u_str, u_non, u_tup, u_lst, u_fls, t_bl, t_non, t_int, t_tup, t_lst, t_mls, t_fls, bd_int, bk_fls, bk_flsb, bk_int, bk_bl, bk_non, bk_str, bk_tup, bk_lst, bk_box, back_rt, back_nx, back_ex, idx_int, ix_tup, ix_lst, ix_mls, ix_fls, ix_box, sl_tup, sl_lst, sl_mls, sl_fls, sl_scr, b_add, b_sub, c_lt, c_le, c_gt, c_ge, c_eq, c_ne, c_eqB, c_neB, c_isN, c_notN, i_int, i_intB, i_abs, i_max, i_min, l_lst, l_tup, l_mls, l_fls, li_lst, li_tup, li_fls, tu_lst, tu_tup, tu_fls, tu_mls, su_2, frzM, getM, isS, subM, isNil, isNon, Gb.start, Option.bind_some, Option.bind_none, Option.map_some, Option.map_none, id_eq, List.getElem?_cons_zero, List.getElem?_cons_succ, List.getElem?_nil, List.set_cons_zero, List.set_cons_succ, List.map_cons, List.map_nil, List.length_cons, List.length_nil, List.cons_append, List.nil_append, List.replicate_succ, List.replicate_zero, Nat.reduceSub, Nat.reduceAdd, Nat.zero_add, Nat.reduceLT, if_true, if_false, reduceIte, Bool.false_eq_true, Bool.not_true, Bool.not_false, Bool.not_not, decide_true, decide_false, decide_not, is0_non, is0_bl, is0_int, is0_str, is0_tup, is0_lst, is0_mls, is0_fls, is1_non, is1_bl, is1_int, is1_str, is1_tup, is1_lst, is1_mls, is1_fls, is2_non, is2_bl, is2_int, is2_str, is2_tup, is2_lst, is2_mls, is2_fls, is3_non, is3_bl, is3_int, is3_str, is3_tup, is3_lst, is3_mls, is3_fls, is4_non, is4_bl, is4_int, is4_str, is4_tup, is4_lst, is4_mls, is4_fls, is5_non, is5_bl, is5_int, is5_str, is5_tup, is5_lst, is5_mls, is5_fls, is6_non, is6_bl, is6_int, is6_str, is6_tup, is6_lst, is6_mls, is6_fls, is7_non, is7_bl, is7_int, is7_str, is7_tup, is7_lst, is7_mls, is7_fls, beq_self_eq_true, Bool.true_beq, Bool.false_beq, Bool.and_true, Bool.true_and, Bool.and_false, Bool.false_and, Bool.or_true, Bool.true_or, Bool.or_false, Bool.false_or, wipeE, hF]
theorem num_ok {K : Nat} {z : Int} (hk : 1 ≤ K) : callN FT n K 21 [.int z] st = .ok (.bl true) st := by
  obtain ⟨k, rfl⟩ : ∃ k, K = k + 1 := ⟨K - 1, by omega⟩
  rw [callN, show FT 21 = some f21_is_number from rfl]
  simp (disch := omega) only [f21_is_number, evE, evA, evs, evs', evI, evsP, exS, bind_ok, bind_ex, bind_bad, so_ok, so_ex, so_bad, then_nx, then_rt, then_bk, then_ex, then_bad, lift_some, lift_none, soE_some', soE_none, noEx_ok, p_nm, p_tup, p_lst, pN_nil, pN_cons, p_frz, p_fls, p_int, p_bl, p_non, p_tupm, p_lstm, f_int, f_bl, f_str, f_non, f_tup, f_lst, f_fls, f_box, f_scr, u_int, u_bl, u_str, u_non, u_tup, u_lst, u_fls, t_bl, t_non, t_int, t_tup, t_lst, t_mls, t_fls, bd_int, bk_fls, bk_flsb, bk_int, bk_bl, bk_non, bk_str, bk_tup, bk_lst, bk_box, back_rt, back_nx, back_ex, idx_int, ix_tup, ix_lst, ix_mls, ix_fls, ix_box, sl_tup, sl_lst, sl_mls, sl_fls, sl_scr, b_add, b_sub, c_lt, c_le, c_gt, c_ge, c_eq, c_ne, c_eqB, c_neB, c_isN, c_notN, i_int, i_intB, i_abs, i_max, i_min, l_lst, l_tup, l_mls, l_fls, li_lst, li_tup, li_fls, tu_lst, tu_tup, tu_fls, tu_mls, su_2, frzM, getM, isS, subM, isNil, isNon, Gb.start, Option.bind_some, Option.bind_none, Option.map_some, Option.map_none, id_eq, List.getElem?_cons_zero, List.getElem?_cons_succ, List.getElem?_nil, List.set_cons_zero, List.set_cons_succ, List.map_cons, List.map_nil, List.length_cons, List.length_nil, List.cons_append, List.nil_append, List.replicate_succ, List.replicate_zero, Nat.reduceSub, Nat.reduceAdd, Nat.zero_add, Nat.reduceLT, if_true, if_false, reduceIte, Bool.false_eq_true, Bool.not_true, Bool.not_false, Bool.not_not, decide_true, decide_false, decide_not, is0_non, is0_bl, is0_int, is0_str, is0_tup, is0_lst, is0_mls, is0_fls, is1_non, is1_bl, is1_int, is1_str, is1_tup, is1_lst, is1_mls, is1_fls, is2_non, is2_bl, is2_int, is2_str, is2_tup, is2_lst, is2_mls, is2_fls, is3_non, is3_bl, is3_int, is3_str, is3_tup, is3_lst, is3_mls, is3_fls, is4_non, is4_bl, is4_int, is4_str, is4_tup, is4_lst, is4_mls, is4_fls, is5_non, is5_bl, is5_int, is5_str, is5_tup, is5_lst, is5_mls, is5_fls, is6_non, is6_bl, is6_int, is6_str, is6_tup, is6_lst, is6_mls, is6_fls, is7_non, is7_bl, is7_int, is7_str, is7_tup, is7_lst, is7_mls, is7_fls, beq_self_eq_true, Bool.true_beq, Bool.false_beq, Bool.and_true, Bool.true_and, Bool.and_false, Bool.false_and, Bool.or_true, Bool.true_or, Bool.or_false, Bool.false_or, wipeE]
theorem is_run {f : D → Env → Store → SO} {d : D} {st : Store} (E : Int → Option D → Option D → Env)
    (hf : ∀ (c : Int × Int) (h : Int) (u v : Option D), ∃ u' v' : Option D, f (encC c) (E h u v) st = if c.1 < h ∨ c.2 < 1 then .rt (.bl false) st else .nx (E (c.1 + c.2) u' v') st) :
    ∀ (M : Prs) (h : Int) (u v : Option D), ∃ (h' : Int) (u' v' : Option D), forL f (encP M) (E h u v) st = if isP h M then .nx (E h' u' v') st else .rt (.bl false) st
  | [], h, u, v => ⟨h, u, v, rfl⟩
  | c :: M, h, u, v => by
    obtain ⟨u1, v1, e1⟩ := hf c h u v
    show ∃ h' u' v', forL f (encC c :: encP M) _ st = _
    unfold isP
    by_cases q : c.1 < h ∨ c.2 < 1
    · rw [if_pos q] at e1
      refine ⟨h, u, v, ?_⟩
      rw [forL_c, e1, if_pos q]; rfl
    · rw [if_neg q] at e1
      obtain ⟨h', u', v', e2⟩ := is_run (d := d) E hf M (c.1 + c.2) u1 v1
      refine ⟨h', u', v', ?_⟩
      rw [forL_c, e1, loop_nx, e2, if_neg q]
/-- a thing that is asked: what is due -/
def IsD (d : D) (b : Bool) : Prop := (∃ M : Prs, d = .tup (encP M) ∧ b = isP 0 M) ∨ (∃ xs, d = .lst xs ∧ b = false) ∨ (∃ M : Prs, d = .tup (encQ M) ∧ b = M.isEmpty)
theorem IsD.frz {b : Bool} (h : IsD d b) : frzD d = some d := by rcases h with ⟨M, rfl, _⟩ | ⟨xs, rfl, _⟩ | ⟨M, rfl, _⟩ <;> rfl
theorem all2 : biD .all [.fls [.bl true, .bl true]] = some (.bl true) := rfl
theorem stays_ok {b : Bool} (hd : IsD d b) (hk : 2 ≤ K) : callN FT n K 123 [d] st = .ok (.bl b) st := by
  obtain ⟨k, rfl⟩ : ∃ k, K = k + 2 := ⟨K - 2, by omega⟩
  have en := fun st (z : Int) => num_ok (n := n) (K := k + 1) (st := st) (z := z) (by omega)
  rw [callN, show FT 123 = some f123_is_stays from rfl]
  rcases hd with ⟨M, rfl, rfl⟩ | ⟨xs, rfl, rfl⟩ | ⟨M, rfl, rfl⟩
  · simp (disch := omega) only [f123_is_stays, evE, evA, evs, evs', evI, evsP, exS, bind_ok, bind_ex, bind_bad, so_ok, so_ex, so_bad, then_nx, then_rt, then_bk, then_ex, then_bad, lift_some, lift_none, soE_some', soE_none, noEx_ok, p_nm, p_tup, p_lst, pN_nil, pN_cons, p_frz, p_fls, p_int, p_bl, p_non, p_tupm, p_lstm, f_int, f_bl, f_str, f_non, f_tup, f_lst, f_fls, f_box, f_scr, u_int, u_bl, u_str, u_non, u_tup, u_lst, u_fls, t_bl, t_non, t_int, t_tup, t_lst, t_mls, t_fls, bd_int, bk_fls, bk_flsb, bk_int, bk_bl, bk_non, bk_str, bk_tup, bk_lst, bk_box, back_rt, back_nx, back_ex, idx_int, ix_tup, ix_lst, ix_mls, ix_fls, ix_box, sl_tup, sl_lst, sl_mls, sl_fls, sl_scr, b_add, b_sub, c_lt, c_le, c_gt, c_ge, c_eq, c_ne, c_eqB, c_neB, c_isN, c_notN, i_int, i_intB, i_abs, i_max, i_min, l_lst, l_tup, l_mls, l_fls, li_lst, li_tup, li_fls, tu_lst, tu_tup, tu_fls, tu_mls, su_2, frzM, getM, isS, subM, isNil, isNon, Gb.start, Option.bind_some, Option.bind_none, Option.map_some, Option.map_none, id_eq, List.getElem?_cons_zero, List.getElem?_cons_succ, List.getElem?_nil, List.set_cons_zero, List.set_cons_succ, List.map_cons, List.map_nil, List.length_cons, List.length_nil, List.cons_append, List.nil_append, List.replicate_succ, List.replicate_zero, Nat.reduceSub, Nat.reduceAdd, Nat.zero_add, Nat.reduceLT, if_true, if_false, reduceIte, Bool.false_eq_true, Bool.not_true, Bool.not_false, Bool.not_not, decide_true, decide_false, decide_not, is0_non, is0_bl, is0_int, is0_str, is0_tup, is0_lst, is0_mls, is0_fls, is1_non, is1_bl, is1_int, is1_str, is1_tup, is1_lst, is1_mls, is1_fls, is2_non, is2_bl, is2_int, is2_str, is2_tup, is2_lst, is2_mls, is2_fls, is3_non, is3_bl, is3_int, is3_str, is3_tup, is3_lst, is3_mls, is3_fls, is4_non, is4_bl, is4_int, is4_str, is4_tup, is4_lst, is4_mls, is4_fls, is5_non, is5_bl, is5_int, is5_str, is5_tup, is5_lst, is5_mls, is5_fls, is6_non, is6_bl, is6_int, is6_str, is6_tup, is6_lst, is6_mls, is6_fls, is7_non, is7_bl, is7_int, is7_str, is7_tup, is7_lst, is7_mls, is7_fls, beq_self_eq_true, Bool.true_beq, Bool.false_beq, Bool.and_true, Bool.true_and, Bool.and_false, Bool.false_and, Bool.or_true, Bool.true_or, Bool.or_false, Bool.false_or, wipeE]
    generalize hF : (fun (d : D) (ρ : Env) (st : Store) => _) = F
    obtain ⟨h', u', v', e⟩ := is_run (f := F) (d := .non) (st := st) (fun h u v => [some (.tup (encP M)), some (.int h), u, v]) (fun c h u v => by
      subst hF
      refine ⟨some (encC c), v, ?_⟩
      have l2 : decide (((2 : Nat) : Int) = 2) = true := by decide
      by_cases q1 : c.1 < h
      · rw [if_pos (.inl q1)]
        simp (disch := first | omega | (simp only [List.length_append, List.length_map, List.length_take, List.length_drop, List.length_cons, List.length_nil, List.length_range, List.length_replicate, List.length_set, List.length_zipWith, List.length_reverse]; omega)) only [evE, evA, evs, evs', evI, evsP, exS, bind_ok, bind_ex, bind_bad, so_ok, so_ex, so_bad, then_nx, then_rt, then_bk, then_ex, then_bad, lift_some, lift_none, soE_some', soE_none, noEx_ok, p_nm, p_tup, p_lst, pN_nil, pN_cons, p_frz, p_fls, p_int, p_bl, p_non, p_tupm, p_lstm, f_int, f_bl, f_str, f_non, f_tup, f_lst, f_fls, f_box, f_scr, u_int, u_bl, u_str, u_non, u_tup, u_lst, u_fls, t_bl, t_non, t_int, t_tup, t_lst, t_mls, t_fls, bd_int, bk_fls, bk_flsb, bk_int, bk_bl, bk_non, bk_str, bk_tup, bk_lst, bk_box, back_rt, back_nx, back_ex, idx_int, ix_tup, ix_lst, ix_mls, ix_fls, ix_box, sl_tup, sl_lst, sl_mls, sl_fls, sl_scr, b_add, b_sub, c_lt, c_le, c_gt, c_ge, c_eq, c_ne, c_eqB, c_neB, c_isN, c_notN, i_int, i_intB, i_abs, i_max, i_min, l_lst, l_tup, l_mls, l_fls, li_lst, li_tup, li_fls, tu_lst, tu_tup, tu_fls, tu_mls, su_2, frzM, getM, isS, subM, isNil, isNon, Gb.start, Option.bind_some, Option.bind_none, Option.map_some, Option.map_none, id_eq, List.getElem?_cons_zero, List.getElem?_cons_succ, List.getElem?_nil, List.set_cons_zero, List.set_cons_succ, List.map_cons, List.map_nil, List.length_cons, List.length_nil, List.cons_append, List.nil_append, List.replicate_succ, List.replicate_zero, Nat.reduceSub, Nat.reduceAdd, Nat.zero_add, Nat.reduceLT, if_true, if_false, reduceIte, Bool.false_eq_true, Bool.not_true, Bool.not_false, Bool.not_not, decide_true, decide_false, decide_not, is0_non, is0_bl, is0_int, is0_str, is0_tup, is0_lst, is0_mls, is0_fls, is1_non, is1_bl, is1_int, is1_str, is1_tup, is1_lst, is1_mls, is1_fls, is2_non, is2_bl, is2_int, is2_str, is2_tup, is2_lst, is2_mls, is2_fls, is3_non, is3_bl, is3_int, is3_str, is3_tup, is3_lst, is3_mls, is3_fls, is4_non, is4_bl, is4_int, is4_str, is4_tup, is4_lst, is4_mls, is4_fls, is5_non, is5_bl, is5_int, is5_str, is5_tup, is5_lst, is5_mls, is5_fls, is6_non, is6_bl, is6_int, is6_str, is6_tup, is6_lst, is6_mls, is6_fls, is7_non, is7_bl, is7_int, is7_str, is7_tup, is7_lst, is7_mls, is7_fls, beq_self_eq_true, Bool.true_beq, Bool.false_beq, Bool.and_true, Bool.true_and, Bool.and_false, Bool.false_and, Bool.or_true, Bool.true_or, Bool.or_false, Bool.false_or, wipeE, encC, l2, compL_c, compL_n, compS_some, en, all2, at2_0', at2_1', q1]
      · by_cases q2 : c.2 < 1
        · rw [if_pos (.inr q2)]
          simp (disch := first | omega | (simp only [List.length_append, List.length_map, List.length_take, List.length_drop, List.length_cons, List.length_nil, List.length_range, List.length_replicate, List.length_set, List.length_zipWith, List.length_reverse]; omega)) only [evE, evA, evs, evs', evI, evsP, exS, bind_ok, bind_ex, bind_bad, so_ok, so_ex, so_bad, then_nx, then_rt, then_bk, then_ex, then_bad, lift_some, lift_none, soE_some', soE_none, noEx_ok, p_nm, p_tup, p_lst, pN_nil, pN_cons, p_frz, p_fls, p_int, p_bl, p_non, p_tupm, p_lstm, f_int, f_bl, f_str, f_non, f_tup, f_lst, f_fls, f_box, f_scr, u_int, u_bl, u_str, u_non, u_tup, u_lst, u_fls, t_bl, t_non, t_int, t_tup, t_lst, t_mls, t_fls, bd_int, bk_fls, bk_flsb, bk_int, bk_bl, bk_non, bk_str, bk_tup, bk_lst, bk_box, back_rt, back_nx, back_ex, idx_int, ix_tup, ix_lst, ix_mls, ix_fls, ix_box, sl_tup, sl_lst, sl_mls, sl_fls, sl_scr, b_add, b_sub, c_lt, c_le, c_gt, c_ge, c_eq, c_ne, c_eqB, c_neB, c_isN, c_notN, i_int, i_intB, i_abs, i_max, i_min, l_lst, l_tup, l_mls, l_fls, li_lst, li_tup, li_fls, tu_lst, tu_tup, tu_fls, tu_mls, su_2, frzM, getM, isS, subM, isNil, isNon, Gb.start, Option.bind_some, Option.bind_none, Option.map_some, Option.map_none, id_eq, List.getElem?_cons_zero, List.getElem?_cons_succ, List.getElem?_nil, List.set_cons_zero, List.set_cons_succ, List.map_cons, List.map_nil, List.length_cons, List.length_nil, List.cons_append, List.nil_append, List.replicate_succ, List.replicate_zero, Nat.reduceSub, Nat.reduceAdd, Nat.zero_add, Nat.reduceLT, if_true, if_false, reduceIte, Bool.false_eq_true, Bool.not_true, Bool.not_false, Bool.not_not, decide_true, decide_false, decide_not, is0_non, is0_bl, is0_int, is0_str, is0_tup, is0_lst, is0_mls, is0_fls, is1_non, is1_bl, is1_int, is1_str, is1_tup, is1_lst, is1_mls, is1_fls, is2_non, is2_bl, is2_int, is2_str, is2_tup, is2_lst, is2_mls, is2_fls, is3_non, is3_bl, is3_int, is3_str, is3_tup, is3_lst, is3_mls, is3_fls, is4_non, is4_bl, is4_int, is4_str, is4_tup, is4_lst, is4_mls, is4_fls, is5_non, is5_bl, is5_int, is5_str, is5_tup, is5_lst, is5_mls, is5_fls, is6_non, is6_bl, is6_int, is6_str, is6_tup, is6_lst, is6_mls, is6_fls, is7_non, is7_bl, is7_int, is7_str, is7_tup, is7_lst, is7_mls, is7_fls, beq_self_eq_true, Bool.true_beq, Bool.false_beq, Bool.and_true, Bool.true_and, Bool.and_false, Bool.false_and, Bool.or_true, Bool.true_or, Bool.or_false, Bool.false_or, wipeE, encC, l2, compL_c, compL_n, compS_some, en, all2, at2_0', at2_1', q1, q2]
        · rw [if_neg (by omega)]
          simp (disch := first | omega | (simp only [List.length_append, List.length_map, List.length_take, List.length_drop, List.length_cons, List.length_nil, List.length_range, List.length_replicate, List.length_set, List.length_zipWith, List.length_reverse]; omega)) only [evE, evA, evs, evs', evI, evsP, exS, bind_ok, bind_ex, bind_bad, so_ok, so_ex, so_bad, then_nx, then_rt, then_bk, then_ex, then_bad, lift_some, lift_none, soE_some', soE_none, noEx_ok, p_nm, p_tup, p_lst, pN_nil, pN_cons, p_frz, p_fls, p_int, p_bl, p_non, p_tupm, p_lstm, f_int, f_bl, f_str, f_non, f_tup, f_lst, f_fls, f_box, f_scr, u_int, u_bl, u_str, u_non, u_tup, u_lst, u_fls, t_bl, t_non, t_int, t_tup, t_lst, t_mls, t_fls, bd_int, bk_fls, bk_flsb, bk_int, bk_bl, bk_non, bk_str, bk_tup, bk_lst, bk_box, back_rt, back_nx, back_ex, idx_int, ix_tup, ix_lst, ix_mls, ix_fls, ix_box, sl_tup, sl_lst, sl_mls, sl_fls, sl_scr, b_add, b_sub, c_lt, c_le, c_gt, c_ge, c_eq, c_ne, c_eqB, c_neB, c_isN, c_notN, i_int, i_intB, i_abs, i_max, i_min, l_lst, l_tup, l_mls, l_fls, li_lst, li_tup, li_fls, tu_lst, tu_tup, tu_fls, tu_mls, su_2, frzM, getM, isS, subM, isNil, isNon, Gb.start, Option.bind_some, Option.bind_none, Option.map_some, Option.map_none, id_eq, List.getElem?_cons_zero, List.getElem?_cons_succ, List.getElem?_nil, List.set_cons_zero, List.set_cons_succ, List.map_cons, List.map_nil, List.length_cons, List.length_nil, List.cons_append, List.nil_append, List.replicate_succ, List.replicate_zero, Nat.reduceSub, Nat.reduceAdd, Nat.zero_add, Nat.reduceLT, if_true, if_false, reduceIte, Bool.false_eq_true, Bool.not_true, Bool.not_false, Bool.not_not, decide_true, decide_false, decide_not, is0_non, is0_bl, is0_int, is0_str, is0_tup, is0_lst, is0_mls, is0_fls, is1_non, is1_bl, is1_int, is1_str, is1_tup, is1_lst, is1_mls, is1_fls, is2_non, is2_bl, is2_int, is2_str, is2_tup, is2_lst, is2_mls, is2_fls, is3_non, is3_bl, is3_int, is3_str, is3_tup, is3_lst, is3_mls, is3_fls, is4_non, is4_bl, is4_int, is4_str, is4_tup, is4_lst, is4_mls, is4_fls, is5_non, is5_bl, is5_int, is5_str, is5_tup, is5_lst, is5_mls, is5_fls, is6_non, is6_bl, is6_int, is6_str, is6_tup, is6_lst, is6_mls, is6_fls, is7_non, is7_bl, is7_int, is7_str, is7_tup, is7_lst, is7_mls, is7_fls, beq_self_eq_true, Bool.true_beq, Bool.false_beq, Bool.and_true, Bool.true_and, Bool.and_false, Bool.false_and, Bool.or_true, Bool.true_or, Bool.or_false, Bool.false_or, wipeE, encC, l2, compL_c, compL_n, compS_some, en, all2, at2_0', at2_1', q1, q2]) M 0 none none
    rw [e]
    cases isP 0 M with
    | true => simp (disch := omega) only [evE, evA, evs, evs', evI, evsP, exS, bind_ok, bind_ex, bind_bad, so_ok, so_ex, so_bad, then_nx, then_rt, then_bk, then_ex, then_bad, lift_some, lift_none, soE_some', soE_none, noEx_ok, p_nm, p_tup, p_lst, pN_nil, pN_cons, p_frz, p_fls, p_int, p_bl, p_non, p_tupm, p_lstm, f_int, f_bl, f_str, f_non, f_tup, f_lst, f_fls, f_box, f_scr, u_int, u_bl, u_str, u_non, u_tup, u_lst, u_fls, t_bl, t_non, t_int, t_tup, t_lst, t_mls, t_fls, bd_int, bk_fls, bk_flsb, bk_int, bk_bl, bk_non, bk_str, bk_tup, bk_lst, bk_box, back_rt, back_nx, back_ex, idx_int, ix_tup, ix_lst, ix_mls, ix_fls, ix_box, sl_tup, sl_lst, sl_mls, sl_fls, sl_scr, b_add, b_sub, c_lt, c_le, c_gt, c_ge, c_eq, c_ne, c_eqB, c_neB, c_isN, c_notN, i_int, i_intB, i_abs, i_max, i_min, l_lst, l_tup, l_mls, l_fls, li_lst, li_tup, li_fls, tu_lst, tu_tup, tu_fls, tu_mls, su_2, frzM, getM, isS, subM, isNil, isNon, Gb.start, Option.bind_some, Option.bind_none, Option.map_some, Option.map_none, id_eq, List.getElem?_cons_zero, List.getElem?_cons_succ, List.getElem?_nil, List.set_cons_zero, List.set_cons_succ, List.map_cons, List.map_nil, List.length_cons, List.length_nil, List.cons_append, List.nil_append, List.replicate_succ, List.replicate_zero, Nat.reduceSub, Nat.reduceAdd, Nat.zero_add, Nat.reduceLT, if_true, if_false, reduceIte, Bool.false_eq_true, Bool.not_true, Bool.not_false, Bool.not_not, decide_true, decide_false, decide_not, is0_non, is0_bl, is0_int, is0_str, is0_tup, is0_lst, is0_mls, is0_fls, is1_non, is1_bl, is1_int, is1_str, is1_tup, is1_lst, is1_mls, is1_fls, is2_non, is2_bl, is2_int, is2_str, is2_tup, is2_lst, is2_mls, is2_fls, is3_non, is3_bl, is3_int, is3_str, is3_tup, is3_lst, is3_mls, is3_fls, is4_non, is4_bl, is4_int, is4_str, is4_tup, is4_lst, is4_mls, is4_fls, is5_non, is5_bl, is5_int, is5_str, is5_tup, is5_lst, is5_mls, is5_fls, is6_non, is6_bl, is6_int, is6_str, is6_tup, is6_lst, is6_mls, is6_fls, is7_non, is7_bl, is7_int, is7_str, is7_tup, is7_lst, is7_mls, is7_fls, beq_self_eq_true, Bool.true_beq, Bool.false_beq, Bool.and_true, Bool.true_and, Bool.and_false, Bool.false_and, Bool.or_true, Bool.true_or, Bool.or_false, Bool.false_or, wipeE]
    | false => simp (disch := omega) only [evE, evA, evs, evs', evI, evsP, exS, bind_ok, bind_ex, bind_bad, so_ok, so_ex, so_bad, then_nx, then_rt, then_bk, then_ex, then_bad, lift_some, lift_none, soE_some', soE_none, noEx_ok, p_nm, p_tup, p_lst, pN_nil, pN_cons, p_frz, p_fls, p_int, p_bl, p_non, p_tupm, p_lstm, f_int, f_bl, f_str, f_non, f_tup, f_lst, f_fls, f_box, f_scr, u_int, u_bl, u_str, u_non, u_tup, u_lst, u_fls, t_bl, t_non, t_int, t_tup, t_lst, t_mls, t_fls, bd_int, bk_fls, bk_flsb, bk_int, bk_bl, bk_non, bk_str, bk_tup, bk_lst, bk_box, back_rt, back_nx, back_ex, idx_int, ix_tup, ix_lst, ix_mls, ix_fls, ix_box, sl_tup, sl_lst, sl_mls, sl_fls, sl_scr, b_add, b_sub, c_lt, c_le, c_gt, c_ge, c_eq, c_ne, c_eqB, c_neB, c_isN, c_notN, i_int, i_intB, i_abs, i_max, i_min, l_lst, l_tup, l_mls, l_fls, li_lst, li_tup, li_fls, tu_lst, tu_tup, tu_fls, tu_mls, su_2, frzM, getM, isS, subM, isNil, isNon, Gb.start, Option.bind_some, Option.bind_none, Option.map_some, Option.map_none, id_eq, List.getElem?_cons_zero, List.getElem?_cons_succ, List.getElem?_nil, List.set_cons_zero, List.set_cons_succ, List.map_cons, List.map_nil, List.length_cons, List.length_nil, List.cons_append, List.nil_append, List.replicate_succ, List.replicate_zero, Nat.reduceSub, Nat.reduceAdd, Nat.zero_add, Nat.reduceLT, if_true, if_false, reduceIte, Bool.false_eq_true, Bool.not_true, Bool.not_false, Bool.not_not, decide_true, decide_false, decide_not, is0_non, is0_bl, is0_int, is0_str, is0_tup, is0_lst, is0_mls, is0_fls, is1_non, is1_bl, is1_int, is1_str, is1_tup, is1_lst, is1_mls, is1_fls, is2_non, is2_bl, is2_int, is2_str, is2_tup, is2_lst, is2_mls, is2_fls, is3_non, is3_bl, is3_int, is3_str, is3_tup, is3_lst, is3_mls, is3_fls, is4_non, is4_bl, is4_int, is4_str, is4_tup, is4_lst, is4_mls, is4_fls, is5_non, is5_bl, is5_int, is5_str, is5_tup, is5_lst, is5_mls, is5_fls, is6_non, is6_bl, is6_int, is6_str, is6_tup, is6_lst, is6_mls, is6_fls, is7_non, is7_bl, is7_int, is7_str, is7_tup, is7_lst, is7_mls, is7_fls, beq_self_eq_true, Bool.true_beq, Bool.false_beq, Bool.and_true, Bool.true_and, Bool.and_false, Bool.false_and, Bool.or_true, Bool.true_or, Bool.or_false, Bool.false_or, wipeE]
  · simp (disch := omega) only [f123_is_stays, evE, evA, evs, evs', evI, evsP, exS, bind_ok, bind_ex, bind_bad, so_ok, so_ex, so_bad, then_nx, then_rt, then_bk, then_ex, then_bad, lift_some, lift_none, soE_some', soE_none, noEx_ok, p_nm, p_tup, p_lst, pN_nil, pN_cons, p_frz, p_fls, p_int, p_bl, p_non, p_tupm, p_lstm, f_int, f_bl, f_str, f_non, f_tup, f_lst, f_fls, f_box, f_scr, u_int, u_bl, u_str, u_non, u_tup, u_lst, u_fls, t_bl, t_non, t_int, t_tup, t_lst, t_mls, t_fls, bd_int, bk_fls, bk_flsb, bk_int, bk_bl, bk_non, bk_str, bk_tup, bk_lst, bk_box, back_rt, back_nx, back_ex, idx_int, ix_tup, ix_lst, ix_mls, ix_fls, ix_box, sl_tup, sl_lst, sl_mls, sl_fls, sl_scr, b_add, b_sub, c_lt, c_le, c_gt, c_ge, c_eq, c_ne, c_eqB, c_neB, c_isN, c_notN, i_int, i_intB, i_abs, i_max, i_min, l_lst, l_tup, l_mls, l_fls, li_lst, li_tup, li_fls, tu_lst, tu_tup, tu_fls, tu_mls, su_2, frzM, getM, isS, subM, isNil, isNon, Gb.start, Option.bind_some, Option.bind_none, Option.map_some, Option.map_none, id_eq, List.getElem?_cons_zero, List.getElem?_cons_succ, List.getElem?_nil, List.set_cons_zero, List.set_cons_succ, List.map_cons, List.map_nil, List.length_cons, List.length_nil, List.cons_append, List.nil_append, List.replicate_succ, List.replicate_zero, Nat.reduceSub, Nat.reduceAdd, Nat.zero_add, Nat.reduceLT, if_true, if_false, reduceIte, Bool.false_eq_true, Bool.not_true, Bool.not_false, Bool.not_not, decide_true, decide_false, decide_not, is0_non, is0_bl, is0_int, is0_str, is0_tup, is0_lst, is0_mls, is0_fls, is1_non, is1_bl, is1_int, is1_str, is1_tup, is1_lst, is1_mls, is1_fls, is2_non, is2_bl, is2_int, is2_str, is2_tup, is2_lst, is2_mls, is2_fls, is3_non, is3_bl, is3_int, is3_str, is3_tup, is3_lst, is3_mls, is3_fls, is4_non, is4_bl, is4_int, is4_str, is4_tup, is4_lst, is4_mls, is4_fls, is5_non, is5_bl, is5_int, is5_str, is5_tup, is5_lst, is5_mls, is5_fls, is6_non, is6_bl, is6_int, is6_str, is6_tup, is6_lst, is6_mls, is6_fls, is7_non, is7_bl, is7_int, is7_str, is7_tup, is7_lst, is7_mls, is7_fls, beq_self_eq_true, Bool.true_beq, Bool.false_beq, Bool.and_true, Bool.true_and, Bool.and_false, Bool.false_and, Bool.or_true, Bool.true_or, Bool.or_false, Bool.false_or, wipeE]
  · cases M with
    | nil => simp (disch := omega) only [f123_is_stays, evE, evA, evs, evs', evI, evsP, exS, bind_ok, bind_ex, bind_bad, so_ok, so_ex, so_bad, then_nx, then_rt, then_bk, then_ex, then_bad, lift_some, lift_none, soE_some', soE_none, noEx_ok, p_nm, p_tup, p_lst, pN_nil, pN_cons, p_frz, p_fls, p_int, p_bl, p_non, p_tupm, p_lstm, f_int, f_bl, f_str, f_non, f_tup, f_lst, f_fls, f_box, f_scr, u_int, u_bl, u_str, u_non, u_tup, u_lst, u_fls, t_bl, t_non, t_int, t_tup, t_lst, t_mls, t_fls, bd_int, bk_fls, bk_flsb, bk_int, bk_bl, bk_non, bk_str, bk_tup, bk_lst, bk_box, back_rt, back_nx, back_ex, idx_int, ix_tup, ix_lst, ix_mls, ix_fls, ix_box, sl_tup, sl_lst, sl_mls, sl_fls, sl_scr, b_add, b_sub, c_lt, c_le, c_gt, c_ge, c_eq, c_ne, c_eqB, c_neB, c_isN, c_notN, i_int, i_intB, i_abs, i_max, i_min, l_lst, l_tup, l_mls, l_fls, li_lst, li_tup, li_fls, tu_lst, tu_tup, tu_fls, tu_mls, su_2, frzM, getM, isS, subM, isNil, isNon, Gb.start, Option.bind_some, Option.bind_none, Option.map_some, Option.map_none, id_eq, List.getElem?_cons_zero, List.getElem?_cons_succ, List.getElem?_nil, List.set_cons_zero, List.set_cons_succ, List.map_cons, List.map_nil, List.length_cons, List.length_nil, List.cons_append, List.nil_append, List.replicate_succ, List.replicate_zero, Nat.reduceSub, Nat.reduceAdd, Nat.zero_add, Nat.reduceLT, if_true, if_false, reduceIte, Bool.false_eq_true, Bool.not_true, Bool.not_false, Bool.not_not, decide_true, decide_false, decide_not, is0_non, is0_bl, is0_int, is0_str, is0_tup, is0_lst, is0_mls, is0_fls, is1_non, is1_bl, is1_int, is1_str, is1_tup, is1_lst, is1_mls, is1_fls, is2_non, is2_bl, is2_int, is2_str, is2_tup, is2_lst, is2_mls, is2_fls, is3_non, is3_bl, is3_int, is3_str, is3_tup, is3_lst, is3_mls, is3_fls, is4_non, is4_bl, is4_int, is4_str, is4_tup, is4_lst, is4_mls, is4_fls, is5_non, is5_bl, is5_int, is5_str, is5_tup, is5_lst, is5_mls, is5_fls, is6_non, is6_bl, is6_int, is6_str, is6_tup, is6_lst, is6_mls, is6_fls, is7_non, is7_bl, is7_int, is7_str, is7_tup, is7_lst, is7_mls, is7_fls, beq_self_eq_true, Bool.true_beq, Bool.false_beq, Bool.and_true, Bool.true_and, Bool.and_false, Bool.false_and, Bool.or_true, Bool.true_or, Bool.or_false, Bool.false_or, wipeE, show encQ [] = [] from rfl, forL_n, List.isEmpty_nil]
    | cons c M => simp (disch := omega) only [f123_is_stays, evE, evA, evs, evs', evI, evsP, exS, bind_ok, bind_ex, bind_bad, so_ok, so_ex, so_bad, then_nx, then_rt, then_bk, then_ex, then_bad, lift_some, lift_none, soE_some', soE_none, noEx_ok, p_nm, p_tup, p_lst, pN_nil, pN_cons, p_frz, p_fls, p_int, p_bl, p_non, p_tupm, p_lstm, f_int, f_bl, f_str, f_non, f_tup, f_lst, f_fls, f_box, f_scr, u_int, u_bl, u_str, u_non, u_tup, u_lst, u_fls, t_bl, t_non, t_int, t_tup, t_lst, t_mls, t_fls, bd_int, bk_fls, bk_flsb, bk_int, bk_bl, bk_non, bk_str, bk_tup, bk_lst, bk_box, back_rt, back_nx, back_ex, idx_int, ix_tup, ix_lst, ix_mls, ix_fls, ix_box, sl_tup, sl_lst, sl_mls, sl_fls, sl_scr, b_add, b_sub, c_lt, c_le, c_gt, c_ge, c_eq, c_ne, c_eqB, c_neB, c_isN, c_notN, i_int, i_intB, i_abs, i_max, i_min, l_lst, l_tup, l_mls, l_fls, li_lst, li_tup, li_fls, tu_lst, tu_tup, tu_fls, tu_mls, su_2, frzM, getM, isS, subM, isNil, isNon, Gb.start, Option.bind_some, Option.bind_none, Option.map_some, Option.map_none, id_eq, List.getElem?_cons_zero, List.getElem?_cons_succ, List.getElem?_nil, List.set_cons_zero, List.set_cons_succ, List.map_cons, List.map_nil, List.length_cons, List.length_nil, List.cons_append, List.nil_append, List.replicate_succ, List.replicate_zero, Nat.reduceSub, Nat.reduceAdd, Nat.zero_add, Nat.reduceLT, if_true, if_false, reduceIte, Bool.false_eq_true, Bool.not_true, Bool.not_false, Bool.not_not, decide_true, decide_false, decide_not, is0_non, is0_bl, is0_int, is0_str, is0_tup, is0_lst, is0_mls, is0_fls, is1_non, is1_bl, is1_int, is1_str, is1_tup, is1_lst, is1_mls, is1_fls, is2_non, is2_bl, is2_int, is2_str, is2_tup, is2_lst, is2_mls, is2_fls, is3_non, is3_bl, is3_int, is3_str, is3_tup, is3_lst, is3_mls, is3_fls, is4_non, is4_bl, is4_int, is4_str, is4_tup, is4_lst, is4_mls, is4_fls, is5_non, is5_bl, is5_int, is5_str, is5_tup, is5_lst, is5_mls, is5_fls, is6_non, is6_bl, is6_int, is6_str, is6_tup, is6_lst, is6_mls, is6_fls, is7_non, is7_bl, is7_int, is7_str, is7_tup, is7_lst, is7_mls, is7_fls, beq_self_eq_true, Bool.true_beq, Bool.false_beq, Bool.and_true, Bool.true_and, Bool.and_false, Bool.false_and, Bool.or_true, Bool.true_or, Bool.or_false, Bool.false_or, wipeE, show encQ (c :: M) = encCl c :: encQ M from rfl, encCl, forL_c, loop_rt, List.isEmpty_cons]
theorem lis_ok {b : Bool} (hd : IsD d b) (hk : 2 ≤ K) : callN FT n K 130 [d] st = .ok (.bl b) st := by
  obtain ⟨k, rfl⟩ : ∃ k, K = k + 2 := ⟨K - 2, by omega⟩
  rw [callN, show FT 130 = some f130_law_is from rfl]
  have ne0 : cmpD .ne (.fls []) (.fls []) = some false := c_neL (k := 0) (x := .fls []) (xs := []) rfl rfl (by decide)
  rcases hd with ⟨M, rfl, rfl⟩ | ⟨xs, rfl, rfl⟩ | ⟨M, rfl, rfl⟩
  · simp (disch := omega) only [f130_law_is, evE, evA, evs, evs', evI, evsP, exS, bind_ok, bind_ex, bind_bad, so_ok, so_ex, so_bad, then_nx, then_rt, then_bk, then_ex, then_bad, lift_some, lift_none, soE_some', soE_none, noEx_ok, p_nm, p_tup, p_lst, pN_nil, pN_cons, p_frz, p_fls, p_int, p_bl, p_non, p_tupm, p_lstm, f_int, f_bl, f_str, f_non, f_tup, f_lst, f_fls, f_box, f_scr, u_int, u_bl, u_str, u_non, u_tup, u_lst, u_fls, t_bl, t_non, t_int, t_tup, t_lst, t_mls, t_fls, bd_int, bk_fls, bk_flsb, bk_int, bk_bl, bk_non, bk_str, bk_tup, bk_lst, bk_box, back_rt, back_nx, back_ex, idx_int, ix_tup, ix_lst, ix_mls, ix_fls, ix_box, sl_tup, sl_lst, sl_mls, sl_fls, sl_scr, b_add, b_sub, c_lt, c_le, c_gt, c_ge, c_eq, c_ne, c_eqB, c_neB, c_isN, c_notN, i_int, i_intB, i_abs, i_max, i_min, l_lst, l_tup, l_mls, l_fls, li_lst, li_tup, li_fls, tu_lst, tu_tup, tu_fls, tu_mls, su_2, frzM, getM, isS, subM, isNil, isNon, Gb.start, Option.bind_some, Option.bind_none, Option.map_some, Option.map_none, id_eq, List.getElem?_cons_zero, List.getElem?_cons_succ, List.getElem?_nil, List.set_cons_zero, List.set_cons_succ, List.map_cons, List.map_nil, List.length_cons, List.length_nil, List.cons_append, List.nil_append, List.replicate_succ, List.replicate_zero, Nat.reduceSub, Nat.reduceAdd, Nat.zero_add, Nat.reduceLT, if_true, if_false, reduceIte, Bool.false_eq_true, Bool.not_true, Bool.not_false, Bool.not_not, decide_true, decide_false, decide_not, is0_non, is0_bl, is0_int, is0_str, is0_tup, is0_lst, is0_mls, is0_fls, is1_non, is1_bl, is1_int, is1_str, is1_tup, is1_lst, is1_mls, is1_fls, is2_non, is2_bl, is2_int, is2_str, is2_tup, is2_lst, is2_mls, is2_fls, is3_non, is3_bl, is3_int, is3_str, is3_tup, is3_lst, is3_mls, is3_fls, is4_non, is4_bl, is4_int, is4_str, is4_tup, is4_lst, is4_mls, is4_fls, is5_non, is5_bl, is5_int, is5_str, is5_tup, is5_lst, is5_mls, is5_fls, is6_non, is6_bl, is6_int, is6_str, is6_tup, is6_lst, is6_mls, is6_fls, is7_non, is7_bl, is7_int, is7_str, is7_tup, is7_lst, is7_mls, is7_fls, beq_self_eq_true, Bool.true_beq, Bool.false_beq, Bool.and_true, Bool.true_and, Bool.and_false, Bool.false_and, Bool.or_true, Bool.true_or, Bool.or_false, Bool.false_or, wipeE]
    generalize hF : (fun (d : D) (ρ : Env) (st : Store) => _) = F
    obtain ⟨h', u', v', e⟩ := is_run (f := F) (d := .non) (st := st) (fun h u v => [some (.tup (encP M)), some (.int h), u, v]) (fun c h u v => by
      subst hF
      refine ⟨some (encC c), v, ?_⟩
      have l2 : decide (((2 : Nat) : Int) = 2) = true := by decide
      by_cases q1 : c.1 < h
      · rw [if_pos (.inl q1)]
        simp (disch := first | omega | (simp only [List.length_append, List.length_map, List.length_take, List.length_drop, List.length_cons, List.length_nil, List.length_range, List.length_replicate, List.length_set, List.length_zipWith, List.length_reverse]; omega)) only [evE, evA, evs, evs', evI, evsP, exS, bind_ok, bind_ex, bind_bad, so_ok, so_ex, so_bad, then_nx, then_rt, then_bk, then_ex, then_bad, lift_some, lift_none, soE_some', soE_none, noEx_ok, p_nm, p_tup, p_lst, pN_nil, pN_cons, p_frz, p_fls, p_int, p_bl, p_non, p_tupm, p_lstm, f_int, f_bl, f_str, f_non, f_tup, f_lst, f_fls, f_box, f_scr, u_int, u_bl, u_str, u_non, u_tup, u_lst, u_fls, t_bl, t_non, t_int, t_tup, t_lst, t_mls, t_fls, bd_int, bk_fls, bk_flsb, bk_int, bk_bl, bk_non, bk_str, bk_tup, bk_lst, bk_box, back_rt, back_nx, back_ex, idx_int, ix_tup, ix_lst, ix_mls, ix_fls, ix_box, sl_tup, sl_lst, sl_mls, sl_fls, sl_scr, b_add, b_sub, c_lt, c_le, c_gt, c_ge, c_eq, c_ne, c_eqB, c_neB, c_isN, c_notN, i_int, i_intB, i_abs, i_max, i_min, l_lst, l_tup, l_mls, l_fls, li_lst, li_tup, li_fls, tu_lst, tu_tup, tu_fls, tu_mls, su_2, frzM, getM, isS, subM, isNil, isNon, Gb.start, Option.bind_some, Option.bind_none, Option.map_some, Option.map_none, id_eq, List.getElem?_cons_zero, List.getElem?_cons_succ, List.getElem?_nil, List.set_cons_zero, List.set_cons_succ, List.map_cons, List.map_nil, List.length_cons, List.length_nil, List.cons_append, List.nil_append, List.replicate_succ, List.replicate_zero, Nat.reduceSub, Nat.reduceAdd, Nat.zero_add, Nat.reduceLT, if_true, if_false, reduceIte, Bool.false_eq_true, Bool.not_true, Bool.not_false, Bool.not_not, decide_true, decide_false, decide_not, is0_non, is0_bl, is0_int, is0_str, is0_tup, is0_lst, is0_mls, is0_fls, is1_non, is1_bl, is1_int, is1_str, is1_tup, is1_lst, is1_mls, is1_fls, is2_non, is2_bl, is2_int, is2_str, is2_tup, is2_lst, is2_mls, is2_fls, is3_non, is3_bl, is3_int, is3_str, is3_tup, is3_lst, is3_mls, is3_fls, is4_non, is4_bl, is4_int, is4_str, is4_tup, is4_lst, is4_mls, is4_fls, is5_non, is5_bl, is5_int, is5_str, is5_tup, is5_lst, is5_mls, is5_fls, is6_non, is6_bl, is6_int, is6_str, is6_tup, is6_lst, is6_mls, is6_fls, is7_non, is7_bl, is7_int, is7_str, is7_tup, is7_lst, is7_mls, is7_fls, beq_self_eq_true, Bool.true_beq, Bool.false_beq, Bool.and_true, Bool.true_and, Bool.and_false, Bool.false_and, Bool.or_true, Bool.true_or, Bool.or_false, Bool.false_or, wipeE, encC, l2, compL_c, compL_n, compS_none, ne0, if_sz, at2_0', at2_1', q1]
      · by_cases q2 : c.2 < 1
        · rw [if_pos (.inr q2)]
          simp (disch := first | omega | (simp only [List.length_append, List.length_map, List.length_take, List.length_drop, List.length_cons, List.length_nil, List.length_range, List.length_replicate, List.length_set, List.length_zipWith, List.length_reverse]; omega)) only [evE, evA, evs, evs', evI, evsP, exS, bind_ok, bind_ex, bind_bad, so_ok, so_ex, so_bad, then_nx, then_rt, then_bk, then_ex, then_bad, lift_some, lift_none, soE_some', soE_none, noEx_ok, p_nm, p_tup, p_lst, pN_nil, pN_cons, p_frz, p_fls, p_int, p_bl, p_non, p_tupm, p_lstm, f_int, f_bl, f_str, f_non, f_tup, f_lst, f_fls, f_box, f_scr, u_int, u_bl, u_str, u_non, u_tup, u_lst, u_fls, t_bl, t_non, t_int, t_tup, t_lst, t_mls, t_fls, bd_int, bk_fls, bk_flsb, bk_int, bk_bl, bk_non, bk_str, bk_tup, bk_lst, bk_box, back_rt, back_nx, back_ex, idx_int, ix_tup, ix_lst, ix_mls, ix_fls, ix_box, sl_tup, sl_lst, sl_mls, sl_fls, sl_scr, b_add, b_sub, c_lt, c_le, c_gt, c_ge, c_eq, c_ne, c_eqB, c_neB, c_isN, c_notN, i_int, i_intB, i_abs, i_max, i_min, l_lst, l_tup, l_mls, l_fls, li_lst, li_tup, li_fls, tu_lst, tu_tup, tu_fls, tu_mls, su_2, frzM, getM, isS, subM, isNil, isNon, Gb.start, Option.bind_some, Option.bind_none, Option.map_some, Option.map_none, id_eq, List.getElem?_cons_zero, List.getElem?_cons_succ, List.getElem?_nil, List.set_cons_zero, List.set_cons_succ, List.map_cons, List.map_nil, List.length_cons, List.length_nil, List.cons_append, List.nil_append, List.replicate_succ, List.replicate_zero, Nat.reduceSub, Nat.reduceAdd, Nat.zero_add, Nat.reduceLT, if_true, if_false, reduceIte, Bool.false_eq_true, Bool.not_true, Bool.not_false, Bool.not_not, decide_true, decide_false, decide_not, is0_non, is0_bl, is0_int, is0_str, is0_tup, is0_lst, is0_mls, is0_fls, is1_non, is1_bl, is1_int, is1_str, is1_tup, is1_lst, is1_mls, is1_fls, is2_non, is2_bl, is2_int, is2_str, is2_tup, is2_lst, is2_mls, is2_fls, is3_non, is3_bl, is3_int, is3_str, is3_tup, is3_lst, is3_mls, is3_fls, is4_non, is4_bl, is4_int, is4_str, is4_tup, is4_lst, is4_mls, is4_fls, is5_non, is5_bl, is5_int, is5_str, is5_tup, is5_lst, is5_mls, is5_fls, is6_non, is6_bl, is6_int, is6_str, is6_tup, is6_lst, is6_mls, is6_fls, is7_non, is7_bl, is7_int, is7_str, is7_tup, is7_lst, is7_mls, is7_fls, beq_self_eq_true, Bool.true_beq, Bool.false_beq, Bool.and_true, Bool.true_and, Bool.and_false, Bool.false_and, Bool.or_true, Bool.true_or, Bool.or_false, Bool.false_or, wipeE, encC, l2, compL_c, compL_n, compS_none, ne0, if_sz, at2_0', at2_1', q1, q2]
        · rw [if_neg (by omega)]
          simp (disch := first | omega | (simp only [List.length_append, List.length_map, List.length_take, List.length_drop, List.length_cons, List.length_nil, List.length_range, List.length_replicate, List.length_set, List.length_zipWith, List.length_reverse]; omega)) only [evE, evA, evs, evs', evI, evsP, exS, bind_ok, bind_ex, bind_bad, so_ok, so_ex, so_bad, then_nx, then_rt, then_bk, then_ex, then_bad, lift_some, lift_none, soE_some', soE_none, noEx_ok, p_nm, p_tup, p_lst, pN_nil, pN_cons, p_frz, p_fls, p_int, p_bl, p_non, p_tupm, p_lstm, f_int, f_bl, f_str, f_non, f_tup, f_lst, f_fls, f_box, f_scr, u_int, u_bl, u_str, u_non, u_tup, u_lst, u_fls, t_bl, t_non, t_int, t_tup, t_lst, t_mls, t_fls, bd_int, bk_fls, bk_flsb, bk_int, bk_bl, bk_non, bk_str, bk_tup, bk_lst, bk_box, back_rt, back_nx, back_ex, idx_int, ix_tup, ix_lst, ix_mls, ix_fls, ix_box, sl_tup, sl_lst, sl_mls, sl_fls, sl_scr, b_add, b_sub, c_lt, c_le, c_gt, c_ge, c_eq, c_ne, c_eqB, c_neB, c_isN, c_notN, i_int, i_intB, i_abs, i_max, i_min, l_lst, l_tup, l_mls, l_fls, li_lst, li_tup, li_fls, tu_lst, tu_tup, tu_fls, tu_mls, su_2, frzM, getM, isS, subM, isNil, isNon, Gb.start, Option.bind_some, Option.bind_none, Option.map_some, Option.map_none, id_eq, List.getElem?_cons_zero, List.getElem?_cons_succ, List.getElem?_nil, List.set_cons_zero, List.set_cons_succ, List.map_cons, List.map_nil, List.length_cons, List.length_nil, List.cons_append, List.nil_append, List.replicate_succ, List.replicate_zero, Nat.reduceSub, Nat.reduceAdd, Nat.zero_add, Nat.reduceLT, if_true, if_false, reduceIte, Bool.false_eq_true, Bool.not_true, Bool.not_false, Bool.not_not, decide_true, decide_false, decide_not, is0_non, is0_bl, is0_int, is0_str, is0_tup, is0_lst, is0_mls, is0_fls, is1_non, is1_bl, is1_int, is1_str, is1_tup, is1_lst, is1_mls, is1_fls, is2_non, is2_bl, is2_int, is2_str, is2_tup, is2_lst, is2_mls, is2_fls, is3_non, is3_bl, is3_int, is3_str, is3_tup, is3_lst, is3_mls, is3_fls, is4_non, is4_bl, is4_int, is4_str, is4_tup, is4_lst, is4_mls, is4_fls, is5_non, is5_bl, is5_int, is5_str, is5_tup, is5_lst, is5_mls, is5_fls, is6_non, is6_bl, is6_int, is6_str, is6_tup, is6_lst, is6_mls, is6_fls, is7_non, is7_bl, is7_int, is7_str, is7_tup, is7_lst, is7_mls, is7_fls, beq_self_eq_true, Bool.true_beq, Bool.false_beq, Bool.and_true, Bool.true_and, Bool.and_false, Bool.false_and, Bool.or_true, Bool.true_or, Bool.or_false, Bool.false_or, wipeE, encC, l2, compL_c, compL_n, compS_none, ne0, if_sz, at2_0', at2_1', q1, q2]) M 0 none none
    rw [e]
    cases isP 0 M with
    | true => simp (disch := omega) only [evE, evA, evs, evs', evI, evsP, exS, bind_ok, bind_ex, bind_bad, so_ok, so_ex, so_bad, then_nx, then_rt, then_bk, then_ex, then_bad, lift_some, lift_none, soE_some', soE_none, noEx_ok, p_nm, p_tup, p_lst, pN_nil, pN_cons, p_frz, p_fls, p_int, p_bl, p_non, p_tupm, p_lstm, f_int, f_bl, f_str, f_non, f_tup, f_lst, f_fls, f_box, f_scr, u_int, u_bl, u_str, u_non, u_tup, u_lst, u_fls, t_bl, t_non, t_int, t_tup, t_lst, t_mls, t_fls, bd_int, bk_fls, bk_flsb, bk_int, bk_bl, bk_non, bk_str, bk_tup, bk_lst, bk_box, back_rt, back_nx, back_ex, idx_int, ix_tup, ix_lst, ix_mls, ix_fls, ix_box, sl_tup, sl_lst, sl_mls, sl_fls, sl_scr, b_add, b_sub, c_lt, c_le, c_gt, c_ge, c_eq, c_ne, c_eqB, c_neB, c_isN, c_notN, i_int, i_intB, i_abs, i_max, i_min, l_lst, l_tup, l_mls, l_fls, li_lst, li_tup, li_fls, tu_lst, tu_tup, tu_fls, tu_mls, su_2, frzM, getM, isS, subM, isNil, isNon, Gb.start, Option.bind_some, Option.bind_none, Option.map_some, Option.map_none, id_eq, List.getElem?_cons_zero, List.getElem?_cons_succ, List.getElem?_nil, List.set_cons_zero, List.set_cons_succ, List.map_cons, List.map_nil, List.length_cons, List.length_nil, List.cons_append, List.nil_append, List.replicate_succ, List.replicate_zero, Nat.reduceSub, Nat.reduceAdd, Nat.zero_add, Nat.reduceLT, if_true, if_false, reduceIte, Bool.false_eq_true, Bool.not_true, Bool.not_false, Bool.not_not, decide_true, decide_false, decide_not, is0_non, is0_bl, is0_int, is0_str, is0_tup, is0_lst, is0_mls, is0_fls, is1_non, is1_bl, is1_int, is1_str, is1_tup, is1_lst, is1_mls, is1_fls, is2_non, is2_bl, is2_int, is2_str, is2_tup, is2_lst, is2_mls, is2_fls, is3_non, is3_bl, is3_int, is3_str, is3_tup, is3_lst, is3_mls, is3_fls, is4_non, is4_bl, is4_int, is4_str, is4_tup, is4_lst, is4_mls, is4_fls, is5_non, is5_bl, is5_int, is5_str, is5_tup, is5_lst, is5_mls, is5_fls, is6_non, is6_bl, is6_int, is6_str, is6_tup, is6_lst, is6_mls, is6_fls, is7_non, is7_bl, is7_int, is7_str, is7_tup, is7_lst, is7_mls, is7_fls, beq_self_eq_true, Bool.true_beq, Bool.false_beq, Bool.and_true, Bool.true_and, Bool.and_false, Bool.false_and, Bool.or_true, Bool.true_or, Bool.or_false, Bool.false_or, wipeE]
    | false => simp (disch := omega) only [evE, evA, evs, evs', evI, evsP, exS, bind_ok, bind_ex, bind_bad, so_ok, so_ex, so_bad, then_nx, then_rt, then_bk, then_ex, then_bad, lift_some, lift_none, soE_some', soE_none, noEx_ok, p_nm, p_tup, p_lst, pN_nil, pN_cons, p_frz, p_fls, p_int, p_bl, p_non, p_tupm, p_lstm, f_int, f_bl, f_str, f_non, f_tup, f_lst, f_fls, f_box, f_scr, u_int, u_bl, u_str, u_non, u_tup, u_lst, u_fls, t_bl, t_non, t_int, t_tup, t_lst, t_mls, t_fls, bd_int, bk_fls, bk_flsb, bk_int, bk_bl, bk_non, bk_str, bk_tup, bk_lst, bk_box, back_rt, back_nx, back_ex, idx_int, ix_tup, ix_lst, ix_mls, ix_fls, ix_box, sl_tup, sl_lst, sl_mls, sl_fls, sl_scr, b_add, b_sub, c_lt, c_le, c_gt, c_ge, c_eq, c_ne, c_eqB, c_neB, c_isN, c_notN, i_int, i_intB, i_abs, i_max, i_min, l_lst, l_tup, l_mls, l_fls, li_lst, li_tup, li_fls, tu_lst, tu_tup, tu_fls, tu_mls, su_2, frzM, getM, isS, subM, isNil, isNon, Gb.start, Option.bind_some, Option.bind_none, Option.map_some, Option.map_none, id_eq, List.getElem?_cons_zero, List.getElem?_cons_succ, List.getElem?_nil, List.set_cons_zero, List.set_cons_succ, List.map_cons, List.map_nil, List.length_cons, List.length_nil, List.cons_append, List.nil_append, List.replicate_succ, List.replicate_zero, Nat.reduceSub, Nat.reduceAdd, Nat.zero_add, Nat.reduceLT, if_true, if_false, reduceIte, Bool.false_eq_true, Bool.not_true, Bool.not_false, Bool.not_not, decide_true, decide_false, decide_not, is0_non, is0_bl, is0_int, is0_str, is0_tup, is0_lst, is0_mls, is0_fls, is1_non, is1_bl, is1_int, is1_str, is1_tup, is1_lst, is1_mls, is1_fls, is2_non, is2_bl, is2_int, is2_str, is2_tup, is2_lst, is2_mls, is2_fls, is3_non, is3_bl, is3_int, is3_str, is3_tup, is3_lst, is3_mls, is3_fls, is4_non, is4_bl, is4_int, is4_str, is4_tup, is4_lst, is4_mls, is4_fls, is5_non, is5_bl, is5_int, is5_str, is5_tup, is5_lst, is5_mls, is5_fls, is6_non, is6_bl, is6_int, is6_str, is6_tup, is6_lst, is6_mls, is6_fls, is7_non, is7_bl, is7_int, is7_str, is7_tup, is7_lst, is7_mls, is7_fls, beq_self_eq_true, Bool.true_beq, Bool.false_beq, Bool.and_true, Bool.true_and, Bool.and_false, Bool.false_and, Bool.or_true, Bool.true_or, Bool.or_false, Bool.false_or, wipeE]
  · simp (disch := omega) only [f130_law_is, evE, evA, evs, evs', evI, evsP, exS, bind_ok, bind_ex, bind_bad, so_ok, so_ex, so_bad, then_nx, then_rt, then_bk, then_ex, then_bad, lift_some, lift_none, soE_some', soE_none, noEx_ok, p_nm, p_tup, p_lst, pN_nil, pN_cons, p_frz, p_fls, p_int, p_bl, p_non, p_tupm, p_lstm, f_int, f_bl, f_str, f_non, f_tup, f_lst, f_fls, f_box, f_scr, u_int, u_bl, u_str, u_non, u_tup, u_lst, u_fls, t_bl, t_non, t_int, t_tup, t_lst, t_mls, t_fls, bd_int, bk_fls, bk_flsb, bk_int, bk_bl, bk_non, bk_str, bk_tup, bk_lst, bk_box, back_rt, back_nx, back_ex, idx_int, ix_tup, ix_lst, ix_mls, ix_fls, ix_box, sl_tup, sl_lst, sl_mls, sl_fls, sl_scr, b_add, b_sub, c_lt, c_le, c_gt, c_ge, c_eq, c_ne, c_eqB, c_neB, c_isN, c_notN, i_int, i_intB, i_abs, i_max, i_min, l_lst, l_tup, l_mls, l_fls, li_lst, li_tup, li_fls, tu_lst, tu_tup, tu_fls, tu_mls, su_2, frzM, getM, isS, subM, isNil, isNon, Gb.start, Option.bind_some, Option.bind_none, Option.map_some, Option.map_none, id_eq, List.getElem?_cons_zero, List.getElem?_cons_succ, List.getElem?_nil, List.set_cons_zero, List.set_cons_succ, List.map_cons, List.map_nil, List.length_cons, List.length_nil, List.cons_append, List.nil_append, List.replicate_succ, List.replicate_zero, Nat.reduceSub, Nat.reduceAdd, Nat.zero_add, Nat.reduceLT, if_true, if_false, reduceIte, Bool.false_eq_true, Bool.not_true, Bool.not_false, Bool.not_not, decide_true, decide_false, decide_not, is0_non, is0_bl, is0_int, is0_str, is0_tup, is0_lst, is0_mls, is0_fls, is1_non, is1_bl, is1_int, is1_str, is1_tup, is1_lst, is1_mls, is1_fls, is2_non, is2_bl, is2_int, is2_str, is2_tup, is2_lst, is2_mls, is2_fls, is3_non, is3_bl, is3_int, is3_str, is3_tup, is3_lst, is3_mls, is3_fls, is4_non, is4_bl, is4_int, is4_str, is4_tup, is4_lst, is4_mls, is4_fls, is5_non, is5_bl, is5_int, is5_str, is5_tup, is5_lst, is5_mls, is5_fls, is6_non, is6_bl, is6_int, is6_str, is6_tup, is6_lst, is6_mls, is6_fls, is7_non, is7_bl, is7_int, is7_str, is7_tup, is7_lst, is7_mls, is7_fls, beq_self_eq_true, Bool.true_beq, Bool.false_beq, Bool.and_true, Bool.true_and, Bool.and_false, Bool.false_and, Bool.or_true, Bool.true_or, Bool.or_false, Bool.false_or, wipeE]
  · cases M with
    | nil => simp (disch := omega) only [f130_law_is, evE, evA, evs, evs', evI, evsP, exS, bind_ok, bind_ex, bind_bad, so_ok, so_ex, so_bad, then_nx, then_rt, then_bk, then_ex, then_bad, lift_some, lift_none, soE_some', soE_none, noEx_ok, p_nm, p_tup, p_lst, pN_nil, pN_cons, p_frz, p_fls, p_int, p_bl, p_non, p_tupm, p_lstm, f_int, f_bl, f_str, f_non, f_tup, f_lst, f_fls, f_box, f_scr, u_int, u_bl, u_str, u_non, u_tup, u_lst, u_fls, t_bl, t_non, t_int, t_tup, t_lst, t_mls, t_fls, bd_int, bk_fls, bk_flsb, bk_int, bk_bl, bk_non, bk_str, bk_tup, bk_lst, bk_box, back_rt, back_nx, back_ex, idx_int, ix_tup, ix_lst, ix_mls, ix_fls, ix_box, sl_tup, sl_lst, sl_mls, sl_fls, sl_scr, b_add, b_sub, c_lt, c_le, c_gt, c_ge, c_eq, c_ne, c_eqB, c_neB, c_isN, c_notN, i_int, i_intB, i_abs, i_max, i_min, l_lst, l_tup, l_mls, l_fls, li_lst, li_tup, li_fls, tu_lst, tu_tup, tu_fls, tu_mls, su_2, frzM, getM, isS, subM, isNil, isNon, Gb.start, Option.bind_some, Option.bind_none, Option.map_some, Option.map_none, id_eq, List.getElem?_cons_zero, List.getElem?_cons_succ, List.getElem?_nil, List.set_cons_zero, List.set_cons_succ, List.map_cons, List.map_nil, List.length_cons, List.length_nil, List.cons_append, List.nil_append, List.replicate_succ, List.replicate_zero, Nat.reduceSub, Nat.reduceAdd, Nat.zero_add, Nat.reduceLT, if_true, if_false, reduceIte, Bool.false_eq_true, Bool.not_true, Bool.not_false, Bool.not_not, decide_true, decide_false, decide_not, is0_non, is0_bl, is0_int, is0_str, is0_tup, is0_lst, is0_mls, is0_fls, is1_non, is1_bl, is1_int, is1_str, is1_tup, is1_lst, is1_mls, is1_fls, is2_non, is2_bl, is2_int, is2_str, is2_tup, is2_lst, is2_mls, is2_fls, is3_non, is3_bl, is3_int, is3_str, is3_tup, is3_lst, is3_mls, is3_fls, is4_non, is4_bl, is4_int, is4_str, is4_tup, is4_lst, is4_mls, is4_fls, is5_non, is5_bl, is5_int, is5_str, is5_tup, is5_lst, is5_mls, is5_fls, is6_non, is6_bl, is6_int, is6_str, is6_tup, is6_lst, is6_mls, is6_fls, is7_non, is7_bl, is7_int, is7_str, is7_tup, is7_lst, is7_mls, is7_fls, beq_self_eq_true, Bool.true_beq, Bool.false_beq, Bool.and_true, Bool.true_and, Bool.and_false, Bool.false_and, Bool.or_true, Bool.true_or, Bool.or_false, Bool.false_or, wipeE, show encQ [] = [] from rfl, forL_n, List.isEmpty_nil]
    | cons c M => simp (disch := omega) only [f130_law_is, evE, evA, evs, evs', evI, evsP, exS, bind_ok, bind_ex, bind_bad, so_ok, so_ex, so_bad, then_nx, then_rt, then_bk, then_ex, then_bad, lift_some, lift_none, soE_some', soE_none, noEx_ok, p_nm, p_tup, p_lst, pN_nil, pN_cons, p_frz, p_fls, p_int, p_bl, p_non, p_tupm, p_lstm, f_int, f_bl, f_str, f_non, f_tup, f_lst, f_fls, f_box, f_scr, u_int, u_bl, u_str, u_non, u_tup, u_lst, u_fls, t_bl, t_non, t_int, t_tup, t_lst, t_mls, t_fls, bd_int, bk_fls, bk_flsb, bk_int, bk_bl, bk_non, bk_str, bk_tup, bk_lst, bk_box, back_rt, back_nx, back_ex, idx_int, ix_tup, ix_lst, ix_mls, ix_fls, ix_box, sl_tup, sl_lst, sl_mls, sl_fls, sl_scr, b_add, b_sub, c_lt, c_le, c_gt, c_ge, c_eq, c_ne, c_eqB, c_neB, c_isN, c_notN, i_int, i_intB, i_abs, i_max, i_min, l_lst, l_tup, l_mls, l_fls, li_lst, li_tup, li_fls, tu_lst, tu_tup, tu_fls, tu_mls, su_2, frzM, getM, isS, subM, isNil, isNon, Gb.start, Option.bind_some, Option.bind_none, Option.map_some, Option.map_none, id_eq, List.getElem?_cons_zero, List.getElem?_cons_succ, List.getElem?_nil, List.set_cons_zero, List.set_cons_succ, List.map_cons, List.map_nil, List.length_cons, List.length_nil, List.cons_append, List.nil_append, List.replicate_succ, List.replicate_zero, Nat.reduceSub, Nat.reduceAdd, Nat.zero_add, Nat.reduceLT, if_true, if_false, reduceIte, Bool.false_eq_true, Bool.not_true, Bool.not_false, Bool.not_not, decide_true, decide_false, decide_not, is0_non, is0_bl, is0_int, is0_str, is0_tup, is0_lst, is0_mls, is0_fls, is1_non, is1_bl, is1_int, is1_str, is1_tup, is1_lst, is1_mls, is1_fls, is2_non, is2_bl, is2_int, is2_str, is2_tup, is2_lst, is2_mls, is2_fls, is3_non, is3_bl, is3_int, is3_str, is3_tup, is3_lst, is3_mls, is3_fls, is4_non, is4_bl, is4_int, is4_str, is4_tup, is4_lst, is4_mls, is4_fls, is5_non, is5_bl, is5_int, is5_str, is5_tup, is5_lst, is5_mls, is5_fls, is6_non, is6_bl, is6_int, is6_str, is6_tup, is6_lst, is6_mls, is6_fls, is7_non, is7_bl, is7_int, is7_str, is7_tup, is7_lst, is7_mls, is7_fls, beq_self_eq_true, Bool.true_beq, Bool.false_beq, Bool.and_true, Bool.true_and, Bool.and_false, Bool.false_and, Bool.or_true, Bool.true_or, Bool.or_false, Bool.false_or, wipeE, show encQ (c :: M) = encCl c :: encQ M from rfl, encCl, forL_c, loop_rt, List.isEmpty_cons]
end
def hmG (L : Prs) : D → D
  | .int z => .int ((holeP 0 L).map (mxS z)).sum
  | d => d
def hml (L : Prs) : List Int := (fromTo 1 9).map fun z => ((holeP 0 L).map (mxS z)).sum
theorem hmG_map (L : Prs) : ((fromTo 1 9).map D.int).map (hmG L) = (hml L).map .int := by
  unfold hml
  rw [List.map_map, List.map_map]
  rfl
theorem list_at {M : Prs} {u : Nat} (h : u < M.length) : L2.atI (encP M) (u : Nat) = some (encC M[u]) := by
  rw [at_nat (by rw [encP_len]; exact h)]
  unfold encP
  rw [List.getElem_map]
theorem i_min2 {i j : Int} : biD .min2 [.int i, .int j] = some (.int (if j < i then j else i)) := rfl
theorem case_ok {k : Nat} : CaseOk FT turns (k + 8) 297 20 := by
  intro st j m hT hm
  have hn : 500000 < turns := by decide
  generalize turns = n at hn ⊢
  obtain ⟨L, st1, e1, hS, l1, b1, T1⟩ := posts_ok (FT := FT) (n := n) (K := k + 7) rfl rfl hT (by omega) (most := 5) (gap := 6) (by omega) (by omega) (by omega) (by omega)
  rw [show ((5 : Nat) : Int) = 5 from rfl] at e1
  have hE0 := Srt.endP_le hS
  obtain ⟨E, hE⟩ : ∃ E : Nat, endP 0 L = (E : Int) := ⟨(endP 0 L).toNat, by omega⟩
  have hE2 : E < 1000 := by omega
  have hLl := encP_len L
  have w1 := fun st => endof_ok (FT := FT) (n := n) (K := k + 7) (st := st) (L := L) (d := .tup (encP L)) rfl (.inl rfl) (by omega)
  have w2 := fun st => holes_ok (FT := FT) (n := n) (K := k + 7) (st := st) (L := L) (d := .tup (encP L)) rfl (.inl rfl) (by omega) (by omega)
  have w3 := fun st => holes_ok (FT := FT) (n := n) (K := k + 7) (st := st) (L := L) (d := .lst (encQ L)) rfl (.inr (.inr rfl)) (by omega) (by omega)
  have w4 := fun st => lisP_ok (FT := FT) (n := n) (K := k + 7) (st := st) (L := L) rfl (by omega) (by omega)
  have w5 := fun st => border_ok (FT := FT) (n := n) (K := k + 7) (st := st) (L := L) rfl (by omega)
  have w6 := fun st => lholes_ok (n := n) (K := k + 7) (st := st) (L := L) hS hE (by omega) (by omega)
  have w7 := fun st => stays_ok (n := n) (K := k + 7) (st := st) (d := .tup (encP L)) (b := true) (.inl ⟨L, rfl, (isP_srt hS).symm⟩) (by omega)
  have m1 := fun st (z : Int) => many_ok (n := n) (K := k + 7) (st := st) (L := L) (d := .tup (encP L)) (size := z) (.inl rfl) (by omega) (by omega)
  have m2 := fun st (z : Nat) (h1 : 1 ≤ z) (h2 : z ≤ 100) => spots_ok (n := n) (K := k + 7) (st := st) (L := L) hS hE (by omega) (size := z) h1 (by omega) (by omega)
  have hHl := holeP_len L 0
  have hml_l : (hml L).length = 8 := by unfold hml; rw [List.length_map, ft_len]; rfl
  rw [callN, show FT 297 = some f297_law_case_right from rfl]
  simp (disch := first | omega | (simp only [List.length_append, List.length_map, List.length_take, List.length_drop, List.length_cons, List.length_nil, List.length_range, List.length_replicate, List.length_set, List.length_zipWith, List.length_reverse]; omega)) only [f297_law_case_right, evE, evA, evs, evs', evI, evsP, exS, bind_ok, bind_ex, bind_bad, so_ok, so_ex, so_bad, then_nx, then_rt, then_bk, then_ex, then_bad, lift_some, lift_none, soE_some', soE_none, noEx_ok, p_nm, p_tup, p_lst, pN_nil, pN_cons, p_frz, p_fls, p_int, p_bl, p_non, p_tupm, p_lstm, f_int, f_bl, f_str, f_non, f_tup, f_lst, f_fls, f_box, f_scr, u_int, u_bl, u_str, u_non, u_tup, u_lst, u_fls, t_bl, t_non, t_int, t_tup, t_lst, t_mls, t_fls, bd_int, bk_fls, bk_flsb, bk_int, bk_bl, bk_non, bk_str, bk_tup, bk_lst, bk_box, back_rt, back_nx, back_ex, idx_int, ix_tup, ix_lst, ix_mls, ix_fls, ix_box, sl_tup, sl_lst, sl_mls, sl_fls, sl_scr, b_add, b_sub, c_lt, c_le, c_gt, c_ge, c_eq, c_ne, c_eqB, c_neB, c_isN, c_notN, i_int, i_intB, i_abs, i_max, i_min, l_lst, l_tup, l_mls, l_fls, li_lst, li_tup, li_fls, tu_lst, tu_tup, tu_fls, tu_mls, su_2, frzM, getM, isS, subM, isNil, isNon, Gb.start, Option.bind_some, Option.bind_none, Option.map_some, Option.map_none, id_eq, List.getElem?_cons_zero, List.getElem?_cons_succ, List.getElem?_nil, List.set_cons_zero, List.set_cons_succ, List.map_cons, List.map_nil, List.length_cons, List.length_nil, List.cons_append, List.nil_append, List.replicate_succ, List.replicate_zero, Nat.reduceSub, Nat.reduceAdd, Nat.zero_add, Nat.reduceLT, if_true, if_false, reduceIte, Bool.false_eq_true, Bool.not_true, Bool.not_false, Bool.not_not, decide_true, decide_false, decide_not, is0_non, is0_bl, is0_int, is0_str, is0_tup, is0_lst, is0_mls, is0_fls, is1_non, is1_bl, is1_int, is1_str, is1_tup, is1_lst, is1_mls, is1_fls, is2_non, is2_bl, is2_int, is2_str, is2_tup, is2_lst, is2_mls, is2_fls, is3_non, is3_bl, is3_int, is3_str, is3_tup, is3_lst, is3_mls, is3_fls, is4_non, is4_bl, is4_int, is4_str, is4_tup, is4_lst, is4_mls, is4_fls, is5_non, is5_bl, is5_int, is5_str, is5_tup, is5_lst, is5_mls, is5_fls, is6_non, is6_bl, is6_int, is6_str, is6_tup, is6_lst, is6_mls, is6_fls, is7_non, is7_bl, is7_int, is7_str, is7_tup, is7_lst, is7_mls, is7_fls, beq_self_eq_true, Bool.true_beq, Bool.false_beq, Bool.and_true, Bool.true_and, Bool.and_false, Bool.false_and, Bool.or_true, Bool.true_or, Bool.or_false, Bool.false_or, wipeE, e1, w1, w2, w3, w4, if_sz, rngOk_t, rng_ft]
  rw [compL_map (g := hmG L) _ _ (fun d hd => ?_) (by rw [List.length_map, ft_len]; exact sz (by decide)), List.nil_append, hmG_map]
  · simp (disch := first | omega | (simp only [List.length_append, List.length_map, List.length_take, List.length_drop, List.length_cons, List.length_nil, List.length_range, List.length_replicate, List.length_set, List.length_zipWith, List.length_reverse]; omega)) only [evE, evA, evs, evs', evI, evsP, exS, bind_ok, bind_ex, bind_bad, so_ok, so_ex, so_bad, then_nx, then_rt, then_bk, then_ex, then_bad, lift_some, lift_none, soE_some', soE_none, noEx_ok, p_nm, p_tup, p_lst, pN_nil, pN_cons, p_frz, p_fls, p_int, p_bl, p_non, p_tupm, p_lstm, f_int, f_bl, f_str, f_non, f_tup, f_lst, f_fls, f_box, f_scr, u_int, u_bl, u_str, u_non, u_tup, u_lst, u_fls, t_bl, t_non, t_int, t_tup, t_lst, t_mls, t_fls, bd_int, bk_fls, bk_flsb, bk_int, bk_bl, bk_non, bk_str, bk_tup, bk_lst, bk_box, back_rt, back_nx, back_ex, idx_int, ix_tup, ix_lst, ix_mls, ix_fls, ix_box, sl_tup, sl_lst, sl_mls, sl_fls, sl_scr, b_add, b_sub, c_lt, c_le, c_gt, c_ge, c_eq, c_ne, c_eqB, c_neB, c_isN, c_notN, i_int, i_intB, i_abs, i_max, i_min, l_lst, l_tup, l_mls, l_fls, li_lst, li_tup, li_fls, tu_lst, tu_tup, tu_fls, tu_mls, su_2, frzM, getM, isS, subM, isNil, isNon, Gb.start, Option.bind_some, Option.bind_none, Option.map_some, Option.map_none, id_eq, List.getElem?_cons_zero, List.getElem?_cons_succ, List.getElem?_nil, List.set_cons_zero, List.set_cons_succ, List.map_cons, List.map_nil, List.length_cons, List.length_nil, List.cons_append, List.nil_append, List.replicate_succ, List.replicate_zero, Nat.reduceSub, Nat.reduceAdd, Nat.zero_add, Nat.reduceLT, if_true, if_false, reduceIte, Bool.false_eq_true, Bool.not_true, Bool.not_false, Bool.not_not, decide_true, decide_false, decide_not, is0_non, is0_bl, is0_int, is0_str, is0_tup, is0_lst, is0_mls, is0_fls, is1_non, is1_bl, is1_int, is1_str, is1_tup, is1_lst, is1_mls, is1_fls, is2_non, is2_bl, is2_int, is2_str, is2_tup, is2_lst, is2_mls, is2_fls, is3_non, is3_bl, is3_int, is3_str, is3_tup, is3_lst, is3_mls, is3_fls, is4_non, is4_bl, is4_int, is4_str, is4_tup, is4_lst, is4_mls, is4_fls, is5_non, is5_bl, is5_int, is5_str, is5_tup, is5_lst, is5_mls, is5_fls, is6_non, is6_bl, is6_int, is6_str, is6_tup, is6_lst, is6_mls, is6_fls, is7_non, is7_bl, is7_int, is7_str, is7_tup, is7_lst, is7_mls, is7_fls, beq_self_eq_true, Bool.true_beq, Bool.false_beq, Bool.and_true, Bool.true_and, Bool.and_false, Bool.false_and, Bool.or_true, Bool.true_or, Bool.or_false, Bool.false_or, wipeE, w5, w6, w7, if_sz, rngOk_t, rng_ft, b_clf]
    rw [compL_map (g := hmG L) _ _ (fun d hd => ?_) (by rw [List.length_map, ft_len]; exact sz (by decide)), List.nil_append, hmG_map]
    · have z1 := same_at (FT := FT) (n := n) (K := k + 7) (st := st1) rfl (j := 3) (d := .lst [.int (endP 0 L), .tup (encP (holeP 0 L)), .tup (encP (holeP 0 L)), .lst ((hml L).map .int), .bl true]) (by
        show ((true && (plD 2 _ && (plD 2 _ && (plD 2 _ && (true && true))))) && decide (5 ≤ 10000)) = true
        rw [plP (by omega), plD_up (pl_ints (by omega)).2]; rfl) (by omega)
      simp (disch := first | omega | (simp only [List.length_append, List.length_map, List.length_take, List.length_drop, List.length_cons, List.length_nil, List.length_range, List.length_replicate, List.length_set, List.length_zipWith, List.length_reverse]; omega)) only [evE, evA, evs, evs', evI, evsP, exS, bind_ok, bind_ex, bind_bad, so_ok, so_ex, so_bad, then_nx, then_rt, then_bk, then_ex, then_bad, lift_some, lift_none, soE_some', soE_none, noEx_ok, p_nm, p_tup, p_lst, pN_nil, pN_cons, p_frz, p_fls, p_int, p_bl, p_non, p_tupm, p_lstm, f_int, f_bl, f_str, f_non, f_tup, f_lst, f_fls, f_box, f_scr, u_int, u_bl, u_str, u_non, u_tup, u_lst, u_fls, t_bl, t_non, t_int, t_tup, t_lst, t_mls, t_fls, bd_int, bk_fls, bk_flsb, bk_int, bk_bl, bk_non, bk_str, bk_tup, bk_lst, bk_box, back_rt, back_nx, back_ex, idx_int, ix_tup, ix_lst, ix_mls, ix_fls, ix_box, sl_tup, sl_lst, sl_mls, sl_fls, sl_scr, b_add, b_sub, c_lt, c_le, c_gt, c_ge, c_eq, c_ne, c_eqB, c_neB, c_isN, c_notN, i_int, i_intB, i_abs, i_max, i_min, l_lst, l_tup, l_mls, l_fls, li_lst, li_tup, li_fls, tu_lst, tu_tup, tu_fls, tu_mls, su_2, frzM, getM, isS, subM, isNil, isNon, Gb.start, Option.bind_some, Option.bind_none, Option.map_some, Option.map_none, id_eq, List.getElem?_cons_zero, List.getElem?_cons_succ, List.getElem?_nil, List.set_cons_zero, List.set_cons_succ, List.map_cons, List.map_nil, List.length_cons, List.length_nil, List.cons_append, List.nil_append, List.replicate_succ, List.replicate_zero, Nat.reduceSub, Nat.reduceAdd, Nat.zero_add, Nat.reduceLT, if_true, if_false, reduceIte, Bool.false_eq_true, Bool.not_true, Bool.not_false, Bool.not_not, decide_true, decide_false, decide_not, is0_non, is0_bl, is0_int, is0_str, is0_tup, is0_lst, is0_mls, is0_fls, is1_non, is1_bl, is1_int, is1_str, is1_tup, is1_lst, is1_mls, is1_fls, is2_non, is2_bl, is2_int, is2_str, is2_tup, is2_lst, is2_mls, is2_fls, is3_non, is3_bl, is3_int, is3_str, is3_tup, is3_lst, is3_mls, is3_fls, is4_non, is4_bl, is4_int, is4_str, is4_tup, is4_lst, is4_mls, is4_fls, is5_non, is5_bl, is5_int, is5_str, is5_tup, is5_lst, is5_mls, is5_fls, is6_non, is6_bl, is6_int, is6_str, is6_tup, is6_lst, is6_mls, is6_fls, is7_non, is7_bl, is7_int, is7_str, is7_tup, is7_lst, is7_mls, is7_fls, beq_self_eq_true, Bool.true_beq, Bool.false_beq, Bool.and_true, Bool.true_and, Bool.and_false, Bool.false_and, Bool.or_true, Bool.true_or, Bool.or_false, Bool.false_or, wipeE, if_sz, b_clf, b_cff, z1]
      simp (disch := first | omega | (simp only [List.length_append, List.length_map, List.length_take, List.length_drop, List.length_cons, List.length_nil, List.length_range, List.length_replicate, List.length_set, List.length_zipWith, List.length_reverse]; omega)) only [evE, evA, evs, evs', evI, evsP, exS, bind_ok, bind_ex, bind_bad, so_ok, so_ex, so_bad, then_nx, then_rt, then_bk, then_ex, then_bad, lift_some, lift_none, soE_some', soE_none, noEx_ok, p_nm, p_tup, p_lst, pN_nil, pN_cons, p_frz, p_fls, p_int, p_bl, p_non, p_tupm, p_lstm, f_int, f_bl, f_str, f_non, f_tup, f_lst, f_fls, f_box, f_scr, u_int, u_bl, u_str, u_non, u_tup, u_lst, u_fls, t_bl, t_non, t_int, t_tup, t_lst, t_mls, t_fls, bd_int, bk_fls, bk_flsb, bk_int, bk_bl, bk_non, bk_str, bk_tup, bk_lst, bk_box, back_rt, back_nx, back_ex, idx_int, ix_tup, ix_lst, ix_mls, ix_fls, ix_box, sl_tup, sl_lst, sl_mls, sl_fls, sl_scr, b_add, b_sub, c_lt, c_le, c_gt, c_ge, c_eq, c_ne, c_eqB, c_neB, c_isN, c_notN, i_int, i_intB, i_abs, i_max, i_min, l_lst, l_tup, l_mls, l_fls, li_lst, li_tup, li_fls, tu_lst, tu_tup, tu_fls, tu_mls, su_2, frzM, getM, isS, subM, isNil, isNon, Gb.start, Option.bind_some, Option.bind_none, Option.map_some, Option.map_none, id_eq, List.getElem?_cons_zero, List.getElem?_cons_succ, List.getElem?_nil, List.set_cons_zero, List.set_cons_succ, List.map_cons, List.map_nil, List.length_cons, List.length_nil, List.cons_append, List.nil_append, List.replicate_succ, List.replicate_zero, Nat.reduceSub, Nat.reduceAdd, Nat.zero_add, Nat.reduceLT, if_true, if_false, reduceIte, Bool.false_eq_true, Bool.not_true, Bool.not_false, Bool.not_not, decide_true, decide_false, decide_not, is0_non, is0_bl, is0_int, is0_str, is0_tup, is0_lst, is0_mls, is0_fls, is1_non, is1_bl, is1_int, is1_str, is1_tup, is1_lst, is1_mls, is1_fls, is2_non, is2_bl, is2_int, is2_str, is2_tup, is2_lst, is2_mls, is2_fls, is3_non, is3_bl, is3_int, is3_str, is3_tup, is3_lst, is3_mls, is3_fls, is4_non, is4_bl, is4_int, is4_str, is4_tup, is4_lst, is4_mls, is4_fls, is5_non, is5_bl, is5_int, is5_str, is5_tup, is5_lst, is5_mls, is5_fls, is6_non, is6_bl, is6_int, is6_str, is6_tup, is6_lst, is6_mls, is6_fls, is7_non, is7_bl, is7_int, is7_str, is7_tup, is7_lst, is7_mls, is7_fls, beq_self_eq_true, Bool.true_beq, Bool.false_beq, Bool.and_true, Bool.true_and, Bool.and_false, Bool.false_and, Bool.or_true, Bool.true_or, Bool.or_false, Bool.false_or, wipeE, rngOk_t]
      generalize hlp : (if (((encP L).length : Nat) : Int) < 2 then (((encP L).length : Nat) : Int) else 2) = lp
      have hlp2 : 0 ≤ lp ∧ lp ≤ 2 ∧ (0 < lp → 0 < L.length) := by
        subst hlp
        rw [hLl]
        split <;> omega
      generalize hr : forL _ _ _ _ = w
      let P : List D → Env → Store → Prop := fun ds ρ st' => ∃ (i : Nat) (M : Prs) (a2 a4 a5 a6 a7 a8 : Option D), i + ds.length = lp.toNat ∧ M.length = L.length ∧ ρ = [some (.box j), some (.tup (encP L)), a2, some (.mls (encP M)), a4, a5, a6, a7, a8] ∧ Tin st' j (m + 11 + 3 * i) ∧ ∀ d ∈ ds, ∃ z : Int, d = .int z
      obtain ⟨ρ', st', rfl, i, M, a2, a4, a5, a6, a7, a8, hi, hML, rfl, T, _⟩ : ∃ ρ' st', w = .nx ρ' st' ∧ P [] ρ' st' := by
        rw [← hr]
        refine forL_run P ?_ _ _ _ ?_
        · rintro d ds ρ st' ⟨i, M, a2, a4, a5, a6, a7, a8, hi, hML, rfl, T, hd⟩
          obtain ⟨y, rfl⟩ := hd d List.mem_cons_self
          rw [List.length_cons] at hi
          have hM := encP_len M
          obtain ⟨u, st2, t2, u0, u1, T2⟩ := take_ok (FT := FT) (n := n) (K := k + 7) rfl T (by omega) (top := ((M.length : Nat) : Int)) (by omega) (by omega) (by omega)
          obtain ⟨U, rfl⟩ : ∃ U : Nat, u = (U : Int) := ⟨u.toNat, by omega⟩
          have hU : U < M.length := by omega
          obtain ⟨v, st3, t3, v0, v1, T3⟩ := take_ok (FT := FT) (n := n) (K := k + 7) rfl T2 (by omega) (top := 7) (by omega) (by omega) (by omega)
          obtain ⟨x, st4, t4, x0, x1, T4⟩ := take_ok (FT := FT) (n := n) (K := k + 7) rfl T3 (by omega) (top := 5) (by omega) (by omega) (by omega)
          have ga := list_at hU
          have ix : L2.ixN (encP M).length (U : Nat) = some U := ix_nat (by rw [hM]; exact hU)
          have gl : biD .len [.mls (encP M)] = some (.int ((M.length : Nat) : Int)) := by rw [← hM]; rfl
          obtain ⟨c1, c2, hc⟩ : ∃ c1 c2, M[U] = (c1, c2) := ⟨_, _, rfl⟩
          rw [hc] at ga
          simp (disch := first | omega | (simp only [List.length_append, List.length_map, List.length_take, List.length_drop, List.length_cons, List.length_nil, List.length_range, List.length_replicate, List.length_set, List.length_zipWith, List.length_reverse]; omega)) only [evE, evA, evs, evs', evI, evsP, exS, bind_ok, bind_ex, bind_bad, so_ok, so_ex, so_bad, then_nx, then_rt, then_bk, then_ex, then_bad, lift_some, lift_none, soE_some', soE_none, noEx_ok, p_nm, p_tup, p_lst, pN_nil, pN_cons, p_frz, p_fls, p_int, p_bl, p_non, p_tupm, p_lstm, f_int, f_bl, f_str, f_non, f_tup, f_lst, f_fls, f_box, f_scr, u_int, u_bl, u_str, u_non, u_tup, u_lst, u_fls, t_bl, t_non, t_int, t_tup, t_lst, t_mls, t_fls, bd_int, bk_fls, bk_flsb, bk_int, bk_bl, bk_non, bk_str, bk_tup, bk_lst, bk_box, back_rt, back_nx, back_ex, idx_int, ix_tup, ix_lst, ix_mls, ix_fls, ix_box, sl_tup, sl_lst, sl_mls, sl_fls, sl_scr, b_add, b_sub, c_lt, c_le, c_gt, c_ge, c_eq, c_ne, c_eqB, c_neB, c_isN, c_notN, i_int, i_intB, i_abs, i_max, i_min, l_lst, l_tup, l_mls, l_fls, li_lst, li_tup, li_fls, tu_lst, tu_tup, tu_fls, tu_mls, su_2, frzM, getM, isS, subM, isNil, isNon, Gb.start, Option.bind_some, Option.bind_none, Option.map_some, Option.map_none, id_eq, List.getElem?_cons_zero, List.getElem?_cons_succ, List.getElem?_nil, List.set_cons_zero, List.set_cons_succ, List.map_cons, List.map_nil, List.length_cons, List.length_nil, List.cons_append, List.nil_append, List.replicate_succ, List.replicate_zero, Nat.reduceSub, Nat.reduceAdd, Nat.zero_add, Nat.reduceLT, if_true, if_false, reduceIte, Bool.false_eq_true, Bool.not_true, Bool.not_false, Bool.not_not, decide_true, decide_false, decide_not, is0_non, is0_bl, is0_int, is0_str, is0_tup, is0_lst, is0_mls, is0_fls, is1_non, is1_bl, is1_int, is1_str, is1_tup, is1_lst, is1_mls, is1_fls, is2_non, is2_bl, is2_int, is2_str, is2_tup, is2_lst, is2_mls, is2_fls, is3_non, is3_bl, is3_int, is3_str, is3_tup, is3_lst, is3_mls, is3_fls, is4_non, is4_bl, is4_int, is4_str, is4_tup, is4_lst, is4_mls, is4_fls, is5_non, is5_bl, is5_int, is5_str, is5_tup, is5_lst, is5_mls, is5_fls, is6_non, is6_bl, is6_int, is6_str, is6_tup, is6_lst, is6_mls, is6_fls, is7_non, is7_bl, is7_int, is7_str, is7_tup, is7_lst, is7_mls, is7_fls, beq_self_eq_true, Bool.true_beq, Bool.false_beq, Bool.and_true, Bool.true_and, Bool.and_false, Bool.false_and, Bool.or_true, Bool.true_or, Bool.or_false, Bool.false_or, wipeE, gl, t2, t3, t4, ga, encC, at2_0', at2_1', ix, if_sz]
          refine ⟨_, _, rfl, i + 1, M.set U (c1 + v - 3, c2 + x - 2), a2, some (.int y), a5, some (.int (U : Nat)), a7, a8, by omega, by rw [List.length_set]; exact hML, ?_, T4.weak (by omega), fun d h => hd d (List.mem_cons_of_mem _ h)⟩
          unfold encP
          rw [List.map_set]
          rfl
        · exact ⟨0, L, _, _, _, _, _, _, by rw [List.length_map, ft_len]; omega, rfl, rfl, T1.weak (by omega), fun d hd => by obtain ⟨z, _, e⟩ := List.mem_map.mp hd; exact ⟨z, e.symm⟩⟩
      have hM := encP_len M
      have hr1 : (encP L).reverse = encP L.reverse := by unfold encP; rw [List.map_reverse]
      have hr2 : encP L ++ encP L = encP (L ++ L) := (encP_app L L).symm
      simp (disch := first | omega | (simp only [List.length_append, List.length_map, List.length_take, List.length_drop, List.length_cons, List.length_nil, List.length_range, List.length_replicate, List.length_set, List.length_zipWith, List.length_reverse]; omega)) only [evE, evA, evs, evs', evI, evsP, exS, bind_ok, bind_ex, bind_bad, so_ok, so_ex, so_bad, then_nx, then_rt, then_bk, then_ex, then_bad, lift_some, lift_none, soE_some', soE_none, noEx_ok, p_nm, p_tup, p_lst, pN_nil, pN_cons, p_frz, p_fls, p_int, p_bl, p_non, p_tupm, p_lstm, f_int, f_bl, f_str, f_non, f_tup, f_lst, f_fls, f_box, f_scr, u_int, u_bl, u_str, u_non, u_tup, u_lst, u_fls, t_bl, t_non, t_int, t_tup, t_lst, t_mls, t_fls, bd_int, bk_fls, bk_flsb, bk_int, bk_bl, bk_non, bk_str, bk_tup, bk_lst, bk_box, back_rt, back_nx, back_ex, idx_int, ix_tup, ix_lst, ix_mls, ix_fls, ix_box, sl_tup, sl_lst, sl_mls, sl_fls, sl_scr, b_add, b_sub, c_lt, c_le, c_gt, c_ge, c_eq, c_ne, c_eqB, c_neB, c_isN, c_notN, i_int, i_intB, i_abs, i_max, i_min, l_lst, l_tup, l_mls, l_fls, li_lst, li_tup, li_fls, tu_lst, tu_tup, tu_fls, tu_mls, su_2, frzM, getM, isS, subM, isNil, isNon, Gb.start, Option.bind_some, Option.bind_none, Option.map_some, Option.map_none, id_eq, List.getElem?_cons_zero, List.getElem?_cons_succ, List.getElem?_nil, List.set_cons_zero, List.set_cons_succ, List.map_cons, List.map_nil, List.length_cons, List.length_nil, List.cons_append, List.nil_append, List.replicate_succ, List.replicate_zero, Nat.reduceSub, Nat.reduceAdd, Nat.zero_add, Nat.reduceLT, if_true, if_false, reduceIte, Bool.false_eq_true, Bool.not_true, Bool.not_false, Bool.not_not, decide_true, decide_false, decide_not, is0_non, is0_bl, is0_int, is0_str, is0_tup, is0_lst, is0_mls, is0_fls, is1_non, is1_bl, is1_int, is1_str, is1_tup, is1_lst, is1_mls, is1_fls, is2_non, is2_bl, is2_int, is2_str, is2_tup, is2_lst, is2_mls, is2_fls, is3_non, is3_bl, is3_int, is3_str, is3_tup, is3_lst, is3_mls, is3_fls, is4_non, is4_bl, is4_int, is4_str, is4_tup, is4_lst, is4_mls, is4_fls, is5_non, is5_bl, is5_int, is5_str, is5_tup, is5_lst, is5_mls, is5_fls, is6_non, is6_bl, is6_int, is6_str, is6_tup, is6_lst, is6_mls, is6_fls, is7_non, is7_bl, is7_int, is7_str, is7_tup, is7_lst, is7_mls, is7_fls, beq_self_eq_true, Bool.true_beq, Bool.false_beq, Bool.and_true, Bool.true_and, Bool.and_false, Bool.false_and, Bool.or_true, Bool.true_or, Bool.or_false, Bool.false_or, wipeE, hr1, b_cT, hr2, if_sz]
      rw [compL_map (g := fun d => match d with | .tup xs => .lst xs | d => d) _ _ (fun d hd => ?_) (by rw [hLl]; exact sz (by simp; omega)), List.nil_append]
      · have hq : (encP L).map (fun d => match d with | D.tup xs => D.lst xs | d => d) = encQ L := by
          unfold encP encQ
          rw [List.map_map]
          rfl
        rw [hq]
        have v1 := fun st => stays_ok (n := n) (K := k + 7) (st := st) (d := .tup (encP M)) (.inl ⟨M, rfl, rfl⟩) (by omega)
        have v2 := fun st => stays_ok (n := n) (K := k + 7) (st := st) (d := .tup (encP L.reverse)) (.inl ⟨_, rfl, rfl⟩) (by omega)
        have v3 := fun st => stays_ok (n := n) (K := k + 7) (st := st) (d := .tup (encP (L ++ L))) (.inl ⟨_, rfl, rfl⟩) (by omega)
        have v4 := fun st => stays_ok (n := n) (K := k + 7) (st := st) (d := .lst (encP L)) (.inr (.inl ⟨_, rfl, rfl⟩)) (by omega)
        have v5 := fun st => stays_ok (n := n) (K := k + 7) (st := st) (d := .tup (encQ L)) (.inr (.inr ⟨L, rfl, rfl⟩)) (by omega)
        have u1 := fun st => lis_ok (n := n) (K := k + 7) (st := st) (d := .tup (encP M)) (.inl ⟨M, rfl, rfl⟩) (by omega)
        have u2 := fun st => lis_ok (n := n) (K := k + 7) (st := st) (d := .tup (encP L.reverse)) (.inl ⟨_, rfl, rfl⟩) (by omega)
        have u3 := fun st => lis_ok (n := n) (K := k + 7) (st := st) (d := .tup (encP (L ++ L))) (.inl ⟨_, rfl, rfl⟩) (by omega)
        have u4 := fun st => lis_ok (n := n) (K := k + 7) (st := st) (d := .lst (encP L)) (.inr (.inl ⟨_, rfl, rfl⟩)) (by omega)
        have u5 := fun st => lis_ok (n := n) (K := k + 7) (st := st) (d := .tup (encQ L)) (.inr (.inr ⟨L, rfl, rfl⟩)) (by omega)
        have z := same_at (FT := FT) (n := n) (K := k + 7) (st := st') rfl (j := 1) (d := .lst [.bl (isP 0 M), .bl (isP 0 L.reverse), .bl (isP 0 (L ++ L)), .bl false, .bl L.isEmpty]) rfl (by omega)
        simp (disch := first | omega | (simp only [List.length_append, List.length_map, List.length_take, List.length_drop, List.length_cons, List.length_nil, List.length_range, List.length_replicate, List.length_set, List.length_zipWith, List.length_reverse]; omega)) only [evE, evA, evs, evs', evI, evsP, exS, bind_ok, bind_ex, bind_bad, so_ok, so_ex, so_bad, then_nx, then_rt, then_bk, then_ex, then_bad, lift_some, lift_none, soE_some', soE_none, noEx_ok, p_nm, p_tup, p_lst, pN_nil, pN_cons, p_frz, p_fls, p_int, p_bl, p_non, p_tupm, p_lstm, f_int, f_bl, f_str, f_non, f_tup, f_lst, f_fls, f_box, f_scr, u_int, u_bl, u_str, u_non, u_tup, u_lst, u_fls, t_bl, t_non, t_int, t_tup, t_lst, t_mls, t_fls, bd_int, bk_fls, bk_flsb, bk_int, bk_bl, bk_non, bk_str, bk_tup, bk_lst, bk_box, back_rt, back_nx, back_ex, idx_int, ix_tup, ix_lst, ix_mls, ix_fls, ix_box, sl_tup, sl_lst, sl_mls, sl_fls, sl_scr, b_add, b_sub, c_lt, c_le, c_gt, c_ge, c_eq, c_ne, c_eqB, c_neB, c_isN, c_notN, i_int, i_intB, i_abs, i_max, i_min, l_lst, l_tup, l_mls, l_fls, li_lst, li_tup, li_fls, tu_lst, tu_tup, tu_fls, tu_mls, su_2, frzM, getM, isS, subM, isNil, isNon, Gb.start, Option.bind_some, Option.bind_none, Option.map_some, Option.map_none, id_eq, List.getElem?_cons_zero, List.getElem?_cons_succ, List.getElem?_nil, List.set_cons_zero, List.set_cons_succ, List.map_cons, List.map_nil, List.length_cons, List.length_nil, List.cons_append, List.nil_append, List.replicate_succ, List.replicate_zero, Nat.reduceSub, Nat.reduceAdd, Nat.zero_add, Nat.reduceLT, if_true, if_false, reduceIte, Bool.false_eq_true, Bool.not_true, Bool.not_false, Bool.not_not, decide_true, decide_false, decide_not, is0_non, is0_bl, is0_int, is0_str, is0_tup, is0_lst, is0_mls, is0_fls, is1_non, is1_bl, is1_int, is1_str, is1_tup, is1_lst, is1_mls, is1_fls, is2_non, is2_bl, is2_int, is2_str, is2_tup, is2_lst, is2_mls, is2_fls, is3_non, is3_bl, is3_int, is3_str, is3_tup, is3_lst, is3_mls, is3_fls, is4_non, is4_bl, is4_int, is4_str, is4_tup, is4_lst, is4_mls, is4_fls, is5_non, is5_bl, is5_int, is5_str, is5_tup, is5_lst, is5_mls, is5_fls, is6_non, is6_bl, is6_int, is6_str, is6_tup, is6_lst, is6_mls, is6_fls, is7_non, is7_bl, is7_int, is7_str, is7_tup, is7_lst, is7_mls, is7_fls, beq_self_eq_true, Bool.true_beq, Bool.false_beq, Bool.and_true, Bool.true_and, Bool.and_false, Bool.false_and, Bool.or_true, Bool.true_or, Bool.or_false, Bool.false_or, wipeE, if_sz, b_clf, compL_c, compL_n, compS_some, v1, v2, v3, v4, v5, u1, u2, u3, u4, u5, z]
        exact ⟨_, rfl, T.weak (by omega)⟩
      · unfold encP at hd
        obtain ⟨c, _, rfl⟩ := List.mem_map.mp hd
        simp (disch := omega) only [evE, evA, evs, evs', evI, evsP, exS, bind_ok, bind_ex, bind_bad, so_ok, so_ex, so_bad, then_nx, then_rt, then_bk, then_ex, then_bad, lift_some, lift_none, soE_some', soE_none, noEx_ok, p_nm, p_tup, p_lst, pN_nil, pN_cons, p_frz, p_fls, p_int, p_bl, p_non, p_tupm, p_lstm, f_int, f_bl, f_str, f_non, f_tup, f_lst, f_fls, f_box, f_scr, u_int, u_bl, u_str, u_non, u_tup, u_lst, u_fls, t_bl, t_non, t_int, t_tup, t_lst, t_mls, t_fls, bd_int, bk_fls, bk_flsb, bk_int, bk_bl, bk_non, bk_str, bk_tup, bk_lst, bk_box, back_rt, back_nx, back_ex, idx_int, ix_tup, ix_lst, ix_mls, ix_fls, ix_box, sl_tup, sl_lst, sl_mls, sl_fls, sl_scr, b_add, b_sub, c_lt, c_le, c_gt, c_ge, c_eq, c_ne, c_eqB, c_neB, c_isN, c_notN, i_int, i_intB, i_abs, i_max, i_min, l_lst, l_tup, l_mls, l_fls, li_lst, li_tup, li_fls, tu_lst, tu_tup, tu_fls, tu_mls, su_2, frzM, getM, isS, subM, isNil, isNon, Gb.start, Option.bind_some, Option.bind_none, Option.map_some, Option.map_none, id_eq, List.getElem?_cons_zero, List.getElem?_cons_succ, List.getElem?_nil, List.set_cons_zero, List.set_cons_succ, List.map_cons, List.map_nil, List.length_cons, List.length_nil, List.cons_append, List.nil_append, List.replicate_succ, List.replicate_zero, Nat.reduceSub, Nat.reduceAdd, Nat.zero_add, Nat.reduceLT, if_true, if_false, reduceIte, Bool.false_eq_true, Bool.not_true, Bool.not_false, Bool.not_not, decide_true, decide_false, decide_not, is0_non, is0_bl, is0_int, is0_str, is0_tup, is0_lst, is0_mls, is0_fls, is1_non, is1_bl, is1_int, is1_str, is1_tup, is1_lst, is1_mls, is1_fls, is2_non, is2_bl, is2_int, is2_str, is2_tup, is2_lst, is2_mls, is2_fls, is3_non, is3_bl, is3_int, is3_str, is3_tup, is3_lst, is3_mls, is3_fls, is4_non, is4_bl, is4_int, is4_str, is4_tup, is4_lst, is4_mls, is4_fls, is5_non, is5_bl, is5_int, is5_str, is5_tup, is5_lst, is5_mls, is5_fls, is6_non, is6_bl, is6_int, is6_str, is6_tup, is6_lst, is6_mls, is6_fls, is7_non, is7_bl, is7_int, is7_str, is7_tup, is7_lst, is7_mls, is7_fls, beq_self_eq_true, Bool.true_beq, Bool.false_beq, Bool.and_true, Bool.true_and, Bool.and_false, Bool.false_and, Bool.or_true, Bool.true_or, Bool.or_false, Bool.false_or, wipeE, encC]
    · obtain ⟨z, hz, rfl⟩ := List.mem_map.mp hd
      have hz := ft_iff.mp hz
      obtain ⟨Z, rfl⟩ : ∃ Z : Nat, z = (Z : Int) := ⟨z.toNat, by omega⟩
      have m2 := fun st => m2 st Z (by omega) (by omega)
      simp (disch := first | omega | (simp only [List.length_append, List.length_map, List.length_take, List.length_drop, List.length_cons, List.length_nil, List.length_range, List.length_replicate, List.length_set, List.length_zipWith, List.length_reverse]; omega)) only [evE, evA, evs, evs', evI, evsP, exS, bind_ok, bind_ex, bind_bad, so_ok, so_ex, so_bad, then_nx, then_rt, then_bk, then_ex, then_bad, lift_some, lift_none, soE_some', soE_none, noEx_ok, p_nm, p_tup, p_lst, pN_nil, pN_cons, p_frz, p_fls, p_int, p_bl, p_non, p_tupm, p_lstm, f_int, f_bl, f_str, f_non, f_tup, f_lst, f_fls, f_box, f_scr, u_int, u_bl, u_str, u_non, u_tup, u_lst, u_fls, t_bl, t_non, t_int, t_tup, t_lst, t_mls, t_fls, bd_int, bk_fls, bk_flsb, bk_int, bk_bl, bk_non, bk_str, bk_tup, bk_lst, bk_box, back_rt, back_nx, back_ex, idx_int, ix_tup, ix_lst, ix_mls, ix_fls, ix_box, sl_tup, sl_lst, sl_mls, sl_fls, sl_scr, b_add, b_sub, c_lt, c_le, c_gt, c_ge, c_eq, c_ne, c_eqB, c_neB, c_isN, c_notN, i_int, i_intB, i_abs, i_max, i_min, l_lst, l_tup, l_mls, l_fls, li_lst, li_tup, li_fls, tu_lst, tu_tup, tu_fls, tu_mls, su_2, frzM, getM, isS, subM, isNil, isNon, Gb.start, Option.bind_some, Option.bind_none, Option.map_some, Option.map_none, id_eq, List.getElem?_cons_zero, List.getElem?_cons_succ, List.getElem?_nil, List.set_cons_zero, List.set_cons_succ, List.map_cons, List.map_nil, List.length_cons, List.length_nil, List.cons_append, List.nil_append, List.replicate_succ, List.replicate_zero, Nat.reduceSub, Nat.reduceAdd, Nat.zero_add, Nat.reduceLT, if_true, if_false, reduceIte, Bool.false_eq_true, Bool.not_true, Bool.not_false, Bool.not_not, decide_true, decide_false, decide_not, is0_non, is0_bl, is0_int, is0_str, is0_tup, is0_lst, is0_mls, is0_fls, is1_non, is1_bl, is1_int, is1_str, is1_tup, is1_lst, is1_mls, is1_fls, is2_non, is2_bl, is2_int, is2_str, is2_tup, is2_lst, is2_mls, is2_fls, is3_non, is3_bl, is3_int, is3_str, is3_tup, is3_lst, is3_mls, is3_fls, is4_non, is4_bl, is4_int, is4_str, is4_tup, is4_lst, is4_mls, is4_fls, is5_non, is5_bl, is5_int, is5_str, is5_tup, is5_lst, is5_mls, is5_fls, is6_non, is6_bl, is6_int, is6_str, is6_tup, is6_lst, is6_mls, is6_fls, is7_non, is7_bl, is7_int, is7_str, is7_tup, is7_lst, is7_mls, is7_fls, beq_self_eq_true, Bool.true_beq, Bool.false_beq, Bool.and_true, Bool.true_and, Bool.and_false, Bool.false_and, Bool.or_true, Bool.true_or, Bool.or_false, Bool.false_or, wipeE, m2, hmG]
  · obtain ⟨z, hz, rfl⟩ := List.mem_map.mp hd
    simp (disch := first | omega | (simp only [List.length_append, List.length_map, List.length_take, List.length_drop, List.length_cons, List.length_nil, List.length_range, List.length_replicate, List.length_set, List.length_zipWith, List.length_reverse]; omega)) only [evE, evA, evs, evs', evI, evsP, exS, bind_ok, bind_ex, bind_bad, so_ok, so_ex, so_bad, then_nx, then_rt, then_bk, then_ex, then_bad, lift_some, lift_none, soE_some', soE_none, noEx_ok, p_nm, p_tup, p_lst, pN_nil, pN_cons, p_frz, p_fls, p_int, p_bl, p_non, p_tupm, p_lstm, f_int, f_bl, f_str, f_non, f_tup, f_lst, f_fls, f_box, f_scr, u_int, u_bl, u_str, u_non, u_tup, u_lst, u_fls, t_bl, t_non, t_int, t_tup, t_lst, t_mls, t_fls, bd_int, bk_fls, bk_flsb, bk_int, bk_bl, bk_non, bk_str, bk_tup, bk_lst, bk_box, back_rt, back_nx, back_ex, idx_int, ix_tup, ix_lst, ix_mls, ix_fls, ix_box, sl_tup, sl_lst, sl_mls, sl_fls, sl_scr, b_add, b_sub, c_lt, c_le, c_gt, c_ge, c_eq, c_ne, c_eqB, c_neB, c_isN, c_notN, i_int, i_intB, i_abs, i_max, i_min, l_lst, l_tup, l_mls, l_fls, li_lst, li_tup, li_fls, tu_lst, tu_tup, tu_fls, tu_mls, su_2, frzM, getM, isS, subM, isNil, isNon, Gb.start, Option.bind_some, Option.bind_none, Option.map_some, Option.map_none, id_eq, List.getElem?_cons_zero, List.getElem?_cons_succ, List.getElem?_nil, List.set_cons_zero, List.set_cons_succ, List.map_cons, List.map_nil, List.length_cons, List.length_nil, List.cons_append, List.nil_append, List.replicate_succ, List.replicate_zero, Nat.reduceSub, Nat.reduceAdd, Nat.zero_add, Nat.reduceLT, if_true, if_false, reduceIte, Bool.false_eq_true, Bool.not_true, Bool.not_false, Bool.not_not, decide_true, decide_false, decide_not, is0_non, is0_bl, is0_int, is0_str, is0_tup, is0_lst, is0_mls, is0_fls, is1_non, is1_bl, is1_int, is1_str, is1_tup, is1_lst, is1_mls, is1_fls, is2_non, is2_bl, is2_int, is2_str, is2_tup, is2_lst, is2_mls, is2_fls, is3_non, is3_bl, is3_int, is3_str, is3_tup, is3_lst, is3_mls, is3_fls, is4_non, is4_bl, is4_int, is4_str, is4_tup, is4_lst, is4_mls, is4_fls, is5_non, is5_bl, is5_int, is5_str, is5_tup, is5_lst, is5_mls, is5_fls, is6_non, is6_bl, is6_int, is6_str, is6_tup, is6_lst, is6_mls, is6_fls, is7_non, is7_bl, is7_int, is7_str, is7_tup, is7_lst, is7_mls, is7_fls, beq_self_eq_true, Bool.true_beq, Bool.false_beq, Bool.and_true, Bool.true_and, Bool.and_false, Bool.false_and, Bool.or_true, Bool.true_or, Bool.or_false, Bool.false_or, wipeE, m1, hmG]
theorem hand_ok : okT (callN FT turns 29 133 [] []) = true := by decide +kernel
theorem law_res (ns : List Int) (_ : ns.length ≤ 63) : okT (callN FT turns depth 299 [.scr ns] []) = true := by
  refine law_ok (FT := FT) (n := turns) (k := 28) (l := 299) (h := 133) (r := 298) (b := 127) (most := 3) (c := 2464) rfl rfl rfl (by decide) (by decide) (by decide) (by decide) hand_ok (fun st j hT => ?_) ns
  obtain ⟨st', e, _⟩ := right_ok (FT := FT) (n := turns) (k := 28) (r := 298) (c := 297) (N := 20) (T := 10) rfl (by decide) (by decide) (by decide) (case_ok (k := 20)) hT (by decide)
  exact ⟨st', e⟩

end Gb
namespace Gb
open PySem PySem.Spec PyProof.Rows L2
abbrev R : PySem.W.OpenRow := PySem.W.OpenLaw.row PySem.Challenge.rw_growback_k71_cells_that_stay
def top (i : Nat) : Stmt := PySem.Challenge.pw_growback_k71_cells_that_stay.main.body.getD i (.Pass ⟨0, 0, 0, 0⟩)
def tb : List DefX := [⟨21, "is_number", top 1, ["thing"]⟩,
  ⟨123, "is_stays", top 3, ["thing", "here", "part", "own"]⟩,
  ⟨124, "end_of", top 4, ["stays"]⟩,
  ⟨125, "holes", top 5, ["stays", "found", "here", "place", "cells"]⟩,
  ⟨126, "how_many_places", top 6, ["stays", "size", "place", "cells"]⟩,
  ⟨127, "_law_box", top 8, ["_law_script", "_law_k", "_law_great_so"]⟩,
  ⟨7, "_law_take", top 9, ["_law_tin", "_law_top_so", "_law_once", "_law_far", "_law_twice", "_law_digit_so"]⟩,
  ⟨8, "_law_cells", top 10, ["_law_script", "_law_most", "_law_cells_here", "_law_k", "_law_great_so", "_law_at_so"]⟩,
  ⟨10, "_law_lists", top 11, ["_law_matter", "_law_bit"]⟩,
  ⟨11, "_law_same", top 12, ["_law_got", "_law_due", "_law_lot_so", "_law_mine", "_law_its"]⟩,
  ⟨128, "_law_posts", top 13, ["_law_tin", "_law_most", "_law_gap_so", "_law_turn", "_law_found", "_law_here", "_law_room"]⟩,
  ⟨129, "_law_border", top 14, ["_law_posts_so"]⟩,
  ⟨80, "_law_filled", top 15, ["_law_bits", "_law_far", "_law_filled_here", "_law_spot", "_law_room", "_law_k"]⟩,
  ⟨130, "_law_is", top 16, ["_law_matter", "_law_here", "_law_own", "_law_bit"]⟩,
  ⟨131, "_law_holes", top 17, ["_law_posts_so", "_law_border_here", "_law_k", "_law_filled_here", "_law_found"]⟩,
  ⟨132, "_law_spots", top 18, ["_law_posts_so", "_law_much", "_law_border_here", "_law_filled_here", "_law_k"]⟩,
  ⟨133, "_law_by_hand_right", top 19, ["_law_fine", "_law_odd", "_law_stays_so", "_law_got", "_law_due", "_law_own", "_law_much"]⟩,
  ⟨297, "_law_case_right", top 20, ["_law_tin", "_law_posts_so", "_law_got", "_law_bent", "_law_lap_so", "_law_some", "_law_k", "_law_own", "_law_much"]⟩,
  ⟨298, "_law_right", top 21, ["_law_tin", "_law_turn"]⟩,
  ⟨299, "law", top 22, ["_law_script", "_law_lots_so", "_law_k"]⟩]
def ers : List ErrD := []
def kws : Kx := { kw := [(124, ["stays"], [0]), (125, ["stays"], [0]), (126, ["size", "stays"], [1, 0]), (123, ["thing"], [0])], cst := [], cstS := [], ers := [] }
def names : List Str := ["is_number", "is_stays", "end_of", "holes", "how_many_places", "_law_box", "_law_take", "_law_cells", "_law_lists", "_law_same", "_law_posts", "_law_border", "_law_filled", "_law_is", "_law_holes", "_law_spots", "_law_by_hand_right", "_law_case_right", "_law_right"]
abbrev lawAt : Nat := 22
abbrev lawId : Nat := 299
abbrev lawX : DefX := ⟨299, "law", top 22, ["_law_script", "_law_lots_so", "_law_k"]⟩
set_option maxHeartbeats 0
theorem tab_ok : tabB tb kws FT = true := by decide +kernel
theorem kw_ok : kwB tb kws = true := by decide +kernel
abbrev hk : PySem.W.Hook := hookE 4 (fas tb kws) (tb.map DefX.d) ers
def ob (s : PySem.W.SharedT) : AlE := obsEG 4 (fas tb kws) (tb.map DefX.d) ers (HandSHeadRun.getT s)
theorem ob_eq (s : PySem.W.SharedT) : ob s = hk.obs s.abs := obsEG_eq (HandSHeadRun.getT_eq s)
theorem run (w : World) : HandSHeadRun.RunEq R (PySem.W.view R.prog [lawAt]) hk ob 1200 names w := by
  intro os
  kernel_rfl
end Gb
open PySem PySem.W PySem.Calls PyProof.Rows
set_option maxHeartbeats 0 in
theorem PySem.Challenge.cw_growback_k71_cells_that_stay_holds : PySem.Challenge.rw_growback_k71_cells_that_stay.Holds := by
  w_on; o_law
  refine HandSHeadRun.head_any (r := Gb.R) (q := view Gb.R.prog [Gb.lawAt]) (H := Gb.hk) (ob := Gb.ob) (M := 1200) (loose := Gb.names) (d := HandSHeadRun.topDef Gb.R.prog Gb.lawAt) (kwd := []) Gb.ob_eq
    (by kernel_rfl) (fun s => by kernel_rfl) Gb.run (by kernel_rfl) (by kernel_rfl) (by kernel_rfl) (by rfl) (by first | assumption | decide +kernel) (by decide +kernel) ⟨rfl, rfl, rfl, rfl, rfl, by decide +kernel⟩ ?hw ?hc
  case hw => w_witness2
  case hc =>
    refine Gb.walk_X (l := PySem.Challenge.rw_growback_k71_cells_that_stay) (n := 63) (k := Gb.depth + 2) (x := "_law_script") (CX := fun w => L2.CX (PySem.Challenge.rw_growback_k71_cells_that_stay).prog w) rfl (by decide) (by kernel_rfl) ⟨rfl, by decide, by decide⟩ ?F (fun w => Gb.no_out _ w)
    intro w mg fa hp Yh G hmg0
    have hmg : mg Gb.lawX.name = some (.ref fa) := by
      have e : (HandSHeadRun.topDef Gb.R.prog Gb.lawAt).name = Gb.lawX.name := by kernel_rfl
      rw [← e]
      exact hmg0
    exact Gb.law_F (l := PySem.Challenge.rw_growback_k71_cells_that_stay) (q := Gb.lawX) Gb.turns Gb.depth (by simp [Gb.tb]) (by kernel_rfl) Gb.tab_ok Gb.kw_ok (by decide +kernel) (by kernel_rfl) Gb.law_res w mg fa hp Yh G hmg
