import PyProof.Rows.All
import Wide.All
import OpenK.AllK
import Wide.FinOn
import HandS.ForMost
import HandS.ForExc
import HandS.TupAny
import HandS.Style
import HandS.TupMul
import KE.KRevSl
import HandS.SetFor
import HandS.Strs
import HandS.TupSets
import HandS.Flow
import HandS.IsInst
import HandS.Conv
import HandS.Zip
import HandS.Wide
import HandS.Deep
import HandS.CallLocal
import HandS.EndTab
import HandS.RaiseMore
import HandS.Sort
import HandS.SortInts
import HandS.Walk
import KE.KStateDown
import HandS.Defaults
import HandS.Codes
import HandS.Head0
import HandS.Head1
import HandS.Head2
import HandS.HeadEnd
import HandS.HeadHook1
import HandS.HeadHook2
import HandS.HeadWalk
import PyProof.EqLayable
import HandS.List
import PySem.Challenge.RW_surveyyard_k83_whole_tables_of_degrees
section
set_option Elab.async false
set_option linter.all false
namespace Ev
open PySem L2

inductive PV where
  | non | bl (b : Bool) | int (i : Int) | str (x : Str)
  | tup (xs : List PV) | lst (xs : List PV) | frz (xs : List PV) | ref (n : Nat) | fn (f : Nat) | ktp (xs : List PV)
inductive Cell where
  | l (xs : List PV)
abbrev Env := List (Option PV)
abbrev Store := List Cell
inductive R (α : Type) where
  | ok (a : α) (st : Store) | exc (c : Nat) (st : Store) | stuck
inductive RS where
  | next (ρ : Env) (st : Store) | ret (v : PV) (st : Store) | exc (c : Nat) (st : Store) | stuck
def R.bind {α β : Type} (r : R α) (f : α → Store → R β) : R β := match r with
  | .ok a st => f a st | .exc c st => .exc c st | .stuck => .stuck
def R.bindS {α : Type} (r : R α) (f : α → Store → RS) : RS := match r with
  | .ok a st => f a st | .exc c st => .exc c st | .stuck => .stuck
def R.ofO {α : Type} (o : Option α) (st : Store) : R α := match o with
  | some a => .ok a st | none => .stuck

/-! values -/
mutual
def PV.toD : PV → Option PyData
  | .non => some .none
  | .bl b => some (.bool b)
  | .int i => some (.int i)
  | .str x => some (.str x)
  | .tup xs => (toDs xs).map .tuple
  | .lst xs => (toDs xs).map .list
  | .frz _ => none
  | .ref _ => none
  | .fn _ => none
  | .ktp _ => none
def toDs : List PV → Option (List PyData)
  | [] => some []
  | x :: xs => match x.toD, toDs xs with
    | some d, some ds => some (d :: ds)
    | _, _ => none
end
mutual
def PV.flat : PV → Bool
  | .tup xs => flats xs
  | .lst xs => flats xs
  | .frz xs => flats xs
  | .ktp xs => flats xs
  | .ref _ => false
  | _ => true
def flats : List PV → Bool
  | [] => true
  | x :: xs => x.flat && flats xs
end
def Cell.flat : Cell → Bool
  | .l xs => flats xs
def PV.isRef : PV → Bool
  | .ref _ => true
  | _ => false
def deref (st : Store) : PV → PV
  | .ref n => match st[n]? with
    | some (.l xs) => .lst xs
    | none => .ref n
  | .ktp xs => .tup xs
  | v => v
def lim : Nat := 1000000
def mulOk (a b : Int) : Bool := decide (a.natAbs.log2 + b.natAbs.log2 < 60000000)
def divOk (j : Int) : Bool := decide (0 < j) && decide (j.natAbs.log2 < 9000)
def cut {α : Type} (xs : List α) (lo hi : Option Int) : List α := (xs.drop (HT.sIx xs.length 0 lo)).take (HT.sIx xs.length xs.length hi - HT.sIx xs.length 0 lo)
inductive BOp where
  | add | sub | mul | fdiv | mod | pow
  deriving DecidableEq
def pyAdd : PV → PV → Option PV
  | .int i, .int j => some (.int (i + j))
  | .lst xs, .lst ys => if xs.length + ys.length ≤ lim then some (.lst (xs ++ ys)) else none
  | .tup xs, .tup ys => if xs.length + ys.length ≤ lim then some (.tup (xs ++ ys)) else none
  | .str x, .str y => if x.length + y.length ≤ lim then some (.str (x ++ y)) else none
  | _, _ => none
def intOp (c : Int → Int → Bool) (f : Int → Int → Int) : PV → PV → Option PV
  | .int i, .int j => if c i j then some (.int (f i j)) else none
  | _, _ => none
def pyMul : PV → PV → Option PV
  | .int i, .int j => if mulOk i j then some (.int (i * j)) else none
  | .lst xs, .int k => if 0 ≤ k ∧ k < 100000 ∧ xs.length * k.toNat ≤ lim then some (.lst (List.replicate k.toNat xs).flatten) else none
  | .tup xs, .int k => if 0 ≤ k ∧ k ≤ 1000 ∧ xs.length ≤ 1000 ∧ xs.isEmpty = false then some (.tup (List.replicate k.toNat xs).flatten) else none
  | _, _ => none
def powOk (i j : Int) : Bool := decide (0 ≤ j ∧ j ≤ 1000) && decide (i.natAbs < 2 ^ 64)
def pyBin : BOp → PV → PV → Option PV
  | .add, a, b => pyAdd a b
  | .sub, a, b => intOp (fun _ _ => true) (fun i j => i - j) a b
  | .mul, a, b => pyMul a b
  | .fdiv, a, b => intOp (fun _ j => divOk j) (fun i j => i / j) a b
  | .mod, a, b => intOp (fun _ j => decide (0 < j)) (fun i j => i % j) a b
  | .pow, a, b => intOp powOk (fun i j => i ^ j.toNat) a b
inductive COp where
  | eq | ne | lt | le | gt | ge | inn | notin
  deriving DecidableEq
def pyEq (a b : PV) : Option Bool := match a.toD, b.toD with
  | some d, some e => if SeqAt.shaped d && SeqAt.shaped e then some (PyData.eqv d e) else none
  | _, _ => none
def pyIn (a : PV) : PV → Option Bool
  | .lst xs => match a.toD, toDs xs with
    | some d, some ds => if SeqAt.shaped d && SeqAt.shaped (.list ds) then some (ds.any fun z => PyData.eqv z d) else none
    | _, _ => none
  | .tup xs => match a.toD, toDs xs with
    | some d, some ds => if SeqAt.shaped d && SeqAt.shaped (.list ds) then some (ds.any fun z => PyData.eqv z d) else none
    | _, _ => none
  | _ => none
def intCmp (g : Int → Int → Bool) : PV → PV → Option Bool
  | .int i, .int j => some (g i j)
  | _, _ => none
def pyCmp : COp → PV → PV → Option Bool
  | .inn, a, b => pyIn a b
  | .notin, a, b => (pyIn a b).map (!·)
  | .eq, a, b => pyEq a b
  | .ne, a, b => (pyEq a b).map (!·)
  | .lt, a, b => intCmp (fun i j => decide (i < j)) a b
  | .le, a, b => intCmp (fun i j => decide (i ≤ j)) a b
  | .gt, a, b => intCmp (fun i j => decide (j < i)) a b
  | .ge, a, b => intCmp (fun i j => decide (j ≤ i)) a b
def truth : PV → Option Bool
  | .non => some false
  | .bl b => some b
  | .int i => some (i != 0)
  | .str x => if x.length ≤ lim then some ((x.length : Int) != 0) else none
  | .tup xs => some (!xs.isEmpty)
  | .lst xs => some (!xs.isEmpty)
  | _ => none
def pyIdx : PV → PV → Option PV
  | .tup xs, .int i => atI xs i
  | .lst xs, .int i => atI xs i
  | _, _ => none
/-- a slice by its bounds -/
def cutP (a : PV) (lo hi : Option Int) : Option PV := match a with
  | .tup xs => some (.tup (cut xs lo hi))
  | .lst xs => some (.lst (cut xs lo hi))
  | _ => none
def partR (b : Bool) (r : R PV) (st : Store) : R (Option Int) := if b = true then .ok none st else r.bind fun v st => match v with
  | .int i => .ok (some i) st
  | _ => .stuck
def pyRev : PV → Option PV
  | .tup xs => some (.tup xs.reverse)
  | .lst xs => some (.lst xs.reverse)
  | _ => none
def bls : List PV → Option (List Bool)
  | [] => some []
  | .bl i :: r => (bls r).map (i :: ·)
  | _ => none
def inl : List PV → Option (List Int)
  | [] => some []
  | .int i :: r => (inl r).map (i :: ·)
  | _ => none
inductive Blt where
  | abs | max | min | int | len | list | tuple | all | any | str | sum
  deriving DecidableEq
def bAbs : List PV → Option PV
  | [.int i] => some (.int (if i < 0 then -i else i))
  | _ => none
def bMax : List PV → Option PV
  | [.int i, .int j] => some (.int (if j > i then j else i))
  | _ => none
def bMin : List PV → Option PV
  | [.int i, .int j] => some (.int (if j < i then j else i))
  | _ => none
def bInt : List PV → Option PV
  | [.int i] => some (.int i)
  | _ => none
def bLen : List PV → Option PV
  | [.tup xs] => some (.int xs.length)
  | [.lst xs] => some (.int xs.length)
  | [.str x] => if x.length ≤ lim then some (.int x.length) else none
  | _ => none
def bList : List PV → Option PV
  | [.tup xs] => some (.lst xs)
  | [.lst xs] => some (.lst xs)
  | [.frz xs] => some (.lst xs)
  | _ => none
def bTuple : List PV → Option PV
  | [.tup xs] => some (.tup xs)
  | [.lst xs] => some (.tup xs)
  | _ => none
def bAll : List PV → Option PV
  | [.lst xs] => (bls xs).map fun bs => .bl (bs.all id)
  | _ => none
def bAny : List PV → Option PV
  | [.lst xs] => (bls xs).map fun bs => .bl (bs.any id)
  | _ => none
def bStr : List PV → Option PV
  | [.str x] => some (.str x)
  | _ => none
def bSum : List PV → Option PV
  | [.lst xs] => (inl xs).map fun is => .int is.sum
  | [.tup xs] => (inl xs).map fun is => .int is.sum
  | _ => none
/-- an int into its place among ascending ones -/
def sins (k : Int) : List Int → List Int
  | [] => [k]
  | a :: r => if k < a then k :: a :: r else if k = a then a :: r else a :: sins k r
def sset (ns : List Int) : List Int := ns.foldr sins []
def pySS : PV → Option PV
  | .lst xs => match inl xs with
    | some is => if is.length < 64 then some (.lst ((sset is).map .int)) else none
    | none => none
  | _ => none
def pyBlt : Blt → List PV → Option PV
  | .abs, vs => bAbs vs
  | .max, vs => bMax vs
  | .min, vs => bMin vs
  | .int, vs => bInt vs
  | .len, vs => bLen vs
  | .list, vs => bList vs
  | .tuple, vs => bTuple vs
  | .all, vs => bAll vs
  | .any, vs => bAny vs
  | .str, vs => bStr vs
  | .sum, vs => bSum vs
inductive Ty where
  | int | bool | tuple | list | str
  deriving DecidableEq
def isTy : Ty → PV → Bool
  | .int, .int _ => true
  | .int, .bl _ => true
  | .bool, .bl _ => true
  | .tuple, .tup _ => true
  | .list, .lst _ => true
  | .str, .str _ => true
  | _, _ => false
def tyOk : PV → Bool
  | .frz _ => false
  | .ktp _ => false
  | .ref _ => false
  | .fn _ => false
  | _ => true
inductive IK where
  | plain | range1 | range2 | zip2 | enum
  deriving DecidableEq
def rgV' (a : Int) (n : Nat) : List PV := (List.range n).map fun i => .int (a + (i : Nat))
def seqOf : PV → Option (List PV)
  | .tup xs => some xs
  | .lst xs => some xs
  | .ktp xs => some xs
  | _ => none
def rgOk (a b : Int) : Bool := Nat.ble a.natAbs 1000000000000000000 && (Nat.ble b.natAbs 1000000000000000000 && Nat.ble (b - a).toNat lim)
def pair2 (x y : PV) : PV := .tup [x, y]
def enumL (n : Nat) : List PV → List PV
  | [] => []
  | x :: xs => .tup [.int (n : Nat), x] :: enumL (n + 1) xs
def pyKt : PV → Option PV
  | .lst xs => some (.ktp xs)
  | _ => none
def PV.ktpL : PV → Option (List PV)
  | .ktp xs => some xs
  | _ => none
def pyCnt (xs : List PV) : PV → Option PV
  | .int k => (inl xs).map fun is => .int (is.count k : Nat)
  | _ => none
def iPlain : List PV → Option (List PV)
  | [v] => seqOf v
  | _ => none
def iRange1 : List PV → Option (List PV)
  | [.int n] => if rgOk 0 n then some (rgV' 0 n.toNat) else none
  | _ => none
def iRange2 : List PV → Option (List PV)
  | [.int a, .int b] => if rgOk a b then some (rgV' a (b - a).toNat) else none
  | _ => none
def iZip2 : List PV → Option (List PV)
  | [.lst xs, .lst ys] => some (List.zipWith pair2 xs ys)
  | [.tup xs, .tup ys] => some (List.zipWith pair2 xs ys)
  | _ => none
def iEnumL : List PV → Option (List PV)
  | [.lst xs] => some (enumL 0 xs)
  | _ => none
def items : IK → List PV → Option (List PV)
  | .plain, vs => iPlain vs
  | .range1, vs => iRange1 vs
  | .range2, vs => iRange2 vs
  | .zip2, vs => iZip2 vs
  | .enum, vs => iEnumL vs

/-- list(range(n)), tuple(range(n)) -/
def pyRg (t : Bool) : PV → Option PV
  | .int n => if rgOk 0 n then some (if t then .tup (rgV' 0 n.toNat) else .lst (rgV' 0 n.toNat)) else none
  | _ => none
/-! core syntax -/
inductive Tg where
  | nm (i : Nat) | tp (ts : Tg) | nil | cons (t ts : Tg)
inductive CE where
  | var (i : Nat) | cst (v : PV) | gl (v : PV) | yes
  | nil | cons (e es : CE)
  | tup (es : CE) | lst (es : CE) | mkl (es : CE)
  | bin (op : BOp) (a b : CE) | mkb (op : BOp) (a b : CE) | neg (a : CE) | not (a : CE)
  | cmp (op : COp) (a b : CE) | chain (o p : COp) (a b c : CE)
  | isN (a : CE) (g : Bool) | isB (a : CE) (b g : Bool)
  | and (a b : CE) | or (a b : CE) | ite (c a b : CE)
  | idx (a i : CE) | slc (a lo hi : CE) | rev (a : CE)
  | call (f : Nat) (es : CE) | callv (i : Nat) (es : CE) | blt (b : Blt) (es : CE) | mkt (b : Blt) (es : CE)
  | isi (a : CE) (t : Ty)
  | app (a e : CE)
  | sst (a : CE) | lrg (t : Bool) (a : CE) | ktp (a : CE) | cnt (a e : CE)
  | lc (k : IK) (it : CE) (tg : Tg) (own : List Nat) (cd elt : CE) | mkc (k : IK) (it : CE) (tg : Tg) (own : List Nat) (cd elt : CE)
def CE.isNon : CE → Bool
  | .cst .non => true
  | _ => false
inductive CS where
  | done | asg (i : Nat) (e : CE) (k : CS) | asgT (tg : Tg) (e : CE) (k : CS) | par (is : List Nat) (es : CE) (k : CS)
  | sub (a i e : CE) (k : CS) | expr (e : CE) (k : CS) | ifs (c : CE) (t f k : CS)
  | for_ (tg : Tg) (ik : IK) (it : CE) (b k : CS) | whil (c : CE) (b k : CS)
  | ret (e : CE) | retN | rais (c : Nat)

mutual
def bindT : Tg → PV → Env → Option Env
  | .nm i, v, ρ => some (ρ.set i (some v))
  | .tp ts, .tup xs, ρ => bindTs ts xs ρ
  | _, _, _ => none
def bindTs : Tg → List PV → Env → Option Env
  | .nil, [], ρ => some ρ
  | .cons t ts, x :: xs, ρ => match bindT t x ρ with
    | some ρ' => bindTs ts xs ρ'
    | none => none
  | _, _, _ => none
end
def wipeE (ρ : Env) : List Nat → Env
  | [] => ρ
  | v :: vs => (wipeE ρ vs).set v none
def lcLoop (f : PV → Store → R (Option PV)) : List PV → List PV → Store → R (List PV)
  | [], acc, st => if acc.length ≤ lim then .ok acc st else .stuck
  | x :: xs, acc, st => match f x st with
    | .ok (some v) st' => lcLoop f xs (acc ++ [v]) st'
    | .ok none st' => lcLoop f xs acc st'
    | _ => .stuck
def alloc (st : Store) (v : PV) : R PV := match v with
  | .lst xs => .ok (.ref st.length) (st ++ [.l xs])
  | _ => .stuck
def appTo (st : Store) (a v : PV) : R PV := match a with
  | .ref n => match st[n]? with
    | some (.l xs) => if xs.length < lim then .ok .non (st.set n (.l (xs ++ [v]))) else .stuck
    | none => .stuck
  | _ => .stuck
def setAt (st : Store) (a i v : PV) : Option Store := match a, i with
  | .ref n, .int k => match st[n]? with
    | some (.l xs) => (ixN xs.length k).map fun j => st.set n (.l (xs.set j v))
    | none => none
  | _, _ => none
def setAll (ρ : Env) : List Nat → List PV → Option Env
  | [], [] => some ρ
  | i :: is, v :: vs => setAll (ρ.set i (some v)) is vs
  | _, _ => none

abbrev Calls := Nat → List PV → Store → R PV
mutual
def evE (C : Calls) : CE → Env → Store → R PV
  | .var i, ρ, st => match ρ[i]? with
    | some (some v) => .ok v st
    | _ => .stuck
  | .cst v, _, st => .ok v st
  | .gl v, _, st => .ok v st
  | .yes, _, st => .ok (.bl true) st
  | .tup es, ρ, st => (evEs C es ρ st).bind fun vs st => if vs.length ≤ lim then .ok (.tup vs) st else .stuck
  | .lst es, ρ, st => (evEs C es ρ st).bind fun vs st => if vs.length ≤ lim then .ok (.lst vs) st else .stuck
  | .mkl es, ρ, st => (evEs C es ρ st).bind fun vs st => if vs.length ≤ lim then alloc st (.lst vs) else .stuck
  | .bin op a b, ρ, st => (evE C a ρ st).bind fun x st => (evE C b ρ st).bind fun y st => .ofO (pyBin op (deref st x) (deref st y)) st
  | .mkb op a b, ρ, st => (evE C a ρ st).bind fun x st => (evE C b ρ st).bind fun y st => (R.ofO (pyBin op (deref st x) (deref st y)) st).bind fun v st => alloc st v
  | .neg a, ρ, st => (evE C a ρ st).bind fun x st => match x with
    | .int i => .ok (.int (-i)) st
    | _ => .stuck
  | .not a, ρ, st => (evE C a ρ st).bind fun x st => (R.ofO (truth (deref st x)) st).bind fun b st => .ok (.bl (!b)) st
  | .cmp op a b, ρ, st => (evE C a ρ st).bind fun x st => (evE C b ρ st).bind fun y st => (R.ofO (pyCmp op (deref st x) (deref st y)) st).bind fun b st => .ok (.bl b) st
  | .chain o p a b c, ρ, st => (evE C a ρ st).bind fun x st => (evE C b ρ st).bind fun y st => (R.ofO (pyCmp o (deref st x) (deref st y)) st).bind fun k st =>
      if k = true then (evE C c ρ st).bind fun z st => (R.ofO (pyCmp p (deref st y) (deref st z)) st).bind fun b st => .ok (.bl b) st else .ok (.bl false) st
  | .isN a g, ρ, st => (evE C a ρ st).bind fun x st => .ok (.bl (match x with | .non => g | _ => !g)) st
  | .isB a b g, ρ, st => (evE C a ρ st).bind fun x st => match x with
    | .bl c => .ok (.bl (if c = b then g else !g)) st
    | _ => .stuck
  | .and a b, ρ, st => (evE C a ρ st).bind fun x st => (R.ofO (truth (deref st x)) st).bind fun k st => if k = true then evE C b ρ st else .ok x st
  | .or a b, ρ, st => (evE C a ρ st).bind fun x st => (R.ofO (truth (deref st x)) st).bind fun k st => if k = true then .ok x st else evE C b ρ st
  | .ite c a b, ρ, st => (evE C c ρ st).bind fun x st => (R.ofO (truth (deref st x)) st).bind fun k st => if k = true then evE C a ρ st else evE C b ρ st
  | .idx a i, ρ, st => (evE C a ρ st).bind fun x st => (evE C i ρ st).bind fun y st => .ofO (pyIdx (deref st x) y) st
  | .slc a lo hi, ρ, st => (evE C a ρ st).bind fun x st => (partR lo.isNon (evE C lo ρ st) st).bind fun l st => (partR hi.isNon (evE C hi ρ st) st).bind fun h st => .ofO (cutP (deref st x) l h) st
  | .rev a, ρ, st => (evE C a ρ st).bind fun x st => .ofO (pyRev (deref st x)) st
  | .call f es, ρ, st => (evEs C es ρ st).bind fun vs st => C f vs st
  | .callv i es, ρ, st => match ρ[i]? with
    | some (some (.fn f)) => (evEs C es ρ st).bind fun vs st => C f vs st
    | _ => .stuck
  | .blt b es, ρ, st => (evEs C es ρ st).bind fun vs st => .ofO (pyBlt b (vs.map (deref st))) st
  | .mkt b es, ρ, st => (evEs C es ρ st).bind fun vs st => (R.ofO (pyBlt b (vs.map (deref st))) st).bind fun v st => alloc st v
  | .isi a t, ρ, st => (evE C a ρ st).bind fun x st => if tyOk (deref st x) = true then .ok (.bl (isTy t (deref st x))) st else .stuck
  | .app a e, ρ, st => (evE C a ρ st).bind fun x st => if x.isRef = true then (evE C e ρ st).bind fun y st => appTo st x y else .stuck
  | .sst a, ρ, st => (evE C a ρ st).bind fun x st => .ofO (pySS (deref st x)) st
  | .lrg t a, ρ, st => (evE C a ρ st).bind fun x st => .ofO (pyRg t x) st
  | .ktp a, ρ, st => (evE C a ρ st).bind fun x st => .ofO (pyKt (deref st x)) st
  | .cnt a e, ρ, st => (evE C a ρ st).bind fun x st => (R.ofO x.ktpL st).bind fun xs st => (evE C e ρ st).bind fun y st => .ofO (pyCnt xs y) st
  | .lc k it tg own cd elt, ρ, st => (evEs C it ρ st).bind fun vs st => (R.ofO (items k vs) st).bind fun xs st =>
      (lcLoop (fun x st => match bindT tg x (wipeE ρ own) with
        | some ρ1 => (evE C cd ρ1 st).bind fun c st => (R.ofO (truth (deref st c)) st).bind fun k st => if k = true then (evE C elt ρ1 st).bind fun v st => .ok (some v) st else .ok none st
        | none => .stuck) xs [] st).bind fun acc st => .ok (.lst acc) st
  | .mkc k it tg own cd elt, ρ, st => (evEs C it ρ st).bind fun vs st => (R.ofO (items k vs) st).bind fun xs st =>
      (lcLoop (fun x st => match bindT tg x (wipeE ρ own) with
        | some ρ1 => (evE C cd ρ1 st).bind fun c st => (R.ofO (truth (deref st c)) st).bind fun k st => if k = true then (evE C elt ρ1 st).bind fun v st => .ok (some v) st else .ok none st
        | none => .stuck) xs [] st).bind fun acc st => alloc st (.lst acc)
  | .nil, _, _ => .stuck
  | .cons _ _, _, _ => .stuck
def evEs (C : Calls) : CE → Env → Store → R (List PV)
  | .nil, _, st => .ok [] st
  | .cons e es, ρ, st => (evE C e ρ st).bind fun v st => (evEs C es ρ st).bind fun vs st => .ok (v :: vs) st
  | _, _, _ => .stuck
end
def forLoop (f : PV → Env → Store → RS) : List PV → Env → Store → RS
  | [], ρ, st => .next ρ st
  | v :: vs, ρ, st => match f v ρ st with
    | .next ρ' st' => forLoop f vs ρ' st'
    | r => r
def whileLoop (c : Env → Store → R Bool) (b : Env → Store → RS) : Nat → Env → Store → RS
  | 0, _, _ => .stuck
  | n + 1, ρ, st => (c ρ st).bindS fun k st => if k = true then (match b ρ st with
    | .next ρ' st' => whileLoop c b n ρ' st'
    | r => r) else .next ρ st
def evT (C : Calls) (c : CE) (ρ : Env) (st : Store) : R Bool := (evE C c ρ st).bind fun x st => .ofO (truth (deref st x)) st
def evS (C : Calls) (W : Nat) : CS → Env → Store → RS
  | .done, ρ, st => .next ρ st
  | .asg i e k, ρ, st => (evE C e ρ st).bindS fun v st => evS C W k (ρ.set i (some v)) st
  | .asgT tg e k, ρ, st => (evE C e ρ st).bindS fun v st => match bindT tg v ρ with
    | some ρ' => evS C W k ρ' st
    | none => .stuck
  | .par is es k, ρ, st => (evEs C es ρ st).bindS fun vs st => match setAll ρ is vs with
    | some ρ' => evS C W k ρ' st
    | none => .stuck
  | .sub a i e k, ρ, st => (evE C e ρ st).bindS fun v st => (evE C a ρ st).bindS fun x st => (evE C i ρ st).bindS fun y st => match setAt st x y v with
    | some st' => evS C W k ρ st'
    | none => .stuck
  | .expr e k, ρ, st => (evE C e ρ st).bindS fun _ st => evS C W k ρ st
  | .ifs c t f k, ρ, st => (evT C c ρ st).bindS fun b st => match (if b = true then evS C W t ρ st else evS C W f ρ st) with
    | .next ρ' st' => evS C W k ρ' st'
    | r => r
  | .for_ tg ik it b k, ρ, st => (evEs C it ρ st).bindS fun vs st => (R.ofO (items ik vs) st).bindS fun xs st =>
      match forLoop (fun x ρ st => match bindT tg x ρ with
        | some ρ1 => evS C W b ρ1 st
        | none => .stuck) xs ρ st with
      | .next ρ' st' => evS C W k ρ' st'
      | r => r
  | .whil c b k, ρ, st => match whileLoop (evT C c) (evS C W b) W ρ st with
    | .next ρ' st' => evS C W k ρ' st'
    | r => r
  | .ret e, ρ, st => (evE C e ρ st).bindS fun v st => .ret v st
  | .retN, _, st => .ret .non st
  | .rais c, _, st => .exc c st
structure Fd where
  np : Nat
  ns : Nat
  body : CS
def trunc (st : Store) (v : PV) (st' : Store) : Store :=
  if st'.length ≤ st.length then st' else if v.flat && st'.all Cell.flat then st'.take st.length else st'
def callN (T : List Fd) (W : Nat) : Nat → Calls
  | 0, _, _, _ => .stuck
  | n + 1, f, vs, st => match T[f]? with
    | none => .stuck
    | some d => if vs.length = d.np then (match evS (callN T W n) W d.body (vs.map some ++ List.replicate (d.ns - d.np) none) st with
      | .next _ st' => .ok .non (trunc st .non st')
      | .ret v st' => .ok v (trunc st v st')
      | .exc c st' => .exc c (trunc st .non st')
      | .stuck => .stuck) else .stuck
end Ev
end
section
set_option Elab.async false
set_option linter.all false
set_option maxRecDepth 100000
set_option maxHeartbeats 4000000
namespace Ev
open PySem PySem.Spec PyProof.Rows HT L2
section
variable {prog : Program} {w : World} {A : Around} {E : Value → Shared → Prop} {s : Shared}
theorem revAdjust (n : Nat) : Builtin.Slice.sliceAdjust none none (-1) (n : Int) = ((n : Int) - 1, -1) := by
  unfold Builtin.Slice.sliceAdjust
  simp
theorem revPlaces (n : Nat) : Builtin.Slice.slicePlaces ((n : Int) - 1) (-1) (-1) = n := by
  unfold Builtin.Slice.slicePlaces
  have h1 : ¬ ((-1 : Int) > 0) := by decide
  simp only [h1, if_false]
  have h2 : (-(-1) : Int) = 1 := by decide
  rw [h2, Int.ediv_one]
  split <;> omega
theorem sliceRev {sl : Addr} {vl vu vs : Value} {n : Nat} {Q : Int × Int × Nat → Shared → Prop} (hs : s.heap.IsSliceOf sl vl vu vs) (pl : IsPart vl none) (pu : IsPart vu none) (ps : IsPart vs (some (-1)))
    (h : Q (((n : Int) - 1), -1, n) s) : wpAny (model prog w) A (Builtin.Slice.sliceApplied (.ref sl) (pure (n : Int))) Q E s := by
  obtain ⟨os, hos, hcs, hds⟩ := id hs
  unfold Builtin.Slice.sliceApplied Builtin.Slice.sliceFields
  refine wpAny_bind (wpAny_bind (wpAny_field hos hds (x := vl) rfl (wpAny_bind (wpAny_field hos hds (x := vu) rfl (wpAny_bind (wpAny_field hos hds (x := vs) rfl (wpAny_pure ?_)))))))
  refine wpAny_bind (slicePart_ ps ?_)
  show wpAny _ _ (if ((-1 : Int) == 0) = true then _ else _) _ _ s
  rw [if_neg (by decide)]
  refine wpAny_bind (slicePart_ pl (wpAny_bind (slicePart_ pu (wpAny_bind (wpAny_pure ?_)))))
  show wpAny _ _ (match Builtin.Slice.sliceAdjust none none (-1) (n : Int) with | (lo, hi) => pure (lo, (-1 : Int), Builtin.Slice.slicePlaces lo hi (-1))) _ _ s
  rw [revAdjust n]
  show wpAny _ _ (pure (((n : Int) - 1), (-1 : Int), Builtin.Slice.slicePlaces ((n : Int) - 1) (-1) (-1))) _ _ s
  rw [revPlaces]
  exact wpAny_pure h
theorem pickRev (xs : Array Value) : ((List.range xs.size).filterMap fun (k : Nat) => xs[(((xs.size : Int) - 1) + (k : Int) * (-1)).toNat]?).toArray = xs.toList.reverse.toArray := by
  have e : (List.range xs.size).filterMap (fun (k : Nat) => xs[(((xs.size : Int) - 1) + (k : Int) * (-1)).toNat]?) = ((List.range xs.size).map fun k => xs.size - 1 - k).filterMap (xs[·]?) := by
    rw [List.filterMap_map]
    congr 1
    funext k
    have : (((xs.size : Int) - 1) + (k : Int) * (-1)).toNat = xs.size - 1 - k := by omega
    simp only [Function.comp, this]
  rw [e, PySem.W.krv_range, List.filterMap_reverse, PySem.W.krv_all]
theorem getItem_tuple_rev {t sl : Addr} {items : Array Value} {vl vu vs : Value} {Q : Value → Shared → Prop} (ht : IsTup s.heap t items) (hs : s.heap.IsSliceOf sl vl vu vs) (pl : IsPart vl none) (pu : IsPart vu none) (ps : IsPart vs (some (-1)))
    (h : Q (.ref s.heap.objs.size) { s with heap := s.heap.push { cls := .type "tuple", data := .seq items.toList.reverse.toArray } })
    (hsz : items.size ≤ sizeLine) : wpAny (model prog w) A (getItem (.ref t) (.ref sl)) Q E s := by
  have htake : sizeOk (.seq items.toList.reverse.toArray) := by
    show items.toList.reverse.toArray.size ≤ sizeLine
    rw [List.size_toArray, List.length_reverse, Array.length_toList]
    exact hsz
  obtain ⟨os, hos, hcs, hds⟩ := id hs
  have hTs : s.TypeIs (.ref sl) "slice" := ⟨os, hos, hcs⟩
  unfold getItem
  try with_reducible refine wpAny_holding ?_
  first | refine wpAny_bind (wpAny_pure ?_) | skip
  refine wpAny_bind (wpAny_sequenceKey ht.typeIs (by decide) ?_)
  refine wpAny_bind (wpAny_callSpecial?_slot (name := Str.ofString "__getitem__") ht.typeIs PyProof.Rows.slot_tuple_getitem
    (wpAny_call_entry PyProof.Rows.slot_tuple_getitem ht.typeIs entry_tuple_getitem ?_ (args_tuple_getitem _ _)))
  show wpAny _ _ (Builtin.Tuple.tupleItemsOf (.ref t) >>= _) _ _ s
  refine wpAny_bind (tupleItemsOf_ ht ?_)
  refine wpAny_bind (wpAny_typeOf hTs ?_)
  rw [if_pos (by decide)]
  refine wpAny_bind (sliceRev hs pl pu ps ?_)
  have hno : ¬ ((((items.size : Int) - 1) == 0 && (-1 : Int) == 1 && items.size == items.size) = true) := by
    have : ((-1 : Int) == 1) = false := by decide
    rw [this, Bool.and_false, Bool.false_and]
    exact Bool.false_ne_true
  show wpAny _ _ (if (((items.size : Int) - 1) == 0 && (-1 : Int) == 1 && items.size == items.size) = true then _ else _) _ _ s
  rw [if_neg hno, pickRev]
  first
    | exact wpAny_bind (m := Builtin.Tuple.tupleExact _) (wpAny_newObj_type (wpAny_pure ⟨_, rfl, wpAny_pure h⟩) htake)
    | exact wpAny_bind (m := Builtin.Tuple.tupleExact _) (wpAny_newObj_type (wpAny_bind (wpAny_pure (wpAny_pure ⟨_, rfl, wpAny_pure h⟩))) htake)
    | exact wpAny_bind (wpAny_bind (m := Builtin.Tuple.tupleExact _) (wpAny_newObj_type (wpAny_pure (wpAny_pure ⟨_, rfl, wpAny_pure h⟩)) htake))
    | exact wpAny_bind (wpAny_bind (m := Builtin.Tuple.tupleExact _) (wpAny_newObj_type (wpAny_pure ⟨_, rfl, wpAny_pure h⟩) htake))
end
section
variable {X : Cx}
def tRevA (K : PySem.W.Frag) (te : TE) : TE := fun σ H Q => te σ H fun x H1 => ∃ a xs, x = .ref a ∧ ((SqT K H1 a xs ∧ ∀ p, H1 p = none → Q (.ref p) (upd H1 p (.tup xs.reverse))) ∨ (SqL K H1 a xs ∧ ∀ p, H1 p = none → Q (.ref p) (upd H1 p (.lst xs.reverse))))
theorem pe_revA {e : Expr} {te : TE} {k : Nat} {p1 p2 p3 pos : Pos} (he : PE X e te) : PE X (.Subscript e (.Slice none none (some (.UnaryOp .USub (.Constant (.int 1) k p1) p2)) p3) pos) (tRevA X.K te) := by
  refine ⟨fun pins s σ H Q I h => ?_⟩
  refine Subscript_ (thn (he.run pins s σ H _ I h) fun v s1 ⟨x, H1, I1, r1, q1⟩ => ?_)
  obtain ⟨a, xs, ex, q⟩ := q1
  subst ex
  cases r1
  have hst : PO X (some (.UnaryOp .USub (.Constant (.int 1) k p1) p2)) (tPart (tUn (rU fun i => .int (-i)) (tC (.int 1)))) := po_some (pe_un un_neg pe_int)
  refine wpAny_Slice (thn (po_none.run pins s1 σ H1 (fun o H2 => o = none ∧ H2 = H1) I1 ⟨rfl, rfl⟩) fun vl s2 ⟨l, H2, I2, pl, el, e2⟩ => ?_)
  subst el e2
  refine thn (po_none.run pins s2 σ H2 (fun o H3 => o = none ∧ H3 = H2) I2 ⟨rfl, rfl⟩) fun vu s3 ⟨u, H3, I3, pu, eu, e3⟩ => ?_
  subst eu e3
  refine thn (hst.run pins s3 σ H3 (fun o H4 => o = some (-1) ∧ H4 = H3) I3 ⟨1, rfl, -1, rfl, rfl, rfl⟩) fun vs s4 ⟨o, H4, I4, ps, eo, e4⟩ => ?_
  subst eo e4
  have I5 : Inv X pins σ H4 { s4 with heap := s4.heap.push { cls := .type "slice", data := .fields #[vl, vu, vs] } } := I4.kept (t' := s4.toks) fun b ob q => Heap.get?_push_of_some _ q
  rcases q with ⟨hx, q⟩ | ⟨hx, q⟩
  · obtain ⟨its, r, ht, hz⟩ := I5.tuple hx
    have hlen := r.length
    show wpAny (model X.prog X.w) X.A (subscriptTail e (.Slice none none (some (.UnaryOp .USub (.Constant (.int 1) k p1) p2)) p3) (.ref a) (.ref s4.heap.objs.size)) (EP X pins σ Q) X.xe { s4 with heap := s4.heap.push { cls := .type "slice", data := .fields #[vl, vu, vs] } }
    refine tail_any (ops := [.ref a, .ref s4.heap.objs.size]) ht.typeIs (PyProof.Rows.slot_tuple_getitem.lookup) ?_ (by with_unfolding_all rfl)
    refine getItem_tuple_rev ht (Heap.IsSliceOf.new _ vl vu vs) pl pu ps ?_ (by rw [List.size_toArray]; omega)
    refine ⟨.ref _, _, I5.laid (t' := s4.toks) (o := .tup xs.reverse) (fun b ob q => Heap.get?_push_of_some _ q) (Nat.le_refl _) ?_, rfl, q _ (I5.hok.fresh (Nat.le_refl _))⟩
    exact ⟨by rw [List.length_reverse]; exact hz, _, r.reverse, IsTup.new _ _⟩
  · obtain ⟨its, r, ht, hz⟩ := I5.list hx
    have hlen := r.length
    show wpAny (model X.prog X.w) X.A (subscriptTail e (.Slice none none (some (.UnaryOp .USub (.Constant (.int 1) k p1) p2)) p3) (.ref a) (.ref s4.heap.objs.size)) (EP X pins σ Q) X.xe { s4 with heap := s4.heap.push { cls := .type "slice", data := .fields #[vl, vu, vs] } }
    refine tail_any (ops := [.ref a, .ref s4.heap.objs.size]) ht.isList.typeIs (PySem.slot_list_getitem.lookup) ?_ (by with_unfolding_all rfl)
    refine wpAny_getItem_list_slice ht.isList (Heap.IsSliceOf.new _ vl vu vs) pl pu ps (by decide) ?_ (by rw [List.size_toArray]; omega)
    rw [PySem.W.krv_pick]
    refine ⟨.ref _, _, I5.laid (t' := s4.toks) (o := .lst xs.reverse) (fun b ob q => Heap.get?_push_of_some _ q) (Nat.le_refl _) ?_, rfl, q _ (I5.hok.fresh (Nat.le_refl _))⟩
    exact ⟨by rw [List.length_reverse]; exact hz, _, 0, r.reverse, Heap.get?_push_size _ rfl⟩
end
/-! tuple * int, any int from 0 on -/
theorem tuple_mul1 (l : Addr) (items : Array Value) (n : Nat) (dd : Option Addr) (sl : Array (Option Value)) (u : Tok) :
    Meets (Builtin.«tuple.__mul__» ⟨[.ref l, .int 1 u], []⟩) (fun _ R s => s.heap.get? l = some { cls := .type "tuple", dict := dd, data := .seq items n, slots := sl } ∧ R (.ok (.ret (Value.ref l))) s) :=
  .of_wp fun prog w A R s h => by
    obtain ⟨hp, g, d, tk, os⟩ := s
    obtain ⟨hl, h⟩ := h
    have f1 := AutoSeq1.idx_int
    have c1 : (items.isEmpty || (1 : Int) == 1) = true := by simp
    wp_walk using wpAny_loadPart' hl
    repeat (first
      | (refine wpAny_ite_true (decide_eq_true c1) ?_; wp_walk using wpAny_loadPart' hl)
      | (refine wpAny_ite_false (decide_eq_false (by decide)) ?_; wp_walk using wpAny_loadPart' hl))
    exact ⟨_, rfl, h⟩
theorem tuple_mul0 (l : Addr) (items : Array Value) (n : Nat) (dd : Option Addr) (sl : Array (Option Value)) (u : Tok) (c1 : (items.isEmpty || (0 : Int) == 1) = false) :
    Meets (Builtin.«tuple.__mul__» ⟨[.ref l, .int 0 u], []⟩) (fun _ R s => s.heap.get? l = some { cls := .type "tuple", dict := dd, data := .seq items n, slots := sl } ∧
      R (.ok (.ret (Value.ref s.heap.objs.size))) { s with heap := s.heap.push { cls := Value.type "tuple", data := Data.seq #[] }, toks := s.toks }) :=
  .of_wp fun prog w A R s h => by
    obtain ⟨hp, g, d, tk, os⟩ := s
    obtain ⟨hl, h⟩ := h
    have f1 := AutoSeq1.idx_int
    wp_walk using wpAny_loadPart' hl
    repeat (first
      | (refine wpAny_ite_false (decide_eq_false (by rw [c1]; exact Bool.false_ne_true)) ?_; wp_walk using wpAny_loadPart' hl)
      | (refine wpAny_ite_true (decide_eq_true (by rfl)) ?_; wp_walk using wpAny_loadPart' hl)
      | (refine wpAny_ite_false (decide_eq_false (by decide)) ?_; wp_walk using wpAny_loadPart' hl))
    exact ⟨_, rfl, h⟩
def rRep01 (K : PySem.W.Frag) : R2 := fun x y H Q => ∃ l k xs, x = .ref l ∧ y = .int k ∧ SqT K H l xs ∧ xs ≠ [] ∧ ((k = 1 ∧ Q (.ref l) H) ∨ (k = 0 ∧ ∀ p, H p = none → Q (.ref p) (upd H p (.tup []))))
theorem op_rep01 {X : Cx} : OpR X (binaryOp .Mult) (rRep01 X.K) := by
  intro pins s σ H x y v u Q I rx ry h
  obtain ⟨l, k, xs, rfl, rfl, hT, hne, q⟩ := h
  cases rx
  obtain ⟨t, rfl⟩ := ry
  obtain ⟨its, r, ⟨⟨cls, dd, data, sl⟩, ho, hc, n, hd⟩, hs⟩ := I.tuple hT
  simp only at hc hd
  subst hc hd
  have hn : its ≠ [] := fun e => hne (by
    have hle : its.length = xs.length := r.length.symm
    rw [e] at hle
    exact List.eq_nil_of_length_eq_zero hle.symm)
  have hi : its.toArray.isEmpty = false := by
    cases its with
    | nil => exact absurd rfl hn
    | cons a b => rfl
  refine wpAny_binaryOp_repeat_ref (T := "tuple") (U := "int") (by decide) ⟨_, ho, rfl⟩ (fun s' => typeIs_int s' k t) noFill_tuple_mul F.fills_int_mul F.slot_int_rmul repeat_tuple F.slot_int_index.lookup
    (call_meets F.slot_int_rmul (typeIs_int s k t) F.entry_int_rmul (F.args_int_rmul_2 _ _) (int_rmul_tuple k t l its.toArray n dd sl) ⟨ho, rfl, ⟨_, ho, rfl⟩, ?_⟩)
  rcases q with ⟨rfl, q⟩ | ⟨rfl, q⟩
  · exact call_meets F.slot_tuple_mul ⟨_, ho, rfl⟩ F.entry_tuple_mul (F.args_tuple_mul_2 _ _) (tuple_mul1 l its.toArray n dd sl t) ⟨ho, ⟨.ref l, H, I, rfl, q⟩⟩
  · refine call_meets F.slot_tuple_mul ⟨_, ho, rfl⟩ F.entry_tuple_mul (F.args_tuple_mul_2 _ _) (tuple_mul0 l its.toArray n dd sl t (by rw [hi]; rfl)) ⟨ho, ?_⟩
    refine ⟨.ref s.heap.objs.size, _, I.laid (t' := s.toks) (o := .tup []) (fun b ob q => Heap.get?_push_of_some _ q) (Nat.le_refl _) ?_, rfl, q _ (I.hok.fresh (Nat.le_refl _))⟩
    exact ⟨Nat.zero_le _, [], .nil, IsTup.new _ _⟩
end Ev
end
section
set_option Elab.async false
set_option linter.all false
set_option maxRecDepth 100000
namespace Ev
open PySem PySem.Spec PyProof.Rows L2
abbrev nset (w : World) : Obj := { cls := .type "set", dict := none, data := .set #[] 0 (.fresh 0 0 (!w.params.followText "set-order")) }
section
variable {P : Program} {w : World} {A : Around} {E : Value → Shared → Prop} {s : Shared}
set_option maxHeartbeats 3200000 in
theorem set_of_list {l : Addr} {items : Array Value} (ns : List Int) {Q : Value → Shared → Prop} (hh : A.handled = none) (hl : s.heap.IsList l items) (hit : IntsAre items.toList ns) (hb : ns.length + 1 < scanBound)
    (h : ∀ (h' : Heap) (tk c : Nat), SetR w h' s.heap.objs.size (fun j => decide (j ∈ ns)) c → c ≤ ns.length → (∀ b o, s.heap.get? b = some o → h'.get? b = some o) → Q (.ref s.heap.objs.size) { s with heap := h', toks := tk }) :
    wpAny (model P w) A (call (.type "set") [.ref l]) Q E s := by
  have hisz : items.size = ns.length := by
    have q := IntsAre.length hit
    rw [Array.length_toList] at q
    exact q
  obtain ⟨c, tl, hmro⟩ := F.called_set.mro
  have hmade := F.called_set.made
  have hsub := F.called_set.sub
  refine wpAny_call (codeAny_of_tree ?_)
  show wpAny _ _ (callAny (.type "set") _) _ _ _
  refine wpAny_pure ⟨Code.quiet_builtin _ (by decide +kernel), codeAny_builtin F.entry_type_call ?_⟩
  rw [Around.under_plain (weight_type_call_type "set" [.ref l] []) rfl]
  have h1 := F.called_set.notType
  have h2 := F.called_set.canCreate
  have hct := F.typeCall_set_1 (.ref l)
  repeat (any_goals (first | assumption | wp_step))

  refine codeAny_mono (code_set_led1 (.ref l) (E := E) (Q₁ := fun obj s₁ => obj = .ref s.heap.objs.size ∧ s₁ = { s with heap := s.heap.push (nset w) }) ⟨rfl, rfl⟩) fun r s₁ hr => ?_
  cases r with
  | error e => exact hr
  | ok fl =>
    cases fl with
    | ret obj =>
      obtain ⟨rfl, rfl⟩ := hr
      have hS : (s.heap.push (nset w)).get? s.heap.objs.size = some (nset w) := Heap.get?_push_size _ rfl
      have hT : Shared.TypeIs { s with heap := s.heap.push (nset w) } (.ref s.heap.objs.size) "set" := ⟨_, hS, rfl⟩
      have hli := F.called_set.init.lookup
      have hbi := F.called_set.init.bind (.ref s.heap.objs.size)
      repeat (any_goals (first | assumption | wp_step))

      refine codeAny_mono (codeAny_call_builtin (R := wants (fun r s₂ => r = .none ∧ ∃ h' tk c, s₂ = { s with heap := h', toks := tk } ∧ SetR w h' s.heap.objs.size (fun j => decide (j ∈ ns)) c ∧ c ≤ ns.length ∧
          (∀ b o, s.heap.get? b = some o → h'.get? b = some o)) E) F.called_set.init.plain F.entry_set_init (check_set_init_1 hT ?_)) fun r₂ s₂ hr₂ => ?_
      · obtain ⟨ol, hol, hcl, nl, hdl⟩ := hl
        obtain ⟨ocls, odict, odata, oslots⟩ := ol
        simp only at hcl hdl
        subst hcl; subst hdl
        have hol' : (s.heap.push (nset w)).get? l = some { cls := .type "list", dict := odict, data := .seq items nl, slots := oslots } := Heap.get?_push_of_some _ hol
        have hsls := F.sub_list_set
        have hslf := F.sub_list_frozenset
        have hne : (Value.type "list" == Value.type "dict") = false := by decide
        have hl1 : (s.heap.push (nset w)).IsList l items := ⟨_, hol', rfl, nl, rfl⟩
        unfold Builtin.«set.__init__» noKeywords Builtin.Frozenset.updateFrom
        generalize hPI : pyIter = PI
        wp_walk
        subst hPI

        refine wpAny_pyIter_list hl1 ?_
        refine wpAny_bind (wpAny_runValue ?_)
        have hlS : l < s.heap.objs.size := Heap.lt_size hol
        have hh3 : A.in1.in1.in1.handled = none := by simp [hh]
        have hz1 : (s.heap.push (nset w)).objs.size = s.heap.objs.size + 1 := Heap.size_push ..
        have hneI : l ≠ (s.heap.push (nset w)).objs.size := by
          rw [Heap.size_push]; exact Nat.ne_of_lt (Nat.lt_succ_of_lt hlS)
        have hSf : s.heap.objs.size ∉ [(s.heap.push (nset w)).objs.size, l] := by
          rw [Heap.size_push]; simp only [List.mem_cons, List.mem_singleton, List.not_mem_nil, or_false, not_or]
          exact ⟨Nat.ne_of_lt (Nat.lt_succ_self _), Nat.ne_of_gt hlS⟩
        have hval : ∀ (i : Nat) (v : Value), items[i]? = some v → ∃ k t, ns[i]? = some k ∧ v = .int k t := fun i v hv => by
          have hi : i < ns.length := by rw [← hisz]; exact (Array.getElem?_eq_some_iff.mp hv).1
          obtain ⟨t, e⟩ := PyProof.Rows.IntsAre.int_at hit i v (by rw [Array.getElem?_toList]; exact hv)
          refine ⟨ns[i], t, List.getElem?_eq_getElem hi, ?_⟩
          rw [e, List.getD_eq_getElem?_getD, List.getElem?_eq_getElem hi] <;> rfl
        refine set_update_ints ((Walks.list hh3 _ l hneI items).toS) s.heap.objs.size
          hSf ns hisz hb hval (items.size - 0) 0 _ (by omega) (Nat.zero_le _)
          ⟨⟨_, Heap.get?_push_size _ rfl, rfl, rfl⟩, (hl1.push _)⟩ ?hS0 ?hR
        case hS0 =>
          have hget : ((s.heap.push (nset w)).push { cls := .type "list_iterator", data := .fields #[.ref l, .int 0 0] }).get? s.heap.objs.size
              = some (nset w) := Heap.get?_push_of_some _ hS
          exact ⟨0, Nat.le_refl 0, setR_new_at hget⟩
        case hR =>
          intro s' c' hm hc' hS'
          obtain ⟨h', g2, d', tk', os'⟩ := s'
          have eg : g2 = s.gens := hm.gens
          have ed : d' = s.drawn := hm.drawn
          have eo : os' = s.os := hm.os
          subst eg; subst ed; subst eo
          show wpAny _ _ _ _ _ _
          refine wpAny_pure ?_
          show wpAny _ _ (ret Value.none) _ _ _
          rw [hisz] at hc'
          refine wpAny_pure ⟨rfl, h', tk', c', rfl, hS', hc', fun b o e => ?_⟩
          have hb0 : b < s.heap.objs.size := Heap.lt_size e
          have hb1 : b ≠ s.heap.objs.size := Nat.ne_of_lt hb0
          have hb2 : b ≠ (s.heap.push (nset w)).objs.size := by
            rw [Heap.size_push]; exact Nat.ne_of_lt (Nat.lt_succ_of_lt hb0)
          exact hm.heap b o (by simp only [List.mem_cons, List.mem_singleton, List.not_mem_nil, or_false, not_or]; exact ⟨hb1, hb2⟩) (Heap.get?_push_of_some _ (Heap.get?_push_of_some _ e))

      · cases r₂ with
        | error e => exact hr₂
        | ok fl₂ =>
          cases fl₂ with
          | ret r =>
            obtain ⟨rfl, h', tk, c', rfl, hS', hc', hk'⟩ := hr₂
            repeat (any_goals (first | assumption | wp_step))
            exact h _ _ _ hS' hc' hk'
          | _ => exact hr₂.elim
    | _ => exact hr.elim
end
section
variable {X : Cx}
/-- sorted(set(xs)), xs a list of ints -/
def tSS (K : PySem.W.Frag) (ta : TE) : TE := fun σ H Q => ta σ H fun x H1 => ∃ (l : Addr) (ns : List Int), x = V.ref l ∧ SqL K H1 l (ns.map V.int) ∧ ns.length < 64 ∧
  ∀ (ms : List Int) (p : Addr), ms.Pairwise (· < ·) → (∀ k : Int, k ∈ ms ↔ k ∈ ns) → H1 p = none → Q (.ref p) (upd H1 p (.lst (ms.map V.int)))
theorem pe_sortset {a : Expr} {ta : TE} {p p2 q pos : Pos} (hc : X.calm = true) (hg : Gl X "sorted") (hm : X.mg "sorted" = none) (hg2 : Gl X "set") (hm2 : X.mg "set" = none) (ha : PE X a ta)
    (na : starEach [a] X.env = (false, eval a X.env) :: starEach [] X.env := by rfl) : PE X (.Call (.Name "sorted" p) [.Call (.Name "set" p2) [a] [] q] [] pos) (tSS X.K ta) := by
  refine ⟨fun pins s σ H Q I h => ?_⟩
  refine Call_ (ld_blt I hg hm (by rfl) ?_)
  refine PyProof.Rows.callWith_builtin1 (PyProof.Rows.args_cons ?_ rfl) rfl rfl
  refine Call_ (ld_blt I hg2 hm2 PyProof.Rows.boot_set ?_)
  refine PyProof.Rows.callWith_type1 (PyProof.Rows.args_cons (thn (ha.run pins s σ H _ I h) fun v s1 ⟨x, H1, I1, r1, q1⟩ => PyProof.Rows.args_nil ?_) na) na rfl
  obtain ⟨l, ns, rfl, hq, h1, q1⟩ := q1
  cases r1
  obtain ⟨its, r, pl, hz⟩ := I1.list hq
  refine set_of_list ns (I1.ok.hd hc) pl.isList (by simpa using r.ints) (by unfold scanBound; omega) fun h' tk c R hcn hk => ?_
  refine PyProof.Rows.args_nil ?_
  have I2 : Inv X pins σ H1 { s1 with heap := h', toks := tk } := I1.kept hk
  refine sorted_set R (I1.ok.hd hc) (by omega) fun s' p out c' ms k g o hp hg hi hs hm hl => ?_
  have hlen : (ms.map V.int).length ≤ sizeLine := by rw [List.length_map, hl, sizeLine_eq]; omega
  have hn : H1 p = none := I2.hok.fresh hp
  have J : Inv X pins σ (upd H1 p (.lst (ms.map V.int))) { ({ s1 with heap := h', toks := tk } : Shared) with heap := s'.heap, gens := s'.gens, drawn := s'.drawn, toks := s'.toks } :=
    I2.call (ch := []) (Un.laid k hp hn) (I2.hok.laid k hp ⟨hlen, out.toList, c', vals_of_ints hi, hg⟩) (by rw [g]; exact I2.bare) (fun _ z => nomatch z)
  have e : s' = { s1 with heap := s'.heap, gens := s'.gens, drawn := s'.drawn, toks := s'.toks } := by
    cases s'
    cases s1
    cases o
    rfl
  rw [e]
  exact ⟨.ref p, _, J, rfl, q1 ms p hs (fun k => (hm k).trans decide_eq_true_iff) hn⟩
end
/-! the sum of a tuple of ints -/
section
variable {prog : Program} {w : World} {A : Around} {E : Value → Shared → Prop} {s : Shared} {l : Addr} {its : List Value} {ns : List Int}
theorem sum_intTup {xs : Array (Int × Tok)} {Q : Value → Shared → Prop} (hh : A.handled = none) (hl : s.heap.IsTuple l (intItems xs))
    (h : ∀ h' tk t', (∀ b o, s.heap.get? b = some o → h'.get? b = some o) → Q (.int (preSum (numAt xs) xs.size) t') { s with heap := h', toks := tk }) :
    wpAny (model prog w) A (call (.builtin "sum") [.ref l]) Q E s := by
  have hlt : l < s.heap.objs.size := by obtain ⟨_, e, _⟩ := hl; exact Heap.lt_size e
  refine call_sum_walkG (wpAny_pyIter_tuple hl ?_)
  refine ⟨_, _, _, _, _, _, numAt xs, rfl, Walks.tuple (A := A.in1) hh _ l (Nat.ne_of_lt hlt) (intItems xs), ⟨⟨_, Heap.get?_push_size _ rfl, rfl, rfl⟩, hl.push _⟩, fun b hb => ?_, (fun _ _ => intItems_at), fun h' tk t' hk => ?_⟩
  · show b < (s.heap.push _).objs.size
    rw [Heap.size_push]
    rcases List.mem_cons.mp hb with rfl | hb
    · exact Nat.lt_succ_self _
    · rcases List.mem_cons.mp hb with rfl | hb
      · exact Nat.lt_succ_of_lt hlt
      · cases hb
  · have := h h' tk t' fun b o e => hk b o (fun hb => absurd (Heap.lt_size e) ((List.mem_singleton.mp hb) ▸ Nat.lt_irrefl _)) (Heap.get?_push_of_some _ e)
    simpa [intItems] using this
theorem sum_rawT {Q : Value → Shared → Prop} (hh : A.handled = none) (hl : s.heap.IsTuple l its.toArray) (hi : IntsAre its ns)
    (h : ∀ h' tk t', (∀ b o, s.heap.get? b = some o → h'.get? b = some o) → Q (.int ns.sum t') { s with heap := h', toks := tk }) : wpAny (model prog w) A (call (.builtin "sum") [.ref l]) Q E s := by
  obtain ⟨xs, e⟩ := hi.allInts.items
  have hn : numsOf (intItems xs).toList = ns := by rw [← e]; exact hi.numsOf
  rw [nums_intItems] at hn
  rw [e] at hl
  refine sum_intTup hh hl fun h' tk t' hk => ?_
  have := h h' tk t' hk
  rw [preSum_eq, List.take_of_length_le (by simp), hn]; exact this
end
section
variable {X : Cx}
def rSumT (K : PySem.W.Frag) : List V → Hp → VK → Prop := fun vs H Q => ∃ (a : Addr) (ns : List Int), vs = [V.ref a] ∧ SqT K H a (ns.map V.int) ∧ Q (.int ns.sum) H
theorem cr_sumT (hc : X.calm = true) : CallR X (.builtin "sum") (rSumT X.K) := by
  intro pins s σ H vs us Q I r h
  obtain ⟨a, ns, rfl, hs, q⟩ := h
  obtain ⟨its, rv, hl, _⟩ := I.tuple hs
  rw [Vals.ref1 r]
  exact sum_rawT (I.ok.hd hc) hl rv.ints fun h' tk t' hk => ⟨.int _, H, I.kept hk, ⟨_, rfl⟩, q⟩
end
end Ev
end
section
set_option linter.all false
set_option maxRecDepth 100000
namespace Ev
open PySem PySem.Spec PyProof.Rows L2
section
variable {X : Cx}
/-- tuple(xs) of a list: a tuple that is known whole -/
theorem call_tupleK : CallR X (.type "tuple") (fun xs H Q => ∃ p ys, xs = [V.ref p] ∧ SqL X.K H p ys ∧ ∀ l o, H l = none → o.cls = .type "tuple" → o.dict = none → Q (.ref l) (upd H l (.frz o (.tup ys)))) := by
  intro pins s σ H xs us Q I r h
  obtain ⟨p, ys, rfl, hq, q⟩ := h
  rw [Vals.ref1 r]
  obtain ⟨its, r', pl, hz⟩ := I.list hq
  have hlen := r'.length
  refine call_tuple_list pl.isList (fun h' kp => ?_) (by simp only [List.size_toArray] <;> omega)
  have I1 : Inv X pins σ H { s with heap := h' } := I.kept (t' := s.toks) kp
  have I2 : Inv X pins σ (upd H h'.objs.size (.frz { cls := .type "tuple", data := .seq its.toArray } (.tup ys))) { s with heap := h'.push { cls := .type "tuple", data := .seq its.toArray } } :=
    I1.laid (t' := s.toks) (fun b o e => Heap.get?_push_of_some _ e) (Nat.le_refl _) (show ObjOk X.prog X.w _ _ _ (.frz _ (.tup ys)) from ⟨Heap.get?_push_size _ rfl, hz, its, r', IsTup.new _ _⟩)
  exact ⟨.ref h'.objs.size, _, I2, rfl, q _ _ (I1.hok.fresh (Nat.le_refl _)) rfl rfl⟩
/-- t.count(k) of a known tuple of ints -/
def rCntT (K : PySem.W.Frag) : V → List V → Hp → VK → Prop := fun x xs H Q => ∃ (p : Addr) (ns : List Int) (k : Int), x = .ref p ∧ xs = [.int k] ∧ SqT K H p (ns.map V.int) ∧ Q (.int (ns.count k : Nat)) H
theorem mt_tcount : MtR X "tuple.count" (rCntT X.K) := by
  intro pins s σ H x xs v us Q I rx rxs h
  obtain ⟨p, ns, k, rfl, rfl, hs, q⟩ := h
  cases rx
  obtain ⟨u, rfl, ru⟩ := rxs.one
  obtain ⟨t, rfl⟩ := ru
  obtain ⟨its, rv, ⟨⟨cls, dd, data, sl⟩, ho, hc, n, hd⟩, hlen⟩ := I.tuple hs
  simp only at hc hd
  subst hc hd
  have hi := ints_of_vals rv
  refine call_meets PySem.F.slot_tuple_count ⟨_, ho, rfl⟩ PySem.F.entry_tuple_count (PySem.F.args_tuple_count_2 _ _)
    (SeqAt.tuple_countAt p its.toArray n dd sl (.int k t) (eqk k)) ⟨ho, fun y hy => (eqk_gives hi y (by simpa using hy)).at _ _, ?_⟩
  have ec : its.toArray.toList.countP (eqk k) = ns.count k := eqk_count hi
  refine ⟨.int (ns.count k : Nat), H, I.tok _, ⟨s.toks, ?_⟩, q⟩
  show Value.int ((its.toArray.toList.countP (eqk k) : Nat) : Int) s.toks = Value.int ((ns.count k : Nat) : Int) s.toks
  rw [ec]
/-- the value is a known tuple -/
def tyK (x : V) (H : Hp) : Prop := ∃ p o u, x = .ref p ∧ H p = some (.frz o u) ∧ o.cls = .type "tuple" ∧ o.dict = none
def tBMT (r : V → List V → Hp → VK → Prop) (to : TE) (t : TA) : TE := fun σ H Q => to σ H fun x H1 => tyK x H1 ∧ t σ H1 fun xs H2 => r x xs H2 Q
variable {o e : Expr} {es : List Expr} {to : TE} {t : TA} {name : Str} {apos cpos : Pos} {id : String} {r : V → List V → Hp → VK → Prop}
theorem pe_bmT (pa : PlainAttrs "tuple") (slot : Slot "tuple" name id) (hty : typeOf (.builtin id) = pure (.type "method_descriptor")) (hm : MtR X id r) (ho : PE X o to) (ha : PA X (e :: es) t)
    (hbase : attributeBase o name X.env (eval o X.env) = eval o X.env := by rfl)
    (hfew : ((backTo cpos (starEach (e :: es) X.env)).all (fun x => !x.1) && (backToKw cpos (keywordEach [] X.env)).all (fun x => x.1.isSome)
      && decide ((e :: es).length + ([] : List Keyword).length + (if ([] : List Keyword).isEmpty then 0 else 1) < 30)) = true := by rfl)
    (hline : (apos.endLine == cpos.line) = true := by rfl) (hs : starEach (e :: es) X.env = (false, eval e X.env) :: starEach es X.env := by rfl) (hplain : (backTo cpos (starEach es X.env)).any (·.1) = false := by rfl) :
    PE X (.Call (.Attribute o name apos) (e :: es) [] cpos) (tBMT r to t) := by
  refine ⟨fun pins s σ H Q I h => ?_⟩
  refine wpAny_Call_method_late hbase hfew hline rfl (thn (ho.run pins s σ H _ I h) fun v s1 ⟨x, H1, I1, r1, ty, q1⟩ => ?_)
  have hh : s1.TypeIs v "tuple" ∧ ∀ a, v = .ref a → ∃ ob, s1.heap.get? a = some ob ∧ ob.dict = none := by
    obtain ⟨p, o, u, rfl, hp, hc, hd⟩ := ty
    cases r1
    have ho := (I1.hok p _ hp).1
    exact ⟨⟨o, ho, hc⟩, fun a e => by cases e; exact ⟨o, ho, hd⟩⟩
  obtain ⟨h1, h2⟩ := hh
  refine ⟨"tuple", id, pa, slot, hty, h1, h2, ?_⟩
  have hA := ha.run cpos pins s1 σ H1 _ I1 q1
  rw [hs] at hA ⊢
  refine Calls.callWith_builtin (by show (false || (backTo cpos (starEach es X.env)).any (·.1)) = false; rw [hplain] <;> rfl) (Calls.evalArgs_plain ?_)
  exact thn hA fun us s2 ⟨vs, H2, I2, r2, q2⟩ => hm pins s2 σ H2 x vs v us Q I2 r1 r2 q2
end
end Ev
end
section
set_option Elab.async false
set_option linter.all false
set_option maxRecDepth 100000
set_option maxHeartbeats 4000000
namespace Ev
open PySem PySem.Spec PyProof.Rows L2
abbrev LSt := L2.St

structure Lk where
  P : Program
  w : World
  K : PySem.W.Frag
  mg : Str → Option Value
  base : Heap
  Tb : List (Addr × Str)
  nf : Nat
  fa : Nat → Addr
  ca : Nat → Addr

/-! ### representation -/
mutual
inductive Rep (L : Lk) (Z : Addr → Prop) (ι : List Addr) (H : Hp) : V → PV → Prop
  | non : Rep L Z ι H .non .non
  | bl (b : Bool) : Rep L Z ι H (.bl b) (.bl b)
  | int (i : Int) : Rep L Z ι H (.int i) (.int i)
  | str (x : Str) : Rep L Z ι H (.str x) (.str x)
  | tup {a : Addr} {vs : List V} {xs : List PV} : SqT L.K H a vs → Reps L Z ι H vs xs → Rep L Z ι H (.ref a) (.tup xs)
  | lst {a : Addr} {vs : List V} {xs : List PV} : ¬ Z a → H a = some (.lst vs) → Reps L Z ι H vs xs → Rep L Z ι H (.ref a) (.lst xs)
  | frz {a : Addr} {o : Obj} {vs : List V} {xs : List PV} : H a = some (.frz o (.lst vs)) → Reps L Z ι H vs xs → Rep L Z ι H (.ref a) (.frz xs)
  | frzK {a : Addr} {vs : List V} {xs : List PV} : (∃ (o : Obj) (its : Array Value) (n : Nat), L.K.lookup a = some o ∧ o.cls = .type "list" ∧ o.dict = none ∧ o.data = .seq its n ∧ its.size ≤ sizeLine ∧ Vals vs its.toList) → Reps L Z ι H vs xs → Rep L Z ι H (.ref a) (.frz xs)
  | ref {a : Addr} {n : Nat} : ι[n]? = some a → Rep L Z ι H (.ref a) (.ref n)
  | fn (f : Nat) : f < L.nf → Rep L Z ι H (.ref (L.fa f)) (.fn f)
  | ktp {a : Addr} {o : Obj} {vs : List V} {xs : List PV} : H a = some (.frz o (.tup vs)) → o.cls = .type "tuple" → o.dict = none → Reps L Z ι H vs xs → Rep L Z ι H (.ref a) (.ktp xs)
inductive Reps (L : Lk) (Z : Addr → Prop) (ι : List Addr) (H : Hp) : List V → List PV → Prop
  | nil : Reps L Z ι H [] []
  | cons {v : V} {vs : List V} {x : PV} {xs : List PV} : Rep L Z ι H v x → Reps L Z ι H vs xs → Reps L Z ι H (v :: vs) (x :: xs)
end
def CellR (L : Lk) (Z : Addr → Prop) (ι : List Addr) (H : Hp) (a : Addr) : Cell → Prop
  | .l xs => ∃ vs, H a = some (.lst vs) ∧ Reps L Z ι H vs xs
structure SS (L : Lk) (Z : Addr → Prop) (ι : List Addr) (H : Hp) (st : Store) : Prop where
  len : ι.length = st.length
  nd : ι.Nodup
  sub : ∀ a ∈ ι, Z a
  zin : ∀ a, Z a → ∃ vs, H a = some (.lst vs)
  cell : ∀ (n : Nat) c, st[n]? = some c → ∃ a, ι[n]? = some a ∧ CellR L Z ι H a c
  tabs : LamX.Tabs L.Tb H
structure Ps (Z : Addr → Prop) (ι : List Addr) (H : Hp) (Z' : Addr → Prop) (ι' : List Addr) (H' : Hp) : Prop where
  ex : ∃ more : List Addr, ι' = ι ++ more ∧ (∀ a ∈ more, H a = none) ∧ (∀ a, Z' a ↔ Z a ∨ a ∈ more)
  ext : ∀ a o, a ∉ ι → (∀ ps, o ≠ HO.tbl ps) → H a = some o → H' a = some o
  trk : ∀ a, H a ≠ none → H' a ≠ none
theorem Ps.refl {Z : Addr → Prop} {ι : List Addr} {H : Hp} : Ps Z ι H Z ι H :=
  ⟨⟨[], by simp, by simp, by simp⟩, fun _ _ _ _ h => h, fun _ h => h⟩
theorem Ps.trans {Z Z1 Z2 : Addr → Prop} {ι ι1 ι2 : List Addr} {H H1 H2 : Hp} (p : Ps Z ι H Z1 ι1 H1) (q : Ps Z1 ι1 H1 Z2 ι2 H2) : Ps Z ι H Z2 ι2 H2 := by
  obtain ⟨m1, e1, n1, z1⟩ := p.ex
  obtain ⟨m2, e2, n2, z2⟩ := q.ex
  refine ⟨⟨m1 ++ m2, by rw [e2, e1, List.append_assoc], fun a ha => ?_, fun a => ?_⟩, fun a o ha ho h => ?_, fun a h => q.trk a (p.trk a h)⟩
  · rcases List.mem_append.mp ha with h | h
    · exact n1 a h
    · cases e : H a with
      | none => rfl
      | some o => exact absurd (n2 a h) (p.trk a (by rw [e]; simp))
  · rw [z2, z1, List.mem_append, or_assoc]
  · refine q.ext a o (fun h1 => ?_) ho (p.ext a o ha ho h)
    rw [e1] at h1
    rcases List.mem_append.mp h1 with h2 | h2
    · exact ha h2
    · rw [n1 a h2] at h; cases h
theorem Ps.zmono {Z Z' : Addr → Prop} {ι ι' : List Addr} {H H' : Hp} (p : Ps Z ι H Z' ι' H') {a : Addr} {o : HO} (h : H a = some o) (n : ¬ Z a) : ¬ Z' a := fun hz => by
  obtain ⟨m, _, n1, z⟩ := p.ex
  rcases (z a).mp hz with h1 | h1
  · exact n h1
  · rw [n1 a h1] at h; cases h
theorem Ps.ixmono {Z Z' : Addr → Prop} {ι ι' : List Addr} {H H' : Hp} (p : Ps Z ι H Z' ι' H') {a : Addr} {n : Nat} (h : ι[n]? = some a) : ι'[n]? = some a := by
  obtain ⟨m, e, _, _⟩ := p.ex
  rw [e, List.getElem?_append_left (List.getElem?_eq_some_iff.mp h).1]
  exact h
/-- what a representation leans on -/
structure Pw (Z : Addr → Prop) (ι : List Addr) (H : Hp) (Z' : Addr → Prop) (ι' : List Addr) (H' : Hp) : Prop where
  ix : ∀ (n : Nat) a, ι[n]? = some a → ι'[n]? = some a
  zn : ∀ a, Z' a → Z a ∨ H a = none
  ext : ∀ a o, ¬ Z a → (∀ ps, o ≠ HO.tbl ps) → H a = some o → H' a = some o
  trk : ∀ a, H a ≠ none → H' a ≠ none
theorem Ps.pw {Z Z' : Addr → Prop} {ι ι' : List Addr} {H H' : Hp} (p : Ps Z ι H Z' ι' H') (sub : ∀ a ∈ ι, Z a) : Pw Z ι H Z' ι' H' :=
  ⟨fun _ _ h => p.ixmono h, fun a h => by
    obtain ⟨m, _, n1, z⟩ := p.ex
    exact ((z a).mp h).imp (fun h => h) (n1 a), fun a o h => p.ext a o fun z => h (sub a z), p.trk⟩
theorem Pw.trans {Z Z1 Z2 : Addr → Prop} {ι ι1 ι2 : List Addr} {H H1 H2 : Hp} (p : Pw Z ι H Z1 ι1 H1) (q : Pw Z1 ι1 H1 Z2 ι2 H2) : Pw Z ι H Z2 ι2 H2 := by
  have key : ∀ a, Z1 a ∨ H1 a = none → Z a ∨ H a = none := fun a h => by
    rcases h with h | h
    · exact p.zn a h
    · right
      cases e : H a with
      | none => rfl
      | some o => exact absurd h (p.trk a (by rw [e]; simp))
  refine ⟨fun n a h => q.ix n a (p.ix n a h), fun a h => key a (q.zn a h), fun a o hz ho h => q.ext a o (fun z1 => ?_) ho (p.ext a o hz ho h), fun a h => q.trk a (p.trk a h)⟩
  rcases p.zn a z1 with z | z
  · exact hz z
  · rw [h] at z; cases z
section
variable {L : Lk} {Z Z' : Addr → Prop} {ι ι' : List Addr} {H H' : Hp} {st : Store}
mutual
theorem Rep.mono (zin : ∀ a, Z a → ∃ vs, H a = some (.lst vs)) (p : Pw Z ι H Z' ι' H') : ∀ (v : PV) (V : V), Rep L Z ι H V v → Rep L Z' ι' H' V v
  | .non, _, h => by cases h; exact .non
  | .bl _, _, h => by cases h; exact .bl _
  | .int _, _, h => by cases h; exact .int _
  | .str _, _, h => by cases h; exact .str _
  | .fn _, _, h => by cases h with | fn _ q => exact .fn _ q
  | .ref _, _, h => by cases h with | ref e => exact .ref (p.ix _ _ e)
  | .tup xs, _, h => by
    cases h with
    | tup hs hr =>
      refine .tup ?_ (Reps.mono zin p xs _ hr)
      rcases hs with (hs | ⟨o, hs⟩) | hs
      · refine .inl (.inl (p.ext _ _ (fun hm => ?_) (fun _ z => by cases z) hs))
        obtain ⟨_, e⟩ := zin _ hm
        rw [hs] at e; cases e
      · refine .inl (.inr ⟨o, p.ext _ _ (fun hm => ?_) (fun _ z => by cases z) hs⟩)
        obtain ⟨_, e⟩ := zin _ hm
        rw [hs] at e; cases e
      · exact .inr hs
  | .lst xs, _, h => by
    cases h with
    | lst hz hs hr => exact .lst (fun h2 => (p.zn _ h2).elim hz fun h3 => by rw [hs] at h3; cases h3) (p.ext _ _ hz (fun _ z => by cases z) hs) (Reps.mono zin p xs _ hr)
  | .frz xs, _, h => by
    cases h with
    | frz hs hr =>
      refine .frz (p.ext _ _ (fun hm => ?_) (fun _ z => by cases z) hs) (Reps.mono zin p xs _ hr)
      obtain ⟨_, e⟩ := zin _ hm
      rw [hs] at e; cases e
    | frzK hs hr => exact .frzK hs (Reps.mono zin p xs _ hr)
  | .ktp xs, _, h => by
    cases h with
    | ktp hs hc hd hr =>
      refine .ktp (p.ext _ _ (fun hm => ?_) (fun _ z => by cases z) hs) hc hd (Reps.mono zin p xs _ hr)
      obtain ⟨_, e⟩ := zin _ hm
      rw [hs] at e; cases e
theorem Reps.mono (zin : ∀ a, Z a → ∃ vs, H a = some (.lst vs)) (p : Pw Z ι H Z' ι' H') : ∀ (xs : List PV) (vs : List V), Reps L Z ι H vs xs → Reps L Z' ι' H' vs xs
  | [], _, h => by cases h; exact .nil
  | x :: xs, _, h => by cases h with | cons a b => exact .cons (Rep.mono zin p x _ a) (Reps.mono zin p xs _ b)
end
theorem SS.mono (ss : SS L Z ι H st) (p : Ps Z ι H Z' ι' H') {v : PV} {V : V} (r : Rep L Z ι H V v) : Rep L Z' ι' H' V v := r.mono ss.zin (p.pw ss.sub)
theorem SS.monos (ss : SS L Z ι H st) (p : Ps Z ι H Z' ι' H') {xs : List PV} {vs : List V} (r : Reps L Z ι H vs xs) : Reps L Z' ι' H' vs xs := r.mono ss.zin (p.pw ss.sub)
theorem SS.nz (ss : SS L Z ι H st) {p : Addr} (h : H p = none) : ¬ Z p := fun hz => by
  obtain ⟨_, e⟩ := ss.zin p hz
  rw [h] at e; cases e
theorem Reps.len {vs : List V} {xs : List PV} (r : Reps L Z ι H vs xs) : vs.length = xs.length := by
  induction xs generalizing vs with
  | nil => cases r; rfl
  | cons x xs ih => cases r with | cons a b => simp [ih b]
theorem Reps.get {vs : List V} {xs : List PV} (r : Reps L Z ι H vs xs) {i : Nat} {x : PV} (h : xs[i]? = some x) : ∃ v, vs[i]? = some v ∧ Rep L Z ι H v x := by
  induction xs generalizing vs i with
  | nil => simp at h
  | cons y ys ih =>
    cases r with
    | cons a b =>
      cases i with
      | zero => simp at h; subst h; exact ⟨_, rfl, a⟩
      | succ i => simpa using ih b (i := i) (by simpa using h)
theorem Reps.append {vs ws : List V} {xs ys : List PV} (r : Reps L Z ι H vs xs) (q : Reps L Z ι H ws ys) : Reps L Z ι H (vs ++ ws) (xs ++ ys) := by
  induction xs generalizing vs with
  | nil => cases r; exact q
  | cons x xs ih => cases r with | cons a b => exact .cons a (ih b)
theorem Reps.take {vs : List V} {xs : List PV} (r : Reps L Z ι H vs xs) (n : Nat) : Reps L Z ι H (vs.take n) (xs.take n) := by
  induction xs generalizing vs n with
  | nil => cases r; simp; exact .nil
  | cons x xs ih => cases r with | cons a b => cases n with | zero => exact .nil | succ n => exact .cons a (ih b n)
theorem Reps.drop {vs : List V} {xs : List PV} (r : Reps L Z ι H vs xs) (n : Nat) : Reps L Z ι H (vs.drop n) (xs.drop n) := by
  induction xs generalizing vs n with
  | nil => cases r; simp; exact .nil
  | cons x xs ih => cases r with | cons a b => cases n with | zero => exact .cons a b | succ n => exact ih b n
theorem Reps.rev {vs : List V} {xs : List PV} (r : Reps L Z ι H vs xs) : Reps L Z ι H vs.reverse xs.reverse := by
  induction xs generalizing vs with
  | nil => cases r; exact .nil
  | cons x xs ih => cases r with | cons a b => rw [List.reverse_cons, List.reverse_cons]; exact (ih b).append (.cons a .nil)
theorem Reps.rep {vs : List V} {xs : List PV} (r : Reps L Z ι H vs xs) : ∀ k : Nat, Reps L Z ι H (List.replicate k vs).flatten (List.replicate k xs).flatten
  | 0 => .nil
  | k + 1 => by rw [List.replicate_succ, List.replicate_succ, List.flatten_cons, List.flatten_cons]; exact r.append (r.rep k)
theorem Reps.set {vs : List V} {xs : List PV} (r : Reps L Z ι H vs xs) {v : V} {x : PV} (h : Rep L Z ι H v x) (n : Nat) : Reps L Z ι H (vs.set n v) (xs.set n x) := by
  induction xs generalizing vs n with
  | nil => cases r; exact .nil
  | cons y ys ih => cases r with | cons a b => cases n with | zero => exact .cons h b | succ n => exact .cons a (ih b n)
theorem Reps.cut {vs : List V} {xs : List PV} (r : Reps L Z ι H vs xs) (lo hi : Option Int) : Reps L Z ι H (cutV vs lo hi) (cut xs lo hi) := by
  unfold cutV Ev.cut
  rw [r.len]
  exact (r.drop _).take _
/-! a new object at a free address -/
theorem Ps.new {p : Addr} {o : HO} (h : H p = none) : Ps Z ι H Z ι (upd H p o) :=
  ⟨⟨[], by simp, by simp, by simp⟩, fun a u _ _ e => by rw [upd_ne (ne_of_none e h)]; exact e, fun a n => by
    by_cases hb : a = p
    · subst hb; rw [upd_same]; simp
    · rw [upd_ne hb]; exact n⟩
theorem tabs_keep {T : List (Addr × Str)} {H H' : Hp} (t : LamX.Tabs T H) (e : ∀ b o, (∀ xs, o ≠ .lst xs) → H b = some o → H' b = some o) : LamX.Tabs T H' := fun p hp => by
  obtain ⟨ps, h1, h2, h3⟩ := t p hp
  refine ⟨ps, e _ _ (fun _ z => by cases z) h1, h2, fun pos cv hc => ?_⟩
  obtain ⟨c, e1, e2⟩ := h3 pos cv hc
  exact ⟨c, e1, e _ _ (fun _ z => by unfold LamX.CodeO at z; cases z) e2⟩
theorem CellR.mono (zin : ∀ a, Z a → ∃ vs, H a = some (.lst vs)) (p : Pw Z ι H Z' ι' H') {a : Addr} {c : Cell} (hk : ∀ vs, H a = some (.lst vs) → H' a = some (.lst vs)) (h : CellR L Z ι H a c) : CellR L Z' ι' H' a c := by
  cases c with
  | l xs =>
    obtain ⟨vs, e, r⟩ := h
    exact ⟨vs, hk _ e, r.mono zin p⟩
theorem SS.new (ss : SS L Z ι H st) {p : Addr} {o : HO} (h : H p = none) : SS L Z ι (upd H p o) st := by
  have keep : ∀ b u, H b = some u → upd H p o b = some u := fun b u e => by rw [upd_ne (ne_of_none e h)]; exact e
  refine ⟨ss.len, ss.nd, ss.sub, fun a hz => ?_, fun n c hc => ?_, ss.tabs.ext keep⟩
  · obtain ⟨vs, e⟩ := ss.zin a hz
    exact ⟨vs, keep _ _ e⟩
  · obtain ⟨a, e, r⟩ := ss.cell n c hc
    exact ⟨a, e, r.mono ss.zin ((Ps.new h).pw ss.sub) fun vs => keep _ _⟩
theorem SS.newL (ss : SS L Z ι H st) {p : Addr} {vs : List V} {xs : List PV} (h : H p = none) (r : Reps L Z ι H vs xs) : Rep L Z ι (upd H p (.lst vs)) (.ref p) (.lst xs) :=
  .lst (ss.nz h) upd_same (ss.monos (Ps.new h) r)
theorem SS.newT (ss : SS L Z ι H st) {p : Addr} {vs : List V} {xs : List PV} (h : H p = none) (r : Reps L Z ι H vs xs) : Rep L Z ι (upd H p (.tup vs)) (.ref p) (.tup xs) :=
  .tup (.inl (.inl upd_same)) (ss.monos (Ps.new h) r)
/-- a new list becomes a cell -/
theorem SS.newC (ss : SS L Z ι H st) {p : Addr} {vs : List V} {xs : List PV} (h : H p = none) (r : Reps L Z ι H vs xs) :
    Ps Z ι H (fun a => Z a ∨ a = p) (ι ++ [p]) (upd H p (.lst vs)) ∧ SS L (fun a => Z a ∨ a = p) (ι ++ [p]) (upd H p (.lst vs)) (st ++ [.l xs]) ∧ Rep L (fun a => Z a ∨ a = p) (ι ++ [p]) (upd H p (.lst vs)) (.ref p) (.ref st.length) := by
  have keep : ∀ b u, H b = some u → upd H p (.lst vs) b = some u := fun b u e => by rw [upd_ne (ne_of_none e h)]; exact e
  have ps : Ps Z ι H (fun a => Z a ∨ a = p) (ι ++ [p]) (upd H p (.lst vs)) :=
    ⟨⟨[p], rfl, by simpa using h, by simp⟩, (Ps.new (Z := Z) (ι := ι) h).ext, (Ps.new (Z := Z) (ι := ι) h).trk⟩
  refine ⟨ps, ⟨by simp [ss.len], ?_, fun a ha => ?_, fun a hz => ?_, fun n c hc => ?_, ss.tabs.ext keep⟩, .ref ?_⟩
  · rw [List.nodup_append]
    refine ⟨ss.nd, by simp, fun a ha b hb => ?_⟩
    have e : b = p := by simpa using hb
    subst e
    intro e; subst e
    exact ss.nz h (ss.sub _ ha)
  · rcases List.mem_append.mp ha with e | e
    · exact .inl (ss.sub a e)
    · exact .inr (by simpa using e)
  · rcases hz with hz | rfl
    · obtain ⟨vs', e⟩ := ss.zin a hz
      exact ⟨vs', keep _ _ e⟩
    · exact ⟨vs, upd_same⟩
  · by_cases hn : n < st.length
    · rw [List.getElem?_append_left hn] at hc
      obtain ⟨a, e, q⟩ := ss.cell n c hc
      exact ⟨a, by rw [List.getElem?_append_left (List.getElem?_eq_some_iff.mp e).1]; exact e, q.mono ss.zin (ps.pw ss.sub) fun vs => keep _ _⟩
    · rw [List.getElem?_append_right (by omega)] at hc
      have hn2 : n = st.length := by
        have := (List.getElem?_eq_some_iff.mp hc).1
        simp at this; omega
      subst hn2
      simp at hc
      subst hc
      exact ⟨p, by rw [← ss.len]; simp, vs, upd_same, ss.monos ps r⟩
  · rw [← ss.len]; simp
theorem nodup_at {α : Type} {l : List α} (nd : l.Nodup) {m n : Nat} {a : α} (h : l[m]? = some a) (h' : l[n]? = some a) : m = n := by
  induction l generalizing m n with
  | nil => simp at h
  | cons x xs ih =>
    obtain ⟨n1, n2⟩ := List.nodup_cons.mp nd
    cases m with
    | zero =>
      cases n with
      | zero => rfl
      | succ n =>
        simp at h h'
        subst h
        exact absurd (List.mem_of_getElem? h') n1
    | succ m =>
      cases n with
      | zero =>
        simp at h h'
        subst h'
        exact absurd (List.mem_of_getElem? h) n1
      | succ n => exact congrArg (· + 1) (ih n2 (m := m) (n := n) (by simpa using h) (by simpa using h'))
/-- a cell is written -/
theorem SS.write (ss : SS L Z ι H st) {p : Addr} {n : Nat} {vs : List V} {xs : List PV} (e : ι[n]? = some p) (r : Reps L Z ι H vs xs) :
    Ps Z ι H Z ι (upd H p (.lst vs)) ∧ SS L Z ι (upd H p (.lst vs)) (st.set n (.l xs)) := by
  have hp : p ∈ ι := List.mem_of_getElem? e
  have nn : H p ≠ none := fun z => ss.nz z (ss.sub p hp)
  have ps : Ps Z ι H Z ι (upd H p (.lst vs)) := ⟨⟨[], by simp, by simp, by simp⟩, fun a o ha _ h => by
      have na : a ≠ p := fun z => ha (by rw [z]; exact hp)
      rw [upd_ne na]; exact h, fun a h => by
    by_cases hb : a = p
    · subst hb; rw [upd_same]; simp
    · rw [upd_ne hb]; exact h⟩
  refine ⟨ps, by simpa using ss.len, ss.nd, ss.sub, fun a hz => ?_, fun m c hc => ?_, tabs_keep ss.tabs fun b o ho h => ?_⟩
  · by_cases hb : a = p
    · subst hb; exact ⟨vs, upd_same⟩
    · rw [upd_ne hb]; exact ss.zin a hz
  · by_cases hm : m = n
    · subst hm
      have hl : m < st.length := by
        have := (List.getElem?_eq_some_iff.mp hc).1
        simpa using this
      rw [List.getElem?_set_self hl] at hc
      cases hc
      exact ⟨p, e, vs, upd_same, ss.monos ps r⟩
    · rw [List.getElem?_set_ne (Ne.symm hm)] at hc
      obtain ⟨a, ea, q⟩ := ss.cell m c hc
      refine ⟨a, ea, q.mono ss.zin (ps.pw ss.sub) fun ws h => ?_⟩
      rw [upd_ne]
      · exact h
      · intro z
        subst z
        exact hm (nodup_at ss.nd ea e)
  · rw [upd_ne]
    · exact h
    · intro z
      subst z
      obtain ⟨ws, e'⟩ := ss.zin b (ss.sub b hp)
      rw [h] at e'
      exact ho ws (Option.some.inj e')
/-- what a name reads as -/
theorem SS.derefL (ss : SS L Z ι H st) {V : V} {v : PV} {xs : List PV} (r : Rep L Z ι H V v) (h : deref st v = .lst xs) : ∃ p vs, V = .ref p ∧ H p = some (.lst vs) ∧ Reps L Z ι H vs xs := by
  cases v with
  | lst ys =>
    have e : ys = xs := by simpa [deref] using h
    subst e
    cases r with
    | lst _ hs hr => exact ⟨_, _, rfl, hs, hr⟩
  | ref n =>
    cases r with
    | ref e =>
      unfold deref at h
      cases hc : st[n]? with
      | none => simp [hc] at h
      | some c =>
        cases c with
        | l ys =>
          simp [hc] at h
          subst h
          obtain ⟨a, ea, vs, e1, e2⟩ := ss.cell n _ hc
          rw [e] at ea; cases ea
          exact ⟨_, vs, rfl, e1, e2⟩
  | _ => simp [deref] at h
theorem rep_T {L : Lk} {Z : Addr → Prop} {ι : List Addr} {H : Hp} {x : V} {v : PV} {xs : List PV} (h : deref st v = .tup xs) (r : Rep L Z ι H x v) : Rep L Z ι H x (.tup xs) := by
  cases v with
  | ref n =>
    unfold deref at h
    cases hc : st[n]? with
    | none => simp [hc] at h
    | some c => cases c; simp [hc] at h
  | ktp ys =>
    simp only [deref] at h
    cases h
    cases r with
    | ktp hs hc hd hr => exact .tup (.inl (.inr ⟨_, hs⟩)) hr
  | tup ys => simp only [deref] at h; cases h; exact r
  | _ => simp [deref] at h
theorem deref_I {v : PV} {i : Int} (h : deref st v = .int i) : v = .int i := by
  cases v with
  | ref n =>
    unfold deref at h
    cases hc : st[n]? with
    | none => simp [hc] at h
    | some c => cases c; simp [hc] at h
  | _ => simpa [deref] using h
theorem deref_S {v : PV} {i : Str} (h : deref st v = .str i) : v = .str i := by
  cases v with
  | ref n =>
    unfold deref at h
    cases hc : st[n]? with
    | none => simp [hc] at h
    | some c => cases c; simp [hc] at h
  | _ => simpa [deref] using h
theorem deref_B {v : PV} {i : Bool} (h : deref st v = .bl i) : v = .bl i := by
  cases v with
  | ref n =>
    unfold deref at h
    cases hc : st[n]? with
    | none => simp [hc] at h
    | some c => cases c; simp [hc] at h
  | _ => simpa [deref] using h
theorem deref_N {v : PV} (h : deref st v = .non) : v = .non := by
  cases v with
  | ref n =>
    unfold deref at h
    cases hc : st[n]? with
    | none => simp [hc] at h
    | some c => cases c; simp [hc] at h
  | _ => simpa [deref] using h
theorem deref_F {v : PV} {xs : List PV} (h : deref st v = .frz xs) : v = .frz xs := by
  cases v with
  | ref n =>
    unfold deref at h
    cases hc : st[n]? with
    | none => simp [hc] at h
    | some c => cases c; simp [hc] at h
  | _ => simpa [deref] using h
end
end Ev
end
section
set_option Elab.async false
set_option linter.all false
set_option maxRecDepth 100000
set_option maxHeartbeats 4000000
namespace Ev
open PySem PySem.Spec PyProof.Rows L2
theorem mulOk_ok {i j : Int} (h : mulOk i j = true) : IntMulOk i j := by
  have b : ∀ x : Int, Builtin.Int.intBits x ≤ x.natAbs.log2 + 1 := fun x => by
    unfold Builtin.Int.intBits
    split <;> omega
  have h1 := b i
  have h2 := b j
  have h3 : i.natAbs.log2 + j.natAbs.log2 < 60000000 := of_decide_eq_true h
  have e : bitsLine = 134217728 := by decide
  unfold IntMulOk
  intro z
  rw [Bool.and_eq_true] at z
  have z2 := z.2
  unfold Builtin.Int.intTooBig at z2
  have z3 := of_decide_eq_true z2
  rw [e] at z3
  omega
theorem lim_line {n : Nat} (h : n ≤ lim) : n ≤ sizeLine := by
  rw [sizeLine_eq]
  unfold lim at h
  omega
section
variable {X : Cx}
theorem op_mulV : OpR X (binaryOp .Mult) (rI (fun i j => mulOk i j = true) fun i j => .int (i * j)) := opI fun _ _ _ _ _ _ _ hc q => mul_int q (mulOk_ok hc)
end
/-- what is wanted of a value that comes: it may lie in new objects, no cell is new -/
def Outs (L : Lk) (Z : Addr → Prop) (ι : List Addr) (st : Store) (H : Hp) (v : PV) (Q : VK) : Prop :=
  ∀ V H', Ps Z ι H Z ι H' → SS L Z ι H' st → Rep L Z ι H' V v → Q V H'
section
variable {L : Lk} {Z : Addr → Prop} {ι : List Addr} {st : Store} {H : Hp} {Q : VK}
theorem Outs.here {v : PV} {V : V} (o : Outs L Z ι st H v Q) (ss : SS L Z ι H st) (r : Rep L Z ι H V v) : Q V H := o V H .refl ss r
theorem Outs.lst {xs : List PV} {vs : List V} (o : Outs L Z ι st H (.lst xs) Q) (ss : SS L Z ι H st) (r : Reps L Z ι H vs xs) : ∀ p, H p = none → Q (.ref p) (upd H p (.lst vs)) :=
  fun p h => o _ _ (Ps.new h) (ss.new h) (ss.newL h r)
theorem Outs.tup {xs : List PV} {vs : List V} (o : Outs L Z ι st H (.tup xs) Q) (ss : SS L Z ι H st) (r : Reps L Z ι H vs xs) : ∀ p, H p = none → Q (.ref p) (upd H p (.tup vs)) :=
  fun p h => o _ _ (Ps.new h) (ss.new h) (ss.newT h r)
theorem Outs.ktp {xs : List PV} {vs : List V} (o : Outs L Z ι st H (.ktp xs) Q) (ss : SS L Z ι H st) (r : Reps L Z ι H vs xs) : ∀ p (ob : Obj), H p = none → ob.cls = .type "tuple" → ob.dict = none → Q (.ref p) (upd H p (.frz ob (.tup vs))) :=
  fun p ob h hc hd => o _ _ (Ps.new h) (ss.new h) (.ktp upd_same hc hd (ss.monos (Ps.new h) r))
end
def bop : BOp → Operator
  | .add => .Add | .sub => .Sub | .mul => .Mult | .fdiv => .FloorDiv | .mod => .Mod | .pow => .Pow
def rB (L : Lk) (op : BOp) : R2 := fun x y H Q => ∃ Z ι st a b v, SS L Z ι H st ∧ Rep L Z ι H x a ∧ Rep L Z ι H y b ∧ pyBin op (deref st a) (deref st b) = some v ∧ Outs L Z ι st H v Q
/-- the new list becomes a cell -/
def rBC (L : Lk) (op : BOp) : R2 := fun x y H Q => ∃ Z ι st a b xs, SS L Z ι H st ∧ Rep L Z ι H x a ∧ Rep L Z ι H y b ∧ pyBin op (deref st a) (deref st b) = some (.lst xs) ∧ ∀ p vs, H p = none → Reps L Z ι H vs xs → Q (.ref p) (upd H p (.lst vs))
theorem intOp_inv {c : Int → Int → Bool} {f : Int → Int → Int} {a b v : PV} (h : intOp c f a b = some v) : ∃ i j, a = .int i ∧ b = .int j ∧ c i j = true ∧ v = .int (f i j) := by
  unfold intOp at h
  split at h
  · rename_i i j
    split at h
    · rename_i hc
      exact ⟨i, j, rfl, rfl, hc, (Option.some.inj h).symm⟩
    · cases h
  · cases h
theorem pyAdd_inv {a b v : PV} (h : pyAdd a b = some v) : (∃ i j, a = .int i ∧ b = .int j ∧ v = .int (i + j)) ∨ (∃ xs ys, a = .lst xs ∧ b = .lst ys ∧ xs.length + ys.length ≤ lim ∧ v = .lst (xs ++ ys)) ∨
    (∃ xs ys, a = .tup xs ∧ b = .tup ys ∧ xs.length + ys.length ≤ lim ∧ v = .tup (xs ++ ys)) ∨ (∃ x y, a = .str x ∧ b = .str y ∧ x.length + y.length ≤ lim ∧ v = .str (x ++ y)) := by
  unfold pyAdd at h
  split at h
  · exact .inl ⟨_, _, rfl, rfl, (Option.some.inj h).symm⟩
  · split at h
    · rename_i hc
      exact .inr (.inl ⟨_, _, rfl, rfl, hc, (Option.some.inj h).symm⟩)
    · cases h
  · split at h
    · rename_i hc
      exact .inr (.inr (.inl ⟨_, _, rfl, rfl, hc, (Option.some.inj h).symm⟩))
    · cases h
  · split at h
    · rename_i hc
      exact .inr (.inr (.inr ⟨_, _, rfl, rfl, hc, (Option.some.inj h).symm⟩))
    · cases h
  · cases h
theorem pyMul_inv {a b v : PV} (h : pyMul a b = some v) : (∃ i j, a = .int i ∧ b = .int j ∧ mulOk i j = true ∧ v = .int (i * j)) ∨ (∃ xs k, a = .lst xs ∧ b = .int k ∧ 0 ≤ k ∧ k < 100000 ∧ xs.length * k.toNat ≤ lim ∧ v = .lst (List.replicate k.toNat xs).flatten) ∨
    (∃ xs k, a = .tup xs ∧ b = .int k ∧ 0 ≤ k ∧ k ≤ 1000 ∧ xs.length ≤ 1000 ∧ xs.isEmpty = false ∧ v = .tup (List.replicate k.toNat xs).flatten) := by
  unfold pyMul at h
  split at h
  · split at h
    · rename_i hc
      exact .inl ⟨_, _, rfl, rfl, hc, (Option.some.inj h).symm⟩
    · cases h
  · split at h
    · rename_i hc
      exact .inr (.inl ⟨_, _, rfl, rfl, hc.1, hc.2.1, hc.2.2, (Option.some.inj h).symm⟩)
    · cases h
  · split at h
    · rename_i hc
      exact .inr (.inr ⟨_, _, rfl, rfl, hc.1, hc.2.1, hc.2.2.1, hc.2.2.2, (Option.some.inj h).symm⟩)
    · cases h
  · cases h
theorem pyBin_lst {op : BOp} {a b : PV} {xs : List PV} (h : pyBin op a b = some (.lst xs)) :
    (∃ ys zs, op = .add ∧ a = .lst ys ∧ b = .lst zs ∧ ys.length + zs.length ≤ lim ∧ xs = ys ++ zs) ∨ (∃ ys k, op = .mul ∧ a = .lst ys ∧ b = .int k ∧ 0 ≤ k ∧ k < 100000 ∧ ys.length * k.toNat ≤ lim ∧ xs = (List.replicate k.toNat ys).flatten) := by
  cases op with
  | add =>
    rcases pyAdd_inv h with ⟨i, j, _, _, e⟩ | ⟨ys, zs, e1, e2, hl, e⟩ | ⟨_, _, _, _, _, e⟩ | ⟨_, _, _, _, _, e⟩ <;> cases e
    exact .inl ⟨ys, zs, rfl, e1, e2, hl, rfl⟩
  | mul =>
    rcases pyMul_inv h with ⟨i, j, _, _, _, e⟩ | ⟨ys, k, e1, e2, h0, h1, hl, e⟩ | ⟨_, _, _, _, _, _, _, _, e⟩ <;> cases e
    exact .inr ⟨ys, k, rfl, e1, e2, h0, h1, hl, rfl⟩
  | sub => obtain ⟨_, _, _, _, _, e⟩ := intOp_inv h; cases e
  | fdiv => obtain ⟨_, _, _, _, _, e⟩ := intOp_inv h; cases e
  | mod => obtain ⟨_, _, _, _, _, e⟩ := intOp_inv h; cases e
  | pow => obtain ⟨_, _, _, _, _, e⟩ := intOp_inv h; cases e
section
variable {X : Cx} {L : Lk}
theorem op_listC (hK : X.K = L.K) (op : BOp) {pins : List (Addr × Obj)} {s : Shared} {σ : LSt} {H : Hp} {x y : V} {v u : Value} {Q : VK} (I : Inv X pins σ H s) (rx : RelV x v) (ry : RelV y u)
    {Z : Addr → Prop} {ι : List Addr} {st : Store} {a b : PV} {xs : List PV} (ss : SS L Z ι H st) (ra : Rep L Z ι H x a) (rb : Rep L Z ι H y b) (h : pyBin op (deref st a) (deref st b) = some (.lst xs))
    (q : ∀ p vs, H p = none → Reps L Z ι H vs xs → Q (.ref p) (upd H p (.lst vs))) : wpAny (model X.prog X.w) X.A (binaryOp (bop op) v u) (EP X pins σ Q) X.xe s := by
  rcases pyBin_lst h with ⟨ys, zs, rfl, e1, e2, hl, rfl⟩ | ⟨ys, k, rfl, e1, e2, h0, h1, hl, rfl⟩
  · obtain ⟨p, vs, rfl, hp, r1⟩ := ss.derefL ra e1
    obtain ⟨p2, vs2, rfl, hp2, r2⟩ := ss.derefL rb e2
    exact op_cat pins s σ H _ _ v u Q I rx ry ⟨p, p2, vs, vs2, rfl, rfl, hp, hp2, by rw [r1.len, r2.len]; exact lim_line hl, fun p hn => q p _ hn (r1.append r2)⟩
  · obtain ⟨p, vs, rfl, hp, r1⟩ := ss.derefL ra e1
    have e2 := deref_I e2
    subst e2
    cases rb
    exact op_rep pins s σ H _ _ v u Q I rx ry ⟨p, k, vs, rfl, rfl, hp, by omega, by omega, by rw [r1.len]; exact lim_line hl, fun p hn => q p _ hn (r1.rep k.toNat)⟩
theorem op_BC (hK : X.K = L.K) (op : BOp) : OpR X (binaryOp (bop op)) (rBC L op) := by
  intro pins s σ H x y v u Q I rx ry h
  obtain ⟨Z, ι, st, a, b, xs, ss, ra, rb, h, o⟩ := h
  exact op_listC hK op I rx ry ss ra rb h o
theorem int_of {Z : Addr → Prop} {ι : List Addr} {H : Hp} {x : V} {i : Int} (r : Rep L Z ι H x (.int i)) : x = .int i := by cases r; rfl
theorem op_B (hK : X.K = L.K) (op : BOp) : OpR X (binaryOp (bop op)) (rB L op) := by
  intro pins s σ H x y v u Q I rx ry h
  obtain ⟨Z, ι, st, a, b, w, ss, ra, rb, h, o⟩ := h
  cases op with
  | add =>
    have h0 := h
    rcases pyAdd_inv h with ⟨i, j, e1, e2, rfl⟩ | ⟨ys, zs, e1, e2, hl, rfl⟩ | ⟨ys, zs, e1, e2, hl, rfl⟩ | ⟨p, q, e1, e2, hl, rfl⟩
    · rw [deref_I e1] at ra; rw [deref_I e2] at rb
      exact op_add pins s σ H _ _ v u Q I rx ry ⟨i, j, int_of ra, int_of rb, o.here ss (.int _)⟩
    · exact op_listC hK .add I rx ry ss ra rb h0 fun p vs hn r => o.lst ss r p hn
    · replace ra := rep_T e1 ra; replace rb := rep_T e2 rb
      cases ra with
      | tup t1 r1 =>
        cases rb with
        | tup t2 r2 =>
          rw [← hK] at t1 t2
          refine op_catA pins s σ H _ _ v u Q I rx ry ⟨_, _, _, _, rfl, rfl, t1, t2, by rw [r1.len, r2.len]; exact lim_line hl, fun e => ?_, fun _ e => ?_, fun _ _ => o.tup ss (r1.append r2)⟩
          · subst e
            cases r1
            exact o.here ss (.tup (hK ▸ t2) r2)
          · subst e
            cases r2
            rw [List.append_nil] at o
            exact o.here ss (.tup (hK ▸ t1) r1)
    · rw [deref_S e1] at ra; rw [deref_S e2] at rb
      cases ra; cases rb
      exact op_add_str pins s σ H _ _ v u Q I rx ry ⟨_, _, rfl, rfl, lim_line hl, o.here ss (.str _)⟩
  | mul =>
    have h0 := h
    rcases pyMul_inv h with ⟨i, j, e1, e2, hm, rfl⟩ | ⟨ys, k, e1, e2, _, _, _, rfl⟩ | ⟨ys, k, e1, e2, k1, k2, k3, k4, rfl⟩
    · rw [deref_I e1] at ra; rw [deref_I e2] at rb
      exact op_mulV pins s σ H _ _ v u Q I rx ry ⟨i, j, int_of ra, int_of rb, hm, o.here ss (.int _)⟩
    · exact op_listC hK .mul I rx ry ss ra rb h0 fun p vs hn r => o.lst ss r p hn
    · replace ra := rep_T e1 ra; rw [deref_I e2] at rb
      cases ra with
      | tup t1 r1 =>
        rw [← hK] at t1
        have hne : ∀ {us : List V}, Reps L Z ι H us ys → us ≠ [] := fun r1 e => by
          subst e
          cases r1
          cases k4
        by_cases k0 : 2 ≤ k
        · exact op_repT pins s σ H _ _ v u Q I rx ry ⟨_, k, _, rfl, int_of rb, t1, hne r1, k0, k2, by rw [r1.len]; exact k3, o.tup ss (r1.rep k.toNat)⟩
        · have k01 : k = 1 ∨ k = 0 := by omega
          rcases k01 with rfl | rfl
          · refine op_rep01 pins s σ H _ _ v u Q I rx ry ⟨_, 1, _, rfl, int_of rb, t1, hne r1, .inl ⟨rfl, ?_⟩⟩
            have e : (List.replicate (Int.toNat 1) ys).flatten = ys := by simp
            rw [e] at o
            exact o.here ss (.tup (hK ▸ t1) r1)
          · exact op_rep01 pins s σ H _ _ v u Q I rx ry ⟨_, 0, _, rfl, int_of rb, t1, hne r1, .inr ⟨rfl, o.tup ss .nil⟩⟩
  | sub =>
    obtain ⟨i, j, e1, e2, _, rfl⟩ := intOp_inv h
    rw [deref_I e1] at ra; rw [deref_I e2] at rb
    exact op_sub pins s σ H _ _ v u Q I rx ry ⟨i, j, int_of ra, int_of rb, o.here ss (.int _)⟩
  | fdiv =>
    obtain ⟨i, j, e1, e2, hc, rfl⟩ := intOp_inv h
    rw [deref_I e1] at ra; rw [deref_I e2] at rb
    have hc' : (decide (0 < j) && decide (j.natAbs.log2 < 9000)) = true := hc
    rw [Bool.and_eq_true] at hc'
    exact op_fdivW pins s σ H _ _ v u Q I rx ry ⟨i, j, int_of ra, int_of rb, ⟨of_decide_eq_true hc'.1, of_decide_eq_true hc'.2⟩, o.here ss (.int _)⟩
  | mod =>
    obtain ⟨i, j, e1, e2, hc, rfl⟩ := intOp_inv h
    rw [deref_I e1] at ra; rw [deref_I e2] at rb
    exact op_mod pins s σ H _ _ v u Q I rx ry ⟨i, j, int_of ra, int_of rb, of_decide_eq_true hc, o.here ss (.int _)⟩
  | pow =>
    obtain ⟨i, j, e1, e2, hc, rfl⟩ := intOp_inv h
    rw [deref_I e1] at ra; rw [deref_I e2] at rb
    have hc' : (decide (0 ≤ j ∧ j ≤ 1000) && decide (i.natAbs < 2 ^ 64)) = true := hc
    rw [Bool.and_eq_true] at hc'
    have h1 := of_decide_eq_true hc'.1
    exact op_pow pins s σ H _ _ v u Q I rx ry ⟨i, j, int_of ra, int_of rb, ⟨h1.1, by omega, of_decide_eq_true hc'.2⟩, o.here ss (.int _)⟩
end
end Ev
end
section
set_option Elab.async false
set_option linter.all false
set_option maxRecDepth 100000
set_option maxHeartbeats 4000000
namespace Ev
open PySem PySem.Spec PyProof.Rows L2
section
variable {L : Lk} {Z : Addr → Prop} {ι : List Addr} {H : Hp} {st : Store}
mutual
theorem Rep.dp : ∀ (v : PV) (V : V) (d : PyData), Rep L Z ι H V v → v.toD = some d → Dp L.K H V d
  | .non, _, _, h, e => by cases h; cases e; exact .non
  | .bl _, _, _, h, e => by cases h; cases e; exact .bl _
  | .int _, _, _, h, e => by cases h; cases e; exact .int _
  | .str _, _, _, h, e => by cases h; cases e; exact .str _
  | .fn _, _, _, _, e => by cases e
  | .ref _, _, _, _, e => by cases e
  | .frz _, _, _, _, e => by cases e
  | .ktp _, _, _, _, e => by cases e
  | .tup xs, _, d, h, e => by
    simp only [PV.toD] at e
    cases hx : toDs xs with
    | none => rw [hx] at e; cases e
    | some ds =>
      rw [hx] at e
      cases e
      cases h with
      | tup hs hr => exact .tup hs (Reps.dp xs _ _ hr hx)
  | .lst xs, _, d, h, e => by
    simp only [PV.toD] at e
    cases hx : toDs xs with
    | none => rw [hx] at e; cases e
    | some ds =>
      rw [hx] at e
      cases e
      cases h with
      | lst _ hs hr => exact .lst (.inl (.inl hs)) (Reps.dp xs _ _ hr hx)
theorem Reps.dp : ∀ (xs : List PV) (vs : List V) (ds : List PyData), Reps L Z ι H vs xs → toDs xs = some ds → DpAll L.K H vs ds
  | [], _, _, h, e => by cases h; cases e; exact .nil
  | x :: xs, _, ds, h, e => by
    cases h with
    | cons a b =>
      simp only [toDs] at e
      cases h1 : x.toD with
      | none => rw [h1] at e; cases e
      | some d =>
        cases h2 : toDs xs with
        | none => rw [h1, h2] at e; cases e
        | some ds' =>
          rw [h1, h2] at e
          cases e
          exact .cons (Rep.dp x _ _ a h1) (Reps.dp xs _ _ b h2)
end
theorem SS.dp (ss : SS L Z ι H st) {V : V} {v : PV} {d : PyData} (r : Rep L Z ι H V v) (e : (deref st v).toD = some d) : Dp L.K H V d := by
  cases hv : deref st v with
  | lst xs =>
    obtain ⟨p, vs, rfl, hp, hr⟩ := ss.derefL r hv
    rw [hv] at e
    simp only [PV.toD] at e
    cases hx : toDs xs with
    | none => rw [hx] at e; cases e
    | some ds =>
      rw [hx] at e
      cases e
      exact .lst (.inl (.inl hp)) (Reps.dp xs _ _ hr hx)
  | tup xs => replace r := rep_T hv r; rw [hv] at e; exact r.dp _ _ _ e
  | int i => rw [deref_I hv] at r; rw [hv] at e; exact r.dp _ _ _ e
  | str i => rw [deref_S hv] at r; rw [hv] at e; exact r.dp _ _ _ e
  | bl i => rw [deref_B hv] at r; rw [hv] at e; exact r.dp _ _ _ e
  | non => rw [deref_N hv] at r; rw [hv] at e; exact r.dp _ _ _ e
  | frz xs => rw [hv] at e; cases e
  | ktp xs => rw [hv] at e; cases e
  | ref n => rw [hv] at e; cases e
  | fn f => rw [hv] at e; cases e
end
def cop : COp → CmpOp
  | .eq => .Eq | .ne => .NotEq | .lt => .Lt | .le => .LtE | .gt => .Gt | .ge => .GtE | .inn => .In | .notin => .NotIn
def rC (L : Lk) (op : COp) : R2 := fun x y H Q => ∃ Z ι st a b k, SS L Z ι H st ∧ Rep L Z ι H x a ∧ Rep L Z ι H y b ∧ pyCmp op (deref st a) (deref st b) = some k ∧ Q (.bl k) H
theorem pyEq_inv {a b : PV} {k : Bool} (h : pyEq a b = some k) : ∃ d e, a.toD = some d ∧ b.toD = some e ∧ SeqAt.shaped d = true ∧ SeqAt.shaped e = true ∧ k = PyData.eqv d e := by
  unfold pyEq at h
  split at h
  · rename_i d e h1 h2
    split at h
    · rename_i hc
      rw [Bool.and_eq_true] at hc
      exact ⟨d, e, h1, h2, hc.1, hc.2, (Option.some.inj h).symm⟩
    · cases h
  · cases h
theorem pyIn_inv {a b : PV} {k : Bool} (h : pyIn a b = some k) : ∃ xs d ds, (b = .lst xs ∨ b = .tup xs) ∧ a.toD = some d ∧ toDs xs = some ds ∧ SeqAt.shaped d = true ∧ SeqAt.shaped (.list ds) = true ∧ k = ds.any fun z => PyData.eqv z d := by
  cases b with
  | lst xs =>
    simp only [pyIn] at h
    split at h
    · rename_i d e h1 h2
      split at h
      · rename_i hc
        rw [Bool.and_eq_true] at hc
        exact ⟨xs, d, e, .inl rfl, h1, h2, hc.1, hc.2, (Option.some.inj h).symm⟩
      · cases h
    · cases h
  | tup xs =>
    simp only [pyIn] at h
    split at h
    · rename_i d e h1 h2
      split at h
      · rename_i hc
        rw [Bool.and_eq_true] at hc
        exact ⟨xs, d, e, .inr rfl, h1, h2, hc.1, hc.2, (Option.some.inj h).symm⟩
      · cases h
    · cases h
  | _ => cases h
section
variable {X : Cx} {L : Lk}
theorem op_inT (hu : X.A.units + 65 < cLine) (neg : Bool) {pins : List (Addr × Obj)} {s : Shared} {σ : LSt} {H : Hp} {x y : V} {v u : Value} {Q : VK} (I : Inv X pins σ H s) (rx : RelV x v) (ry : RelV y u)
    {d : PyData} {ds : List PyData} (hd : Dp X.K H x d) (he : Dp X.K H y (.tuple ds)) (sd : SeqAt.shaped d = true) (se : SeqAt.shaped (.list ds) = true) (q : Q (.bl (if neg then !ds.any fun z => PyData.eqv z d else ds.any fun z => PyData.eqv z d)) H) :
    wpAny (model X.prog X.w) X.A (compareOp (if neg then .NotIn else .In) v u) (EP X pins σ Q) X.xe s := by
  obtain ⟨as, r1⟩ := Dp.reads I d x v hd rx
  obtain ⟨bs, r2⟩ := Dp.reads I (.tuple ds) y u he ry
  cases neg with
  | false => exact SeqAt.in_tuple_reads r2 r1 (SeqAt.canLay_of_shaped se) (SeqAt.canLay_of_shaped sd) (room_in_shaped sd hu) ⟨.bl _, H, I, rfl, q⟩
  | true => exact SeqAt.notIn_tuple_reads r2 r1 (SeqAt.canLay_of_shaped se) (SeqAt.canLay_of_shaped sd) (room_in_shaped sd hu) ⟨.bl _, H, I, rfl, q⟩
theorem op_C (hK : X.K = L.K) (hu : X.A.units + 65 < cLine) (op : COp) : OpR X (compareOp (cop op)) (rC L op) := by
  intro pins s σ H x y v u Q I rx ry h
  obtain ⟨Z, ι, st, a, b, k, ss, ra, rb, h, q⟩ := h
  have cint : ∀ {g : Int → Int → Bool}, intCmp g (deref st a) (deref st b) = some k → ∃ i j, x = .int i ∧ y = .int j ∧ k = g i j := fun {g} h => by
    unfold intCmp at h
    split at h
    · rename_i i j e1 e2
      rw [deref_I e1] at ra; rw [deref_I e2] at rb
      exact ⟨i, j, int_of ra, int_of rb, (Option.some.inj h).symm⟩
    · cases h
  cases op with
  | eq =>
    obtain ⟨d, e, h1, h2, s1, s2, rfl⟩ := pyEq_inv h
    exact op_eqD (by omega) pins s σ H x y v u Q I rx ry ⟨d, e, hK ▸ ss.dp ra h1, hK ▸ ss.dp rb h2, s1, s2, q⟩
  | ne =>
    have h' : (pyEq (deref st a) (deref st b)).map (!·) = some k := h
    cases hp : pyEq (deref st a) (deref st b) with
    | none => rw [hp] at h'; cases h'
    | some k' =>
      rw [hp] at h'
      cases h'
      obtain ⟨d, e, h1, h2, s1, s2, rfl⟩ := pyEq_inv hp
      exact op_neD (by omega) pins s σ H x y v u Q I rx ry ⟨d, e, hK ▸ ss.dp ra h1, hK ▸ ss.dp rb h2, s1, s2, q⟩
  | lt =>
    obtain ⟨i, j, rfl, rfl, rfl⟩ := cint (g := fun i j => decide (i < j)) h
    exact op_lt pins s σ H _ _ v u Q I rx ry ⟨i, j, rfl, rfl, q⟩
  | le =>
    obtain ⟨i, j, rfl, rfl, rfl⟩ := cint (g := fun i j => decide (i ≤ j)) h
    exact op_le pins s σ H _ _ v u Q I rx ry ⟨i, j, rfl, rfl, q⟩
  | gt =>
    obtain ⟨i, j, rfl, rfl, rfl⟩ := cint (g := fun i j => decide (j < i)) h
    exact op_gt pins s σ H _ _ v u Q I rx ry ⟨i, j, rfl, rfl, q⟩
  | ge =>
    obtain ⟨i, j, rfl, rfl, rfl⟩ := cint (g := fun i j => decide (j ≤ i)) h
    exact op_ge pins s σ H _ _ v u Q I rx ry ⟨i, j, rfl, rfl, q⟩
  | inn =>
    obtain ⟨xs, d, ds, hb, h1, h2, s1, s2, rfl⟩ := pyIn_inv h
    have hx := hK ▸ ss.dp ra h1
    rcases hb with hb | hb
    · exact op_inD hu pins s σ H x y v u Q I rx ry ⟨d, ds, hx, hK ▸ ss.dp (d := .list ds) rb (by rw [hb]; simp [PV.toD, h2]), s1, s2, q⟩
    · exact op_inT hu false I rx ry hx (hK ▸ ss.dp (d := .tuple ds) rb (by rw [hb]; simp [PV.toD, h2])) s1 s2 q
  | notin =>
    have h' : (pyIn (deref st a) (deref st b)).map (!·) = some k := h
    cases hp : pyIn (deref st a) (deref st b) with
    | none => rw [hp] at h'; cases h'
    | some k' =>
      rw [hp] at h'
      cases h'
      obtain ⟨xs, d, ds, hb, h1, h2, s1, s2, rfl⟩ := pyIn_inv hp
      have hx := hK ▸ ss.dp ra h1
      rcases hb with hb | hb
      · exact op_notInD hu pins s σ H x y v u Q I rx ry ⟨d, ds, hx, hK ▸ ss.dp (d := .list ds) rb (by rw [hb]; simp [PV.toD, h2]), s1, s2, q⟩
      · exact op_inT hu true I rx ry hx (hK ▸ ss.dp (d := .tuple ds) rb (by rw [hb]; simp [PV.toD, h2])) s1 s2 q
end
/-! truth -/
theorem SS.tru {L : Lk} {Z : Addr → Prop} {ι : List Addr} {H : Hp} {st : Store} (ss : SS L Z ι H st) {V : V} {v : PV} {k : Bool} (r : Rep L Z ι H V v) (h : truth (deref st v) = some k) : TruV L.K V H k := by
  cases hv : deref st v with
  | lst xs =>
    obtain ⟨p, vs, rfl, hp, hr⟩ := ss.derefL r hv
    rw [hv] at h
    cases h
    refine .inl ⟨vs, .inl (.inl hp), ?_⟩
    have := hr.len
    cases xs <;> cases vs <;> simp_all
  | tup xs =>
    replace r := rep_T hv r; rw [hv] at h
    cases h
    cases r with
    | tup hs hr =>
      refine .inr (.inl ⟨_, hs, ?_⟩)
      cases hr <;> rfl
  | int i => rw [deref_I hv] at r; rw [hv] at h; cases h; cases r; rfl
  | str x =>
    rw [deref_S hv] at r; rw [hv] at h; cases r
    simp only [truth] at h
    split at h
    · rename_i hl
      exact ⟨lim_line hl, (Option.some.inj h).symm⟩
    · cases h
  | bl i => rw [deref_B hv] at r; rw [hv] at h; cases h; cases r; rfl
  | non => rw [deref_N hv] at r; rw [hv] at h; cases h; cases r; rfl
  | _ => rw [hv] at h; cases h
/-! places, slices -/
theorem atI_rep {L : Lk} {Z : Addr → Prop} {ι : List Addr} {H : Hp} {vs : List V} {xs : List PV} (r : Reps L Z ι H vs xs) {i : Int} {x : PV} (h : atI xs i = some x) : ∃ v, atI vs i = some v ∧ Rep L Z ι H v x := by
  unfold atI at h ⊢
  rw [r.len]
  cases e : ixN xs.length i with
  | none => rw [e] at h; cases h
  | some j =>
    rw [e] at h
    exact r.get h
def rIdx (L : Lk) : R2 := fun x y H Q => ∃ Z ι st a b v, SS L Z ι H st ∧ Rep L Z ι H x a ∧ Rep L Z ι H y b ∧ pyIdx (deref st a) b = some v ∧ Outs L Z ι st H v Q
section
variable {X : Cx} {L : Lk}
theorem ix_V (hK : X.K = L.K) : IxR X (rIdx L) := by
  refine fun vl sl pins s σ H x y v u Q I rx ry h hs => (ix_list.or ix_tup) vl sl pins s σ H x y v u Q I rx ry ?_ hs
  obtain ⟨Z, ι, st, a, b, w, ss, ra, rb, h, o⟩ := h
  unfold pyIdx at h
  split at h
  · rename_i xs i e1
    replace ra := rep_T e1 ra
    cases ra with
    | tup hs hr =>
      obtain ⟨z, hz, rz⟩ := atI_rep hr h
      exact .inr ⟨_, _, i, z, rfl, int_of rb, hK ▸ hs, hz, o.here ss rz⟩
  · rename_i xs i e1
    obtain ⟨p, vs, rfl, hp, hr⟩ := ss.derefL ra e1
    obtain ⟨z, hz, rz⟩ := atI_rep hr h
    exact .inl ⟨p, vs, i, z, rfl, int_of rb, .inl (.inl hp), hz, o.here ss rz⟩
  · cases h
def rSl (L : Lk) : V → Option Int → Option Int → Hp → VK → Prop := fun x lo hi H Q => ∃ Z ι st a v, SS L Z ι H st ∧ Rep L Z ι H x a ∧ cutP (deref st a) lo hi = some v ∧ Outs L Z ι st H v Q
theorem cut_whole {α : Type} (xs : List α) (lo hi : Option Int) (h : HT.sIx xs.length 0 lo = 0 ∧ HT.sIx xs.length xs.length hi = xs.length) : cut xs lo hi = xs := by
  unfold cut
  rw [h.1, h.2]
  simp
theorem sl_V (hK : X.K = L.K) : SlR X (rSl L) := by
  refine fun pins s σ H x v vl vu lo hi sl Q I rx hs pl pu h => (sl_list.or sl_tupA) pins s σ H x v vl vu lo hi sl Q I rx hs pl pu ?_
  obtain ⟨Z, ι, st, a, w, ss, ra, h, o⟩ := h
  unfold cutP at h
  split at h
  · rename_i xs e1
    cases h
    replace ra := rep_T e1 ra
    cases ra with
    | tup hs hr =>
      rename_i a2 vs
      refine .inr ⟨a2, vs, rfl, hK ▸ hs, fun hw => ?_, fun _ => o.tup ss (hr.cut lo hi)⟩
      rw [hr.len] at hw
      rw [cut_whole xs lo hi hw] at o
      exact o.here ss (.tup hs hr)
  · rename_i xs e1
    cases h
    obtain ⟨p, vs, rfl, hp, hr⟩ := ss.derefL ra e1
    exact .inl ⟨p, vs, rfl, .inl (.inl hp), o.lst ss (hr.cut lo hi)⟩
  · cases h
end
/-! built-ins -/
def bltT : Blt → Bool
  | .int | .list | .tuple | .str => true
  | _ => false
def bltN : Blt → String
  | .abs => "abs" | .max => "max" | .min => "min" | .int => "int" | .len => "len" | .list => "list" | .tuple => "tuple" | .all => "all" | .any => "any" | .str => "str" | .sum => "sum"
def bltV (b : Blt) : Value := if bltT b then .type (bltN b) else .builtin (bltN b)
def rBlt (L : Lk) (b : Blt) : List V → Hp → VK → Prop := fun xs H Q => ∃ Z ι st vs v, SS L Z ι H st ∧ Reps L Z ι H xs vs ∧ pyBlt b (vs.map (deref st)) = some v ∧ Outs L Z ι st H v Q
/-- list(..): the new list becomes a cell -/
def rBltC (L : Lk) (b : Blt) : List V → Hp → VK → Prop := fun xs H Q => ∃ Z ι st vs ys, SS L Z ι H st ∧ Reps L Z ι H xs vs ∧ b = .list ∧ pyBlt b (vs.map (deref st)) = some (.lst ys) ∧ ∀ p us, H p = none → Reps L Z ι H us ys → Q (.ref p) (upd H p (.lst us))
theorem reps1 {L : Lk} {Z : Addr → Prop} {ι : List Addr} {H : Hp} {xs : List V} {v : PV} (r : Reps L Z ι H xs [v]) : ∃ x, xs = [x] ∧ Rep L Z ι H x v := by
  cases r with
  | cons a b => cases b; exact ⟨_, rfl, a⟩
theorem map1 {f : PV → PV} {vs : List PV} {x : PV} (h : vs.map f = [x]) : ∃ v, vs = [v] ∧ f v = x := by
  match vs, h with
  | [v], h => exact ⟨v, rfl, by simpa using h⟩
theorem map2 {f : PV → PV} {vs : List PV} {x y : PV} (h : vs.map f = [x, y]) : ∃ v w, vs = [v, w] ∧ f v = x ∧ f w = y := by
  match vs, h with
  | [v, w], h => exact ⟨v, w, rfl, by simpa using h⟩
theorem bls_rep {L : Lk} {Z : Addr → Prop} {ι : List Addr} {H : Hp} : ∀ {vs : List V} {xs : List PV} {bs : List Bool}, Reps L Z ι H vs xs → bls xs = some bs → vs = bs.map V.bl
  | _, [], _, r, h => by cases r; cases h; rfl
  | _, x :: xs, bs, r, h => by
    cases r with
    | cons a b =>
      cases x with
      | bl k =>
        simp only [bls] at h
        cases e : bls xs with
        | none => rw [e] at h; cases h
        | some cs =>
          rw [e] at h
          cases h
          cases a
          rw [bls_rep b e]
          rfl
      | _ => cases h
theorem inl_rep {L : Lk} {Z : Addr → Prop} {ι : List Addr} {H : Hp} : ∀ {vs : List V} {xs : List PV} {bs : List Int}, Reps L Z ι H vs xs → inl xs = some bs → vs = bs.map V.int
  | _, [], _, r, h => by cases r; cases h; rfl
  | _, x :: xs, bs, r, h => by
    cases r with
    | cons a b =>
      cases x with
      | int k =>
        simp only [inl] at h
        cases e : inl xs with
        | none => rw [e] at h; cases h
        | some cs =>
          rw [e] at h
          cases h
          cases a
          rw [inl_rep b e]
          rfl
      | _ => cases h
theorem reps_ints {L : Lk} {Z : Addr → Prop} {ι : List Addr} {H : Hp} : ∀ ns : List Int, Reps L Z ι H (ns.map V.int) (ns.map PV.int)
  | [] => .nil
  | i :: ns => .cons (.int i) (reps_ints ns)
theorem sins_mem (k x : Int) : ∀ l : List Int, x ∈ sins k l ↔ x = k ∨ x ∈ l
  | [] => by simp [sins]
  | a :: r => by
    unfold sins
    split
    · simp
    · split
      · rename_i e; subst e; simp
      · rw [List.mem_cons, sins_mem k x r, List.mem_cons]
        constructor
        · rintro (h | h | h)
          · exact .inr (.inl h)
          · exact .inl h
          · exact .inr (.inr h)
        · rintro (h | h | h)
          · exact .inr (.inl h)
          · exact .inl h
          · exact .inr (.inr h)
theorem sins_asc (k : Int) : ∀ l : List Int, l.Pairwise (· < ·) → (sins k l).Pairwise (· < ·)
  | [], _ => by simp [sins]
  | a :: r, h => by
    obtain ⟨h1, h2⟩ := List.pairwise_cons.mp h
    unfold sins
    split
    · rename_i hk
      refine List.pairwise_cons.mpr ⟨fun y hy => ?_, h⟩
      rcases List.mem_cons.mp hy with rfl | hy
      · exact hk
      · exact Int.lt_trans hk (h1 y hy)
    · split
      · exact h
      · refine List.pairwise_cons.mpr ⟨fun y hy => ?_, sins_asc k r h2⟩
        rcases (sins_mem k y r).mp hy with rfl | hy
        · omega
        · exact h1 y hy
theorem sset_asc : ∀ ns : List Int, (sset ns).Pairwise (· < ·)
  | [] => List.Pairwise.nil
  | n :: ns => sins_asc n _ (sset_asc ns)
theorem sset_mem (x : Int) : ∀ ns : List Int, x ∈ sset ns ↔ x ∈ ns
  | [] => Iff.rfl
  | n :: ns => by
    show x ∈ sins n (sset ns) ↔ _
    rw [sins_mem, sset_mem x ns, List.mem_cons]
theorem asc_one : ∀ {l m : List Int}, l.Pairwise (· < ·) → m.Pairwise (· < ·) → (∀ x, x ∈ l ↔ x ∈ m) → l = m
  | [], [], _, _, _ => rfl
  | [], b :: m, _, _, h => absurd ((h b).mpr List.mem_cons_self) (by simp)
  | a :: l, [], _, _, h => absurd ((h a).mp List.mem_cons_self) (by simp)
  | a :: l, b :: m, hl, hm, h => by
    obtain ⟨l1, l2⟩ := List.pairwise_cons.mp hl
    obtain ⟨m1, m2⟩ := List.pairwise_cons.mp hm
    have e : a = b := by
      rcases List.mem_cons.mp ((h a).mp List.mem_cons_self) with e | e
      · exact e
      · rcases List.mem_cons.mp ((h b).mpr List.mem_cons_self) with e2 | e2
        · exact e2.symm
        · have := m1 a e
          have := l1 b e2
          omega
    subst e
    congr 1
    refine asc_one l2 m2 fun x => ⟨fun hx => ?_, fun hx => ?_⟩
    · rcases List.mem_cons.mp ((h x).mp (List.mem_cons_of_mem _ hx)) with e | e
      · have := l1 x hx
        omega
      · exact e
    · rcases List.mem_cons.mp ((h x).mpr (List.mem_cons_of_mem _ hx)) with e | e
      · have := m1 x hx
        omega
      · exact e
theorem blt_list_inv {vs : List PV} {v : PV} (h : pyBlt .list vs = some v) : ∃ xs, v = .lst xs ∧ (vs = [.tup xs] ∨ vs = [.lst xs] ∨ vs = [.frz xs]) := by
  replace h : bList vs = some v := h
  unfold bList at h
  split at h <;> first | (cases h; done) | skip
  all_goals first
    | exact ⟨_, (Option.some.inj h).symm, .inl rfl⟩
    | exact ⟨_, (Option.some.inj h).symm, .inr (.inl rfl)⟩
    | exact ⟨_, (Option.some.inj h).symm, .inr (.inr rfl)⟩
section
variable {X : Cx} {L : Lk}
theorem call_listC (hK : X.K = L.K) {Z : Addr → Prop} {ι : List Addr} {st : Store} {ws : List PV} {ys : List PV} {pins : List (Addr × Obj)} {s : Shared} {σ : LSt} {H : Hp} {xs : List V} {us : List Value} {Q : VK} (I : Inv X pins σ H s) (r : Vals xs us)
    (ss : SS L Z ι H st) (rs : Reps L Z ι H xs ws) (h : pyBlt .list (ws.map (deref st)) = some (.lst ys)) (q : ∀ p us, H p = none → Reps L Z ι H us ys → Q (.ref p) (upd H p (.lst us))) :
    wpAny (model X.prog X.w) X.A (call (.type "list") us) (EP X pins σ Q) X.xe s := by
  obtain ⟨zs, e, h⟩ := blt_list_inv h
  cases e
  rcases h with h | h | h
  · obtain ⟨w, rfl, e⟩ := map1 h
    obtain ⟨x, rfl, rx⟩ := reps1 rs
    replace rx := rep_T e rx
    cases rx with
    | tup hs hr => exact call_list_of pins s σ H _ us Q I r ⟨_, _, rfl, .inr (hK ▸ hs), fun l hl => q l _ hl hr⟩
  · obtain ⟨w, rfl, e⟩ := map1 h
    obtain ⟨x, rfl, rx⟩ := reps1 rs
    obtain ⟨p, vs, rfl, hp, hr⟩ := ss.derefL rx e
    exact call_list_of pins s σ H _ us Q I r ⟨_, _, rfl, .inl (.inl (.inl hp)), fun l hl => q l _ hl hr⟩
  · obtain ⟨w, rfl, e⟩ := map1 h
    rw [deref_F e] at rs
    obtain ⟨x, rfl, rx⟩ := reps1 rs
    cases rx with
    | frz hs hr => exact call_list_of pins s σ H _ us Q I r ⟨_, _, rfl, .inl (.inl (.inr ⟨_, hs⟩)), fun l hl => q l _ hl hr⟩
    | frzK hs hr => exact call_list_of pins s σ H _ us Q I r ⟨_, _, rfl, .inl (.inr (hK ▸ hs)), fun l hl => q l _ hl hr⟩
theorem call_BC (hK : X.K = L.K) : CallR X (.type "list") (rBltC L .list) := by
  intro pins s σ H xs us Q I r h
  obtain ⟨Z, ι, st, ws, ys, ss, rs, _, h, o⟩ := h
  exact call_listC hK I r ss rs h o
theorem call_B (hK : X.K = L.K) (hc : X.calm = true) (b : Blt) : CallR X (bltV b) (rBlt L b) := by
  intro pins s σ H xs us Q I r h
  obtain ⟨Z, ι, st, ws, w, ss, rs, h, o⟩ := h
  cases b with
  | list =>
    obtain ⟨ys, rfl, _⟩ := blt_list_inv h
    exact call_listC hK I r ss rs h fun p us hn hr => o.lst ss hr p hn
  | abs =>
    replace h : bAbs (ws.map (deref st)) = some w := h
    unfold bAbs at h
    split at h <;> first | (cases h; done) | skip
    rename_i i hm
    obtain ⟨w', rfl, e⟩ := map1 hm
    rw [deref_I e] at rs
    obtain ⟨x, rfl, rx⟩ := reps1 rs
    cases h
    exact call_abs pins s σ H _ us Q I r ⟨i, by rw [int_of rx], o.here ss (.int _)⟩
  | int =>
    replace h : bInt (ws.map (deref st)) = some w := h
    unfold bInt at h
    split at h <;> first | (cases h; done) | skip
    rename_i i hm
    obtain ⟨w', rfl, e⟩ := map1 hm
    rw [deref_I e] at rs
    obtain ⟨x, rfl, rx⟩ := reps1 rs
    cases h
    exact call_int1 pins s σ H _ us Q I r (.inl ⟨i, by rw [int_of rx], o.here ss (.int _)⟩)
  | str =>
    replace h : bStr (ws.map (deref st)) = some w := h
    unfold bStr at h
    split at h <;> first | (cases h; done) | skip
    rename_i i hm
    obtain ⟨w', rfl, e⟩ := map1 hm
    rw [deref_S e] at rs
    obtain ⟨x, rfl, rx⟩ := reps1 rs
    cases h
    cases rx
    exact SkE.call_str_str pins s σ H _ us Q I r ⟨i, rfl, o.here ss (.str _)⟩
  | max =>
    replace h : bMax (ws.map (deref st)) = some w := h
    unfold bMax at h
    split at h <;> first | (cases h; done) | skip
    rename_i i j hm
    obtain ⟨w1, w2, rfl, e1, e2⟩ := map2 hm
    rw [deref_I e1, deref_I e2] at rs
    cases h
    cases rs with
    | cons a b =>
      obtain ⟨y, rfl, ry⟩ := reps1 b
      exact call_max2 hc pins s σ H _ us Q I r ⟨i, j, by rw [int_of a, int_of ry], o.here ss (.int _)⟩
  | min =>
    replace h : bMin (ws.map (deref st)) = some w := h
    unfold bMin at h
    split at h <;> first | (cases h; done) | skip
    rename_i i j hm
    obtain ⟨w1, w2, rfl, e1, e2⟩ := map2 hm
    rw [deref_I e1, deref_I e2] at rs
    cases h
    cases rs with
    | cons a b =>
      obtain ⟨y, rfl, ry⟩ := reps1 b
      exact call_min2 hc pins s σ H _ us Q I r ⟨i, j, by rw [int_of a, int_of ry], o.here ss (.int _)⟩
  | sum =>
    replace h : bSum (ws.map (deref st)) = some w := h
    unfold bSum at h
    split at h <;> first | (cases h; done) | skip
    · rename_i ys hm
      obtain ⟨w', rfl, e⟩ := map1 hm
      obtain ⟨x, rfl, rx⟩ := reps1 rs
      obtain ⟨p, vs, rfl, hp, hr⟩ := ss.derefL rx e
      cases hi : inl ys with
      | none => rw [hi] at h; cases h
      | some is =>
        rw [hi] at h
        cases h
        have ev := inl_rep hr hi
        subst ev
        exact cr_sum hc pins s σ H _ us Q I r ⟨p, is, rfl, .inl (.inl hp), o.here ss (.int _)⟩
    · rename_i ys hm
      obtain ⟨w', rfl, e⟩ := map1 hm
      obtain ⟨x, rfl, rx⟩ := reps1 rs
      replace rx := rep_T e rx
      cases hi : inl ys with
      | none => rw [hi] at h; cases h
      | some is =>
        rw [hi] at h
        cases h
        cases rx with
        | tup hs hr =>
          have ev := inl_rep hr hi
          subst ev
          exact cr_sumT hc pins s σ H _ us Q I r ⟨_, is, rfl, hK ▸ hs, o.here ss (.int _)⟩
  | len =>
    replace h : bLen (ws.map (deref st)) = some w := h
    unfold bLen at h
    split at h <;> first | (cases h; done) | skip
    · rename_i i hm
      obtain ⟨w', rfl, e⟩ := map1 hm
      obtain ⟨x, rfl, rx⟩ := reps1 rs
      replace rx := rep_T e rx
      cases h
      cases rx with
      | tup hs hr => exact call_len pins s σ H _ us Q I r ⟨_, i.length, rfl, .inr ⟨_, hK ▸ hs, hr.len.symm⟩, o.here ss (.int _)⟩
    · rename_i i hm
      obtain ⟨w', rfl, e⟩ := map1 hm
      obtain ⟨x, rfl, rx⟩ := reps1 rs
      obtain ⟨p, vs, rfl, hp, hr⟩ := ss.derefL rx e
      cases h
      exact call_len pins s σ H _ us Q I r ⟨_, i.length, rfl, .inl ⟨_, .inl (.inl hp), hr.len.symm⟩, o.here ss (.int _)⟩
    · rename_i i hm
      obtain ⟨w', rfl, e⟩ := map1 hm
      rw [deref_S e] at rs
      obtain ⟨x, rfl, rx⟩ := reps1 rs
      split at h
      · rename_i hl
        cases h
        cases rx
        exact call_len pins s σ H _ us Q I r ⟨_, i.length, rfl, ⟨lim_line hl, rfl⟩, o.here ss (.int _)⟩
      · cases h
  | tuple =>
    replace h : bTuple (ws.map (deref st)) = some w := h
    unfold bTuple at h
    split at h <;> first | (cases h; done) | skip
    · rename_i i hm
      obtain ⟨w', rfl, e⟩ := map1 hm
      obtain ⟨x, rfl, rx⟩ := reps1 rs
      replace rx := rep_T e rx
      cases h
      have rx' := rx
      cases rx with
      | tup hs hr => exact call_tuple_of pins s σ H _ us Q I r ⟨_, _, rfl, .inr ⟨hK ▸ hs, o.here ss rx'⟩⟩
    · rename_i i hm
      obtain ⟨w', rfl, e⟩ := map1 hm
      obtain ⟨x, rfl, rx⟩ := reps1 rs
      obtain ⟨p, vs, rfl, hp, hr⟩ := ss.derefL rx e
      cases h
      exact call_tuple_of pins s σ H _ us Q I r ⟨_, _, rfl, .inl ⟨.inl (.inl hp), fun l hl => o.tup ss hr l hl⟩⟩
  | all =>
    replace h : bAll (ws.map (deref st)) = some w := h
    unfold bAll at h
    split at h <;> first | (cases h; done) | skip
    rename_i i hm
    obtain ⟨w', rfl, e⟩ := map1 hm
    obtain ⟨x, rfl, rx⟩ := reps1 rs
    obtain ⟨p, vs, rfl, hp, hr⟩ := ss.derefL rx e
    cases eb : bls i with
    | none => rw [eb] at h; cases h
    | some bs =>
      rw [eb] at h
      cases h
      have := bls_rep hr eb
      subst this
      exact cr_all hc pins s σ H _ us Q I r ⟨p, bs, rfl, .inl (.inl hp), o.here ss (.bl _)⟩
  | any =>
    replace h : bAny (ws.map (deref st)) = some w := h
    unfold bAny at h
    split at h <;> first | (cases h; done) | skip
    rename_i i hm
    obtain ⟨w', rfl, e⟩ := map1 hm
    obtain ⟨x, rfl, rx⟩ := reps1 rs
    obtain ⟨p, vs, rfl, hp, hr⟩ := ss.derefL rx e
    cases eb : bls i with
    | none => rw [eb] at h; cases h
    | some bs =>
      rw [eb] at h
      cases h
      have := bls_rep hr eb
      subst this
      exact cr_any hc pins s σ H _ us Q I r ⟨p, bs, rfl, .inl (.inl hp), o.here ss (.bl _)⟩
end
/-! isinstance -/
def tyN : Ty → String
  | .int => "int" | .bool => "bool" | .tuple => "tuple" | .list => "list" | .str => "str"
theorem kitB_all (t : Ty) : kitB "NoneType" (tyN t) = some (isTy t .non) ∧ (∀ b, kitB "bool" (tyN t) = some (isTy t (.bl b))) ∧ (∀ i, kitB "int" (tyN t) = some (isTy t (.int i))) ∧ (∀ x, kitB "str" (tyN t) = some (isTy t (.str x))) ∧
    (∀ xs, kitB "tuple" (tyN t) = some (isTy t (.tup xs))) ∧ (∀ xs, kitB "list" (tyN t) = some (isTy t (.lst xs))) := by
  cases t <;> exact ⟨by simp only [isTy, tyN]; decide +kernel, fun _ => by simp only [isTy, tyN]; decide +kernel, fun _ => by simp only [isTy, tyN]; decide +kernel, fun _ => by simp only [isTy, tyN]; decide +kernel, fun _ => by simp only [isTy, tyN]; decide +kernel, fun _ => by simp only [isTy, tyN]; decide +kernel⟩
def rIsT (L : Lk) (t : Ty) : List V → Hp → VK → Prop := fun xs H Q => ∃ Z ι st x a, xs = [x, .ty (tyN t)] ∧ SS L Z ι H st ∧ Rep L Z ι H x a ∧ tyOk (deref st a) = true ∧ Q (.bl (isTy t (deref st a))) H
theorem call_isT {X : Cx} {L : Lk} (hK : X.K = L.K) (t : Ty) : CallR X (.builtin "isinstance") (rIsT L t) := by
  intro pins s σ H xs us Q I r h
  obtain ⟨Z, ι, st, x, a, rfl, ss, ra, hk, q⟩ := h
  obtain ⟨k1, k2, k3, k4, k5, k6⟩ := kitB_all t
  have fin : ∀ {n : String} {b : Bool}, TyX X.K H x (.type n) → kitB n (tyN t) = some b → b = isTy t (deref st a) → wpAny (model X.prog X.w) X.A (call (.builtin "isinstance") us) (EP X pins σ Q) X.xe s := fun {n b} ty k e =>
    call_isi pins s σ H _ us Q I r ⟨x, .ty (tyN t), .type n, .type (tyN t), b, rfl, .ty _, ty, kit_ty k, by rw [e]; exact q⟩
  cases hv : deref st a with
  | lst xs =>
    obtain ⟨p, vs, rfl, hp, hr⟩ := ss.derefL ra hv
    exact fin (.base (.lst hp)) (k6 xs) (by rw [hv])
  | tup xs =>
    replace ra := rep_T hv ra
    cases ra with
    | tup hs hr =>
      rcases hs with (hs | ⟨o, hs⟩) | ⟨o, its, n, hk1, hc, _⟩
      · exact fin (.base (.tup hs)) (k5 xs) (by rw [hv])
      · exact fin (.fTuple hs) (k5 xs) (by rw [hv])
      · exact fin (.kTuple (hK ▸ hk1) hc) (k5 xs) (by rw [hv])
  | int i => rw [deref_I hv] at ra; cases ra; exact fin (.base (.int i)) (k3 i) (by rw [hv])
  | str i => rw [deref_S hv] at ra; cases ra; exact fin (.base (.str i)) (k4 i) (by rw [hv])
  | bl i => rw [deref_B hv] at ra; cases ra; exact fin (.base (.bl i)) (k2 i) (by rw [hv])
  | non => rw [deref_N hv] at ra; cases ra; exact fin (.base .non) k1 (by rw [hv])
  | _ => rw [hv] at hk; cases hk
end Ev
end
section
set_option Elab.async false
set_option linter.all false
set_option maxRecDepth 100000
set_option maxHeartbeats 4000000
namespace Ev
open PySem PySem.Spec PyProof.Rows L2

theorem _root_.L2.PE.weak {X : Cx} {e : Expr} {t t' : TE} (h : PE X e t) (w : ∀ σ H Q, t' σ H Q → t σ H Q) : PE X e t' := ⟨fun pins s σ H Q I q => h.run pins s σ H Q I (w _ _ _ q)⟩
theorem _root_.L2.PT.weak {X : Cx} {e : Expr} {t t' : TT} (h : PT X e t) (w : ∀ σ H Q, t' σ H Q → t σ H Q) : PT X e t' := ⟨fun pins s σ H Q I q => h.run pins s σ H Q I (w _ _ _ q)⟩
theorem _root_.L2.PA.weak {X : Cx} {e : List Expr} {t t' : TA} (h : PA X e t) (w : ∀ σ H Q, t' σ H Q → t σ H Q) : PA X e t' := ⟨fun pos pins s σ H Q I q => h.run pos pins s σ H Q I (w _ _ _ q)⟩
theorem _root_.L2.PSs.weak {X : Cx} {e : List Stmt} {t t' : TS} (h : PSs X e t) (w : ∀ D σ H, t' D σ H → t D σ H) : PSs X e t' := ⟨fun pins s σ H D I q => h.run pins s σ H D I (w _ _ _ q)⟩

/-! ### what is wanted of an evaluation -/
abbrev RelT (α β : Type) := (Addr → Prop) → List Addr → Hp → β → α → Prop
def Fin {α β : Type} (L : Lk) (rel : RelT α β) (Ex : Nat → Hp → Prop) (Z : Addr → Prop) (ι : List Addr) (H : Hp) (r : R α) (Q : β → Hp → Prop) : Prop := match r with
  | .ok v st' => ∀ V Z' ι' H', Ps Z ι H Z' ι' H' → SS L Z' ι' H' st' → rel Z' ι' H' V v → Q V H'
  | .exc c st' => ∀ Z' ι' H', Ps Z ι H Z' ι' H' → SS L Z' ι' H' st' → Ex c H'
  | .stuck => False
abbrev relV (L : Lk) : RelT PV V := fun Z ι H V v => Rep L Z ι H V v
abbrev relL (L : Lk) : RelT (List PV) (List V) := fun Z ι H V v => Reps L Z ι H V v
abbrev relB : RelT Bool Bool := fun _ _ _ b k => b = k
section
variable {L : Lk} {Ex : Nat → Hp → Prop} {Z Z' : Addr → Prop} {ι ι' : List Addr} {H H' : Hp} {st : Store}
theorem Fin.shift {α β : Type} {rel : RelT α β} {r : R α} {Q : β → Hp → Prop} (h : Fin L rel Ex Z ι H r Q) (p : Ps Z ι H Z' ι' H') : Fin L rel Ex Z' ι' H' r Q := by
  cases r with
  | ok v st' => exact fun V Z2 ι2 H2 q ss r => h V Z2 ι2 H2 (p.trans q) ss r
  | exc c st' => exact fun Z2 ι2 H2 q ss => h Z2 ι2 H2 (p.trans q) ss
  | stuck => exact h
theorem Fin.into {α β γ δ : Type} {rel : RelT α β} {rel2 : RelT γ δ} {r : R α} {f : α → Store → R γ} {Q2 : δ → Hp → Prop} {Q1 : β → Hp → Prop} (h : Fin L rel2 Ex Z ι H (r.bind f) Q2)
    (k : ∀ v st1 V Z1 ι1 H1, Ps Z ι H Z1 ι1 H1 → SS L Z1 ι1 H1 st1 → rel Z1 ι1 H1 V v → Fin L rel2 Ex Z1 ι1 H1 (f v st1) Q2 → Q1 V H1) : Fin L rel Ex Z ι H r Q1 := by
  cases r with
  | ok v st1 => exact fun V Z1 ι1 H1 p ss r => k v st1 V Z1 ι1 H1 p ss r (Fin.shift (r := f v st1) h p)
  | exc c st1 => exact h
  | stuck => exact h
theorem Fin.ofO {α γ δ : Type} {rel2 : RelT γ δ} {o : Option α} {f : α → Store → R γ} {Q2 : δ → Hp → Prop} (h : Fin L rel2 Ex Z ι H ((R.ofO o st).bind f) Q2) : ∃ v, o = some v ∧ Fin L rel2 Ex Z ι H (f v st) Q2 := by
  cases o with
  | none => exact (show False from h).elim
  | some v => exact ⟨v, rfl, h⟩
theorem Fin.ofO1 {γ δ : Type} {rel2 : RelT γ δ} {o : Option γ} {Q2 : δ → Hp → Prop} (h : Fin L rel2 Ex Z ι H (R.ofO o st) Q2) : ∃ v, o = some v ∧ Fin L rel2 Ex Z ι H (.ok v st) Q2 := by
  cases o with
  | none => exact (show False from h).elim
  | some v => exact ⟨v, rfl, h⟩
theorem Fin.ok {α β : Type} {rel : RelT α β} {v : α} {V : β} {Q : β → Hp → Prop} (h : Fin L rel Ex Z ι H (.ok v st) Q) (ss : SS L Z ι H st) (r : rel Z ι H V v) : Q V H := h V Z ι H .refl ss r
theorem Fin.outs {v : PV} {Q : VK} (h : Fin L (relV L) Ex Z ι H (.ok v st) Q) : Outs L Z ι st H v Q := fun V H' p ss r => h V Z ι H' p ss r
/-- the new list becomes a cell -/
theorem Fin.alloc {xs : List PV} {Q : VK} (h : Fin L (relV L) Ex Z ι H (alloc st (.lst xs)) Q) (ss : SS L Z ι H st) : ∀ p vs, H p = none → Reps L Z ι H vs xs → Q (.ref p) (upd H p (.lst vs)) := fun p vs hn r => by
  obtain ⟨a, b, c⟩ := ss.newC hn r
  exact h _ _ _ _ a b c
theorem alloc_inv {α γ δ : Type} {rel2 : RelT γ δ} {v : PV} {Q : VK} (h : Fin L (relV L) Ex Z ι H (Ev.alloc st v) Q) : ∃ xs, v = .lst xs := by
  cases v with
  | lst xs => exact ⟨xs, rfl⟩
  | _ => exact (show False from h).elim
/-- the slots -/
structure ER (L : Lk) (Z : Addr → Prop) (ι : List Addr) (H : Hp) (σ : LSt) (ρ : Env) : Prop where
  len : σ.length = ρ.length
  at_ : ∀ (i : Nat) v, ρ[i]? = some (some v) → ∃ V, σ[i]? = some (some V) ∧ Rep L Z ι H V v
theorem ER.mono {σ : LSt} {ρ : Env} (e : ER L Z ι H σ ρ) (ss : SS L Z ι H st) (p : Ps Z ι H Z' ι' H') : ER L Z' ι' H' σ ρ := ⟨e.len, fun i v h => by
  obtain ⟨V, h1, h2⟩ := e.at_ i v h
  exact ⟨V, h1, ss.mono p h2⟩⟩
theorem ER.set {σ : LSt} {ρ : Env} (e : ER L Z ι H σ ρ) (i : Nat) {v : PV} {V : V} (r : Rep L Z ι H V v) : ER L Z ι H (σ.set i (some V)) (ρ.set i (some v)) := by
  refine ⟨by simpa using e.len, fun j w h => ?_⟩
  by_cases hj : i = j
  · subst hj
    by_cases hi : i < ρ.length
    · rw [List.getElem?_set_self hi] at h
      cases h
      exact ⟨V, List.getElem?_set_self (by rw [e.len]; exact hi), r⟩
    · rw [List.getElem?_eq_none (by simpa using hi)] at h
      cases h
  · rw [List.getElem?_set_ne hj] at h ⊢
    exact e.at_ j w h
end
def rdE (L : Lk) (Ex : Nat → Hp → Prop) (C : Calls) (c : CE) : TE := fun σ H Q => ∃ Z ι ρ st, SS L Z ι H st ∧ ER L Z ι H σ ρ ∧ Fin L (relV L) Ex Z ι H (evE C c ρ st) Q
def rdL (L : Lk) (Ex : Nat → Hp → Prop) (C : Calls) (c : CE) : TA := fun σ H Q => ∃ Z ι ρ st, SS L Z ι H st ∧ ER L Z ι H σ ρ ∧ Fin L (relL L) Ex Z ι H (evEs C c ρ st) Q
def rdT (L : Lk) (Ex : Nat → Hp → Prop) (C : Calls) (c : CE) : TT := fun σ H Q => ∃ Z ι ρ st, SS L Z ι H st ∧ ER L Z ι H σ ρ ∧ Fin L relB Ex Z ι H (evT C c ρ st) Q
/-- what a context must be -/
structure XO (L : Lk) (n : Nat) (N : List Str) (sc : Scope) (Ex : Nat → Hp → Prop) (X : Cx) : Prop where
  P : X.prog = L.P
  w : X.w = L.w
  K : X.K = L.K
  mg : X.mg = L.mg
  base : X.base = L.base
  calm : X.calm = true
  room : Room n X.A
  nm : X.N = N
  nd : N.Nodup
  sc : X.env.scope = sc
  tk : Takes X (fun cls d _ H => ∃ c, cls = .ref (L.ca c) ∧ d = none ∧ Ex c H)
/-- the promise of the f-th def -/
def spN (L : Lk) (T : List Fd) (W n f : Nat) : Sp := fun vs H Q E => ∃ Z ι st pvs, SS L Z ι H st ∧ Reps L Z ι H vs pvs ∧ Fin L (relV L) (fun c H' => E (.ref (L.ca c)) none H') Z ι H (callN T W n f pvs st) Q
def FOk (L : Lk) (T : List Fd) (W n : Nat) : Prop := ∀ f, f < L.nf → ∃ fd ps, FnOk L.P L.w L.K L.mg L.base (L2.CX L.P L.w) n (L.fa f) fd ps (spN L T W n f) ∧ PySem.W.keepIn L.K (.ref (L.fa f)) = true ∧ Binds L.K fd ps []
/-- the module's names -/
structure GN where
  fn : List Str
  cl : List Str
  bn : List Str
  cn : List (Str × Int)
structure GOk (L : Lk) (G : GN) : Prop where
  fn : ∀ f x, G.fn[f]? = some x → L.mg x = some (.ref (L.fa f)) ∧ f < L.nf
  bn : ∀ x, x ∈ G.bn → L.mg x = none
  cn : ∀ x i, (x, i) ∈ G.cn → ∃ t, L.mg x = some (.int i t)

/-! ### the checker -/
def nmOk (x : Str) : Bool := !(x == ("__debug__" : Str)) && !(x == ("__classdict__" : Str)) && !decide (x = ("__name__" : Str))
def visB (sc : Scope) (x : Str) : Bool := decide (sc.names.lookup x = some .local) || decide (sc.names.lookup x = some .cell) || decide (sc.names.lookup x = some .free)
def glbB (sc : Scope) (x : Str) : Bool := decide (sc.names.lookup x = some .globalImplicit)
def cstB : PV → Const → Bool
  | .non, .none => true
  | .bl a, .bool b => a == b
  | .int a, .int b => decide (a = b)
  | .str a, .str b => decide (a = b)
  | _, _ => false
def opB (o : BOp) (p : Operator) : Bool := decide (bop o = p)
def notStar : Expr → Bool
  | .Starred _ _ => false
  | _ => true
def glV (G : GN) (v : PV) (x : Str) : Bool := match v with
  | .fn f => decide (G.fn[f]? = some x)
  | .int i => decide ((x, i) ∈ G.cn)
  | _ => false
def bltS (b : Blt) : Str := Str.ofString (bltN b)
theorem nmOk_of {x : Str} (h : nmOk x = true) : (x == ("__debug__" : Str)) = false ∧ (x == ("__classdict__" : Str)) = false ∧ x ≠ "__name__" := by
  unfold nmOk at h
  simp only [Bool.and_eq_true, Bool.not_eq_true', decide_eq_false_iff_not] at h
  exact ⟨h.1.1, h.1.2, h.2⟩
theorem visB_of {sc : Scope} {x : Str} (h : visB sc x = true) : Vis sc x := by
  unfold visB at h
  simp only [Bool.or_eq_true, decide_eq_true_eq] at h
  rcases h with (h | h) | h
  · exact .inl h
  · exact .inr (.inl h)
  · exact .inr (.inr h)
theorem star_ok {e : Expr} {es : List Expr} {env : PySem.Env} (h : notStar e = true) : starEach (e :: es) env = (false, eval e env) :: starEach es env := by
  cases e <;> first | rfl | cases h
theorem star_any {env : PySem.Env} {pos : Pos} : ∀ {es : List Expr}, es.all notStar = true → (backTo pos (starEach es env)).any (·.1) = false
  | [], _ => rfl
  | e :: es, h => by
    rw [List.all_cons, Bool.and_eq_true] at h
    rw [star_ok h.1]
    show (false || (backTo pos (starEach es env)).any (·.1)) = false
    rw [star_any h.2]
    rfl
section
variable {L : Lk} {n : Nat} {N : List Str} {sc : Scope} {Ex : Nat → Hp → Prop} {X : Cx} {T : List Fd} {W : Nat} {C : Calls}
theorem XO.hu (hx : XO L n N sc Ex X) : X.A.units + 65 < cLine := by have := hx.room.un; omega
theorem XO.gl (hx : XO L n N sc Ex X) {x : Str} (h : glbB sc x = true) : Gl X x := by
  show X.env.scope.names.lookup x = _
  rw [hx.sc]
  exact of_decide_eq_true h
/-- a value as a test: its truth -/
theorem T_of {e : Expr} {c : CE} (hK : X.K = L.K) (h : PE X e (rdE L Ex C c)) (he : ∀ whole, isTrue e X.env whole = (do let v ← whole; standAt e.pos; holding [v] (truthy v))) : PT X e (rdT L Ex C c) :=
  (pt_truth h he).weak fun σ H Q ⟨Z, ι, ρ, st, ss, er, f⟩ => ⟨Z, ι, ρ, st, ss, er, f.into fun v st1 V Z1 ι1 H1 p1 ss1 r1 f1 => by
    obtain ⟨k, hk, f2⟩ := f1.ofO1
    exact ⟨k, hK ▸ ss1.tru r1 hk, f2.ok ss1 rfl⟩⟩
theorem s_var {i : Nat} {x : Str} {pos : Pos} (hx : XO L n N sc Ex X) (hN : N[i]? = some x) (hv : visB sc x = true) (hm : nmOk x = true) : PE X (.Name x pos) (rdE L Ex C (.var i)) := by
  obtain ⟨h1, h2, _⟩ := nmOk_of hm
  refine (pe_var (i := i) (by rw [hx.nm]; exact hN) (by rw [hx.sc]; exact visB_of hv) h1 h2).weak fun σ H Q ⟨Z, ι, ρ, st, ss, er, f⟩ => ?_
  simp only [evE] at f
  split at f
  · rename_i v hv
    obtain ⟨V, e, r⟩ := er.at_ i v hv
    exact ⟨V, e, f.ok ss r⟩
  · exact (show False from f).elim
theorem s_cst {v : PV} {c : Const} {k : Nat} {pos : Pos} (h : cstB v c = true) : PE X (.Constant c k pos) (rdE L Ex C (.cst v)) := by
  unfold cstB at h
  split at h
  · exact pe_non.weak fun σ H Q ⟨Z, ι, ρ, st, ss, er, f⟩ => f.ok ss .non
  · rw [eq_of_beq h]
    exact pe_bl.weak fun σ H Q ⟨Z, ι, ρ, st, ss, er, f⟩ => f.ok ss (.bl _)
  · rw [of_decide_eq_true h]
    exact pe_int.weak fun σ H Q ⟨Z, ι, ρ, st, ss, er, f⟩ => f.ok ss (.int _)
  · rw [of_decide_eq_true h]
    exact pe_str.weak fun σ H Q ⟨Z, ι, ρ, st, ss, er, f⟩ => f.ok ss (.str _)
  · cases h
theorem s_gl {G : GN} {v : PV} {x : Str} {pos : Pos} (hx : XO L n N sc Ex X) (hG : GOk L G) (hg : glbB sc x = true) (hm : nmOk x = true) (h : glV G v x = true) : PE X (.Name x pos) (rdE L Ex C (.gl v)) := by
  obtain ⟨h1, h2, _⟩ := nmOk_of hm
  cases v with
  | fn f => exact (pe_glob (v := .ref (L.fa f)) (hx.gl hg) (by rw [hx.mg]; exact (hG.fn f x (of_decide_eq_true h)).1) rfl h1).weak fun σ H Q ⟨Z, ι, ρ, st, ss, er, ff⟩ => ff.ok ss (.fn _ (hG.fn f x (of_decide_eq_true h)).2)
  | int i =>
    obtain ⟨t, e⟩ := hG.cn x i (of_decide_eq_true h)
    exact (pe_glob (v := .int i) (hx.gl hg) (by rw [hx.mg]; exact e) ⟨t, rfl⟩ h1).weak fun σ H Q ⟨Z, ι, ρ, st, ss, er, f⟩ => f.ok ss (.int _)
  | _ => cases h
theorem s_nil : PA X [] (rdL L Ex C .nil) := pa_nil.weak fun σ H Q ⟨Z, ι, ρ, st, ss, er, f⟩ => f.ok ss .nil
theorem s_cons {e : Expr} {es : List Expr} {c cs : CE} (hs : notStar e = true) (h1 : PE X e (rdE L Ex C c)) (h2 : PA X es (rdL L Ex C cs)) : PA X (e :: es) (rdL L Ex C (.cons c cs)) :=
  (pa_cons h1 h2 (star_ok hs)).weak fun σ H Q ⟨Z, ι, ρ, st, ss, er, f⟩ => by
    simp only [evEs] at f
    exact ⟨Z, ι, ρ, st, ss, er, f.into fun v st1 V Z1 ι1 H1 p1 ss1 r1 f1 => ⟨Z1, ι1, ρ, st1, ss1, er.mono ss p1, f1.into fun vs st2 VS Z2 ι2 H2 p2 ss2 r2 f2 => f2.ok ss2 (.cons (ss1.mono p2 r1) r2)⟩⟩
theorem s_tup {es : List Expr} {cs : CE} {k : Nat} {pos : Pos} (h : PA X es (rdL L Ex C cs)) : PE X (.Tuple es k pos) (rdE L Ex C (.tup cs)) :=
  (pe_tup h).weak fun σ H Q ⟨Z, ι, ρ, st, ss, er, f⟩ => by
    simp only [evE] at f
    refine ⟨Z, ι, ρ, st, ss, er, f.into fun vs st1 VS Z1 ι1 H1 p1 ss1 r1 f1 => ?_⟩
    split at f1
    · rename_i hl
      exact ⟨by rw [r1.len]; exact lim_line hl, fun p hn => f1.outs.tup ss1 r1 p hn⟩
    · exact (show False from f1).elim
theorem s_lst {es : List Expr} {cs : CE} {pos : Pos} (h : PA X es (rdL L Ex C cs)) : PE X (.List es pos) (rdE L Ex C (.lst cs)) :=
  (pe_lst h).weak fun σ H Q ⟨Z, ι, ρ, st, ss, er, f⟩ => by
    simp only [evE] at f
    refine ⟨Z, ι, ρ, st, ss, er, f.into fun vs st1 VS Z1 ι1 H1 p1 ss1 r1 f1 => ?_⟩
    split at f1
    · rename_i hl
      exact ⟨by rw [r1.len]; exact lim_line hl, fun p hn => f1.outs.lst ss1 r1 p hn⟩
    · exact (show False from f1).elim
theorem s_mkl {es : List Expr} {cs : CE} {pos : Pos} (h : PA X es (rdL L Ex C cs)) : PE X (.List es pos) (rdE L Ex C (.mkl cs)) :=
  (pe_lst h).weak fun σ H Q ⟨Z, ι, ρ, st, ss, er, f⟩ => by
    simp only [evE] at f
    refine ⟨Z, ι, ρ, st, ss, er, f.into fun vs st1 VS Z1 ι1 H1 p1 ss1 r1 f1 => ?_⟩
    split at f1
    · rename_i hl
      exact ⟨by rw [r1.len]; exact lim_line hl, fun p hn => f1.alloc ss1 p _ hn r1⟩
    · exact (show False from f1).elim
theorem s_bin {a b : Expr} {ca cb : CE} {o : BOp} {pos : Pos} (hx : XO L n N sc Ex X) (h1 : PE X a (rdE L Ex C ca)) (h2 : PE X b (rdE L Ex C cb)) : PE X (.BinOp a (bop o) b pos) (rdE L Ex C (.bin o ca cb)) :=
  (pe_op (op_B hx.K o) h1 h2).weak fun σ H Q ⟨Z, ι, ρ, st, ss, er, f⟩ => by
    simp only [evE] at f
    refine ⟨Z, ι, ρ, st, ss, er, f.into fun v st1 V Z1 ι1 H1 p1 ss1 r1 f1 => ⟨Z1, ι1, ρ, st1, ss1, er.mono ss p1, f1.into fun w st2 W Z2 ι2 H2 p2 ss2 r2 f2 => ?_⟩⟩
    obtain ⟨z, hz, f3⟩ := f2.ofO1
    exact ⟨Z2, ι2, st2, v, w, z, ss2, ss1.mono p2 r1, r2, hz, f3.outs⟩
theorem s_mkb {a b : Expr} {ca cb : CE} {o : BOp} {pos : Pos} (hx : XO L n N sc Ex X) (h1 : PE X a (rdE L Ex C ca)) (h2 : PE X b (rdE L Ex C cb)) : PE X (.BinOp a (bop o) b pos) (rdE L Ex C (.mkb o ca cb)) :=
  (pe_op (op_BC hx.K o) h1 h2).weak fun σ H Q ⟨Z, ι, ρ, st, ss, er, f⟩ => by
    simp only [evE] at f
    refine ⟨Z, ι, ρ, st, ss, er, f.into fun v st1 V Z1 ι1 H1 p1 ss1 r1 f1 => ⟨Z1, ι1, ρ, st1, ss1, er.mono ss p1, f1.into fun w st2 W Z2 ι2 H2 p2 ss2 r2 f2 => ?_⟩⟩
    obtain ⟨z, hz, f3⟩ := f2.ofO
    obtain ⟨xs, rfl⟩ := alloc_inv (α := Nat) (γ := Nat) (δ := Nat) (rel2 := fun _ _ _ _ _ => True) f3
    exact ⟨Z2, ι2, st2, v, w, xs, ss2, ss1.mono p2 r1, r2, hz, f3.alloc ss2⟩
theorem s_neg {a : Expr} {ca : CE} {pos : Pos} (h1 : PE X a (rdE L Ex C ca)) : PE X (.UnaryOp .USub a pos) (rdE L Ex C (.neg ca)) :=
  (pe_un un_neg h1).weak fun σ H Q ⟨Z, ι, ρ, st, ss, er, f⟩ => by
    simp only [evE] at f
    refine ⟨Z, ι, ρ, st, ss, er, f.into fun v st1 V Z1 ι1 H1 p1 ss1 r1 f1 => ?_⟩
    split at f1
    · exact ⟨_, int_of r1, f1.ok ss1 (.int _)⟩
    · exact (show False from f1).elim
theorem s_not {a : Expr} {ca : CE} {pos : Pos} (hx : XO L n N sc Ex X) (h1 : PE X a (rdE L Ex C ca)) : PE X (.UnaryOp .Not a pos) (rdE L Ex C (.not ca)) :=
  (pe_notT h1).weak fun σ H Q ⟨Z, ι, ρ, st, ss, er, f⟩ => by
    simp only [evE] at f
    refine ⟨Z, ι, ρ, st, ss, er, f.into fun v st1 V Z1 ι1 H1 p1 ss1 r1 f1 => ?_⟩
    obtain ⟨k, hk, f2⟩ := f1.ofO
    exact ⟨k, hx.K ▸ ss1.tru r1 hk, f2.ok ss1 (.bl _)⟩
theorem evT_not {ca : CE} {ρ : Env} {st : Store} : evT C (.not ca) ρ st = (evT C ca ρ st).bind fun k st => .ok (!k) st := by
  unfold evT
  simp only [evE]
  cases evE C ca ρ st with
  | ok v st1 => simp only [R.bind]; cases truth (deref st1 v) <;> rfl
  | exc c st1 => rfl
  | stuck => rfl
theorem evT_and {a b : CE} {ρ : Env} {st : Store} : evT C (.and a b) ρ st = (evT C a ρ st).bind fun k st => if k = true then evT C b ρ st else .ok false st := by
  unfold evT
  simp only [evE]
  cases evE C a ρ st with
  | ok v st1 =>
    simp only [R.bind]
    cases h : truth (deref st1 v) with
    | none => rfl
    | some k =>
      cases k with
      | true => rfl
      | false => simp only [R.ofO, Bool.false_eq_true, if_false, h]
  | exc c st1 => rfl
  | stuck => rfl
theorem evT_or {a b : CE} {ρ : Env} {st : Store} : evT C (.or a b) ρ st = (evT C a ρ st).bind fun k st => if k = true then .ok true st else evT C b ρ st := by
  unfold evT
  simp only [evE]
  cases evE C a ρ st with
  | ok v st1 =>
    simp only [R.bind]
    cases h : truth (deref st1 v) with
    | none => rfl
    | some k =>
      cases k with
      | true => simp only [R.ofO, if_true, h]
      | false => rfl
  | exc c st1 => rfl
  | stuck => rfl
theorem evT_ite {c a b : CE} {ρ : Env} {st : Store} : evT C (.ite c a b) ρ st = (evT C c ρ st).bind fun k st => if k = true then evT C a ρ st else evT C b ρ st := by
  unfold evT
  simp only [evE]
  cases evE C c ρ st with
  | ok v st1 =>
    simp only [R.bind]
    cases truth (deref st1 v) with
    | none => rfl
    | some k => cases k <;> rfl
  | exc c st1 => rfl
  | stuck => rfl
theorem t_not {a : Expr} {ca : CE} {pos : Pos} (h1 : PT X a (rdT L Ex C ca)) : PT X (.UnaryOp .Not a pos) (rdT L Ex C (.not ca)) :=
  (pt_not h1).weak fun σ H Q ⟨Z, ι, ρ, st, ss, er, f⟩ => by
    rw [evT_not] at f
    exact ⟨Z, ι, ρ, st, ss, er, f.into fun k st1 b Z1 ι1 H1 p1 ss1 r1 f1 => f1.ok ss1 (by rw [show b = k from r1])⟩
theorem t_and1 {a b : Expr} {ca cb : CE} {pos : Pos} (h1 : PT X a (rdT L Ex C ca)) {rest : List Expr} (h2 : PW X (.BoolOp .And (b :: rest) pos) (rdT L Ex C cb)) : PW X (.BoolOp .And (a :: b :: rest) pos) (rdT L Ex C (.and ca cb)) := by
  refine ⟨fun wh pins s σ H Q I hq => (pw_and h1 h2).run wh pins s σ H Q I ?_⟩
  obtain ⟨Z, ι, ρ, st, ss, er, f⟩ := hq
  rw [evT_and] at f
  refine ⟨Z, ι, ρ, st, ss, er, f.into fun k st1 b Z1 ι1 H1 p1 ss1 r1 f1 => ?_⟩
  obtain rfl : b = k := r1
  cases b with
  | true => exact ⟨Z1, ι1, ρ, st1, ss1, er.mono ss p1, f1⟩
  | false => exact f1.ok ss1 rfl
theorem t_or1 {a b : Expr} {ca cb : CE} {pos : Pos} (h1 : PT X a (rdT L Ex C ca)) {rest : List Expr} (h2 : PW X (.BoolOp .Or (b :: rest) pos) (rdT L Ex C cb)) : PW X (.BoolOp .Or (a :: b :: rest) pos) (rdT L Ex C (.or ca cb)) := by
  refine ⟨fun wh pins s σ H Q I hq => (pw_or h1 h2).run wh pins s σ H Q I ?_⟩
  obtain ⟨Z, ι, ρ, st, ss, er, f⟩ := hq
  rw [evT_or] at f
  refine ⟨Z, ι, ρ, st, ss, er, f.into fun k st1 b Z1 ι1 H1 p1 ss1 r1 f1 => ?_⟩
  obtain rfl : b = k := r1
  cases b with
  | true => exact f1.ok ss1 rfl
  | false => exact ⟨Z1, ι1, ρ, st1, ss1, er.mono ss p1, f1⟩
theorem s_and {a b : Expr} {ca cb : CE} {pos : Pos} (hx : XO L n N sc Ex X) (h1 : PE X a (rdE L Ex C ca)) {rest : List Expr} (h2 : PE X (.BoolOp .And (b :: rest) pos) (rdE L Ex C cb)) : PE X (.BoolOp .And (a :: b :: rest) pos) (rdE L Ex C (.and ca cb)) :=
  (pe_andT h1 h2).weak fun σ H Q ⟨Z, ι, ρ, st, ss, er, f⟩ => by
    simp only [evE] at f
    refine ⟨Z, ι, ρ, st, ss, er, f.into fun v st1 V Z1 ι1 H1 p1 ss1 r1 f1 => ?_⟩
    obtain ⟨k, hk, f2⟩ := f1.ofO
    refine ⟨k, hx.K ▸ ss1.tru r1 hk, ?_⟩
    cases k with
    | true => exact ⟨Z1, ι1, ρ, st1, ss1, er.mono ss p1, f2⟩
    | false => exact f2.ok ss1 r1
theorem s_or {a b : Expr} {ca cb : CE} {pos : Pos} (hx : XO L n N sc Ex X) (h1 : PE X a (rdE L Ex C ca)) {rest : List Expr} (h2 : PE X (.BoolOp .Or (b :: rest) pos) (rdE L Ex C cb)) : PE X (.BoolOp .Or (a :: b :: rest) pos) (rdE L Ex C (.or ca cb)) :=
  (pe_orT h1 h2).weak fun σ H Q ⟨Z, ι, ρ, st, ss, er, f⟩ => by
    simp only [evE] at f
    refine ⟨Z, ι, ρ, st, ss, er, f.into fun v st1 V Z1 ι1 H1 p1 ss1 r1 f1 => ?_⟩
    obtain ⟨k, hk, f2⟩ := f1.ofO
    refine ⟨k, hx.K ▸ ss1.tru r1 hk, ?_⟩
    cases k with
    | true => exact f2.ok ss1 r1
    | false => exact ⟨Z1, ι1, ρ, st1, ss1, er.mono ss p1, f2⟩
theorem s_ite {c a b : Expr} {cc ca cb : CE} {pos : Pos} (h0 : PT X c (rdT L Ex C cc)) (h1 : PE X a (rdE L Ex C ca)) (h2 : PE X b (rdE L Ex C cb)) : PE X (.IfExp c a b pos) (rdE L Ex C (.ite cc ca cb)) :=
  (pe_ifExp h0 h1 h2).weak fun σ H Q ⟨Z, ι, ρ, st, ss, er, f⟩ => by
    have e : evE C (.ite cc ca cb) ρ st = (evT C cc ρ st).bind fun k st => if k = true then evE C ca ρ st else evE C cb ρ st := by
      unfold evT
      simp only [evE]
      cases evE C cc ρ st with
      | ok v st1 => simp only [R.bind]
      | exc c st1 => rfl
      | stuck => rfl
    rw [e] at f
    refine ⟨Z, ι, ρ, st, ss, er, f.into fun k st1 b Z1 ι1 H1 p1 ss1 r1 f1 => ?_⟩
    obtain rfl : b = k := r1
    cases b with
    | true => exact ⟨Z1, ι1, ρ, st1, ss1, er.mono ss p1, f1⟩
    | false => exact ⟨Z1, ι1, ρ, st1, ss1, er.mono ss p1, f1⟩
theorem pt_ifExp' {c a b : Expr} {tc ta tb : TT} {pos : Pos} (hc : PT X c tc) (ha : PT X a ta) (hb : PT X b tb) : PT X (.IfExp c a b pos) (fun σ H Q => tc σ H fun k H1 => if k = true then ta σ H1 Q else tb σ H1 Q) := by
  refine ⟨fun pins s σ H Q I h => ?_⟩
  show wpAny _ _ (do if ← isTrue c X.env (eval c X.env) then isTrue a X.env (eval a X.env) else isTrue b X.env (eval b X.env)) _ _ s
  refine wpAny_bind (thn (hc.run pins s σ H _ I h) fun d s1 ⟨H1, I1, q1⟩ => ?_)
  cases d with
  | true => exact ha.run pins s1 σ H1 Q I1 q1
  | false => exact hb.run pins s1 σ H1 Q I1 q1
theorem t_ite {c a b : Expr} {cc ca cb : CE} {pos : Pos} (h0 : PT X c (rdT L Ex C cc)) (h1 : PT X a (rdT L Ex C ca)) (h2 : PT X b (rdT L Ex C cb)) : PT X (.IfExp c a b pos) (rdT L Ex C (.ite cc ca cb)) :=
  (pt_ifExp' h0 h1 h2).weak fun σ H Q ⟨Z, ι, ρ, st, ss, er, f⟩ => by
    rw [evT_ite] at f
    refine ⟨Z, ι, ρ, st, ss, er, f.into fun k st1 b Z1 ι1 H1 p1 ss1 r1 f1 => ?_⟩
    obtain rfl : b = k := r1
    cases b with
    | true => exact ⟨Z1, ι1, ρ, st1, ss1, er.mono ss p1, f1⟩
    | false => exact ⟨Z1, ι1, ρ, st1, ss1, er.mono ss p1, f1⟩
/-! comparisons -/
theorem cmp_rd {a b : Expr} {ca cb : CE} {o : COp} (σ : LSt) (H : Hp) (Q : VK) (h : rdE L Ex C (.cmp o ca cb) σ H Q) : tOp (rC L o) (rdE L Ex C ca) (rdE L Ex C cb) σ H Q := by
  obtain ⟨Z, ι, ρ, st, ss, er, f⟩ := h
  simp only [evE] at f
  refine ⟨Z, ι, ρ, st, ss, er, f.into fun v st1 V Z1 ι1 H1 p1 ss1 r1 f1 => ⟨Z1, ι1, ρ, st1, ss1, er.mono ss p1, f1.into fun w st2 W Z2 ι2 H2 p2 ss2 r2 f2 => ?_⟩⟩
  obtain ⟨z, hz, f3⟩ := f2.ofO
  exact ⟨Z2, ι2, st2, v, w, z, ss2, ss1.mono p2 r1, r2, hz, f3.ok ss2 (.bl _)⟩
/-- a test's reading from a value's that is a bool -/
theorem rdT_rdE {c : CE} (hb : ∀ ρ st v st', evE C c ρ st = .ok v st' → ∃ k, v = .bl k) (σ : LSt) (H : Hp) (Q : Bool → Hp → Prop) (h : rdT L Ex C c σ H Q) : rdE L Ex C c σ H fun x H' => ∃ k, x = .bl k ∧ Q k H' := by
  obtain ⟨Z, ι, ρ, st, ss, er, f⟩ := h
  refine ⟨Z, ι, ρ, st, ss, er, ?_⟩
  unfold evT at f
  cases hr : evE C c ρ st with
  | ok v st1 =>
    rw [hr] at f
    obtain ⟨k, rfl⟩ := hb _ _ _ _ hr
    exact fun V Z' ι' H' p ss' r => by
      cases r
      exact ⟨k, rfl, f k Z' ι' H' p ss' rfl⟩
  | exc c st1 => rw [hr] at f; exact f
  | stuck => rw [hr] at f; exact f
theorem rdE_mono {c : CE} {σ : LSt} {H : Hp} {Q Q' : VK} (h : rdE L Ex C c σ H Q) (k : ∀ V H', Q V H' → Q' V H') : rdE L Ex C c σ H Q' := by
  obtain ⟨Z, ι, ρ, st, ss, er, f⟩ := h
  refine ⟨Z, ι, ρ, st, ss, er, ?_⟩
  cases hr : evE C c ρ st with
  | ok v st1 => rw [hr] at f; exact fun V Z' ι' H' p ss' r => k _ _ (f V Z' ι' H' p ss' r)
  | exc c st1 => rw [hr] at f; exact f
  | stuck => rw [hr] at f; exact f
theorem s_cmp {a b : Expr} {ca cb : CE} {o : COp} {pos : Pos} (hx : XO L n N sc Ex X) (hm : behindInMarks (cop o) b = false) (h1 : PE X a (rdE L Ex C ca)) (h2 : PE X b (rdE L Ex C cb)) : PE X (.Compare a [cop o] [b] pos) (rdE L Ex C (.cmp o ca cb)) :=
  (pe_cmpR (op_C hx.K hx.hu o) h1 h2 hm).weak (cmp_rd (a := a) (b := b))
theorem ok_bl {v : PV} {st' : Store} {r : R Bool} (h : (r.bind fun b st => R.ok (.bl b) st) = .ok v st') : ∃ k, v = .bl k := by
  cases r with
  | ok b st1 => cases h; exact ⟨b, rfl⟩
  | exc c st1 => cases h
  | stuck => cases h
theorem bind_ok {α β : Type} {r : R α} {f : α → Store → R β} {v : β} {st' : Store} (h : r.bind f = .ok v st') : ∃ a st1, r = .ok a st1 ∧ f a st1 = .ok v st' := by
  cases r with
  | ok b st1 => exact ⟨b, st1, rfl, h⟩
  | exc c st1 => cases h
  | stuck => cases h
theorem t_cmp {a b : Expr} {ca cb : CE} {o : COp} {pos : Pos} (hx : XO L n N sc Ex X) (hm : behindInMarks (cop o) b = false) (h1 : PE X a (rdE L Ex C ca)) (h2 : PE X b (rdE L Ex C cb)) : PT X (.Compare a [cop o] [b] pos) (rdT L Ex C (.cmp o ca cb)) :=
  (pt_cmpR (op_C hx.K hx.hu o) h1 h2 hm).weak fun σ H Q h => cmp_rd (a := a) (b := b) σ H _ (rdT_rdE (fun ρ st v st' e => by
    simp only [evE] at e
    obtain ⟨_, _, _, e⟩ := bind_ok e
    obtain ⟨_, _, _, e⟩ := bind_ok e
    exact ok_bl e) σ H Q h)
theorem chain_rd {ca cb cc : CE} {o p : COp} (σ : LSt) (H : Hp) (Q : VK) (h : rdE L Ex C (.chain o p ca cb cc) σ H Q) : tChain (rC L o) (rC L p) (rdE L Ex C ca) (rdE L Ex C cb) (rdE L Ex C cc) σ H Q := by
  obtain ⟨Z, ι, ρ, st, ss, er, f⟩ := h
  simp only [evE] at f
  refine ⟨Z, ι, ρ, st, ss, er, f.into fun v st1 V Z1 ι1 H1 p1 ss1 r1 f1 => ⟨Z1, ι1, ρ, st1, ss1, er.mono ss p1, f1.into fun w st2 W Z2 ι2 H2 p2 ss2 r2 f2 => ?_⟩⟩
  obtain ⟨k, hz, f3⟩ := f2.ofO
  refine ⟨Z2, ι2, st2, v, w, k, ss2, ss1.mono p2 r1, r2, hz, k, rfl, ?_⟩
  cases k with
  | false => exact f3.ok ss2 (.bl _)
  | true =>
    refine ⟨Z2, ι2, ρ, st2, ss2, (er.mono ss p1).mono ss1 p2, f3.into fun z st3 Z' Z3 ι3 H3 p3 ss3 r3 f4 => ?_⟩
    obtain ⟨k2, hz2, f5⟩ := f4.ofO
    exact ⟨Z3, ι3, st3, w, z, k2, ss3, ss2.mono p3 r2, r3, hz2, f5.ok ss3 (.bl _)⟩
theorem last_ok {o p : COp} {b c : Expr} (h : behindInMarks (cop p) c = false) : lastMarks [cop o, cop p] [b, c] = false := by
  show lastMarks [cop p] [c] = false
  exact h
theorem s_chain {a b c : Expr} {ca cb cc : CE} {o p : COp} {pos : Pos} (hx : XO L n N sc Ex X) (hm : behindInMarks (cop p) c = false) (h1 : PE X a (rdE L Ex C ca)) (h2 : PE X b (rdE L Ex C cb)) (h3 : PE X c (rdE L Ex C cc)) :
    PE X (.Compare a [cop o, cop p] [b, c] pos) (rdE L Ex C (.chain o p ca cb cc)) :=
  (pe_chain (op_C hx.K hx.hu o) (op_C hx.K hx.hu p) h1 h2 h3 (last_ok hm)).weak chain_rd
theorem t_chain {a b c : Expr} {ca cb cc : CE} {o p : COp} {pos : Pos} (hx : XO L n N sc Ex X) (hm : behindInMarks (cop p) c = false) (h1 : PE X a (rdE L Ex C ca)) (h2 : PE X b (rdE L Ex C cb)) (h3 : PE X c (rdE L Ex C cc)) :
    PT X (.Compare a [cop o, cop p] [b, c] pos) (rdT L Ex C (.chain o p ca cb cc)) :=
  (pt_chain (op_C hx.K hx.hu o) (op_C hx.K hx.hu p) h1 h2 h3 (last_ok hm)).weak fun σ H Q h => chain_rd σ H _ (rdT_rdE (fun ρ st v st' e => by
    simp only [evE] at e
    obtain ⟨_, _, _, e⟩ := bind_ok e
    obtain ⟨_, _, _, e⟩ := bind_ok e
    obtain ⟨k, _, _, e⟩ := bind_ok e
    split at e
    · obtain ⟨_, _, _, e⟩ := bind_ok e
      exact ok_bl e
    · cases e; exact ⟨_, rfl⟩) σ H Q h)
theorem rep_non {Z : Addr → Prop} {ι : List Addr} {H : Hp} {V : V} {v : PV} (r : Rep L Z ι H V v) : decide (V = .non) = (match v with | .non => true | _ => false) := by
  cases v <;> cases r <;> rfl
theorem s_isN {a : Expr} {ca : CE} {g : Bool} {k : Nat} {pos p2 : Pos} (h1 : PE X a (rdE L Ex C ca)) : PE X (.Compare a [if g then .Is else .IsNot] [.Constant .none k p2] pos) (rdE L Ex C (.isN ca g)) := by
  have rd : ∀ (σ : LSt) (H : Hp) (Q : VK), rdE L Ex C (.isN ca g) σ H Q → rdE L Ex C ca σ H fun x H1 => Q (.bl (if g then decide (x = .non) else !decide (x = .non))) H1 := fun σ H Q ⟨Z, ι, ρ, st, ss, er, f⟩ => by
    simp only [evE] at f
    refine ⟨Z, ι, ρ, st, ss, er, f.into fun v st1 V Z1 ι1 H1 p1 ss1 r1 f1 => ?_⟩
    rw [rep_non r1]
    have := f1.ok ss1 (.bl _)
    cases g <;> cases v <;> exact this
  cases g with
  | true => exact (pe_cmpR op_isN h1 pe_non (nomark _)).weak fun σ H Q h => rdE_mono (rd σ H Q h) fun V H' q => ⟨rfl, q⟩
  | false => exact (pe_cmpR op_notN h1 pe_non (nomark _)).weak fun σ H Q h => rdE_mono (rd σ H Q h) fun V H' q => ⟨rfl, q⟩
theorem isN_bl {ca : CE} {g : Bool} : ∀ ρ st v st', evE C (.isN ca g) ρ st = .ok v st' → ∃ k, v = .bl k := fun ρ st v st' e => by
  simp only [evE] at e
  obtain ⟨_, _, _, e⟩ := bind_ok e
  cases e
  exact ⟨_, rfl⟩
theorem t_isN {a : Expr} {ca : CE} {g : Bool} {k : Nat} {pos p2 : Pos} (h1 : PE X a (rdE L Ex C ca)) : PT X (.Compare a [if g then .Is else .IsNot] [.Constant .none k p2] pos) (rdT L Ex C (.isN ca g)) := by
  have rd : ∀ (σ : LSt) (H : Hp) (Q : VK), rdE L Ex C (.isN ca g) σ H Q → rdE L Ex C ca σ H fun x H1 => Q (.bl (if g then decide (x = .non) else !decide (x = .non))) H1 := fun σ H Q ⟨Z, ι, ρ, st, ss, er, f⟩ => by
    simp only [evE] at f
    refine ⟨Z, ι, ρ, st, ss, er, f.into fun v st1 V Z1 ι1 H1 p1 ss1 r1 f1 => ?_⟩
    rw [rep_non r1]
    have := f1.ok ss1 (.bl _)
    cases g <;> cases v <;> exact this
  cases g with
  | true => exact (pt_cmpR op_isN h1 pe_non (nomark _)).weak fun σ H Q h => rdE_mono (rd σ H _ (rdT_rdE isN_bl σ H Q h)) fun V H' q => ⟨rfl, q⟩
  | false => exact (pt_cmpR op_notN h1 pe_non (nomark _)).weak fun σ H Q h => rdE_mono (rd σ H _ (rdT_rdE isN_bl σ H Q h)) fun V H' q => ⟨rfl, q⟩
theorem isB_rd {ca : CE} {b g : Bool} (σ : LSt) (H : Hp) (Q : VK) (h : rdE L Ex C (.isB ca b g) σ H Q) : rdE L Ex C ca σ H fun x H1 => ∃ c d, x = .bl c ∧ V.bl b = .bl d ∧ Q (.bl (if g then decide (c = d) else !decide (c = d))) H1 := by
  obtain ⟨Z, ι, ρ, st, ss, er, f⟩ := h
  simp only [evE] at f
  refine ⟨Z, ι, ρ, st, ss, er, f.into fun v st1 V Z1 ι1 H1 p1 ss1 r1 f1 => ?_⟩
  cases v with
  | bl c =>
    cases r1
    have := f1.ok ss1 (.bl _)
    refine ⟨c, b, rfl, rfl, ?_⟩
    cases g <;> cases b <;> cases c <;> exact this
  | _ => exact (show False from f1).elim
theorem isB_bl {ca : CE} {b g : Bool} : ∀ ρ st v st', evE C (.isB ca b g) ρ st = .ok v st' → ∃ k, v = .bl k := fun ρ st v st' e => by
  simp only [evE] at e
  obtain ⟨a, _, _, e⟩ := bind_ok e
  cases a <;> first | (cases e; done) | (cases e; exact ⟨_, rfl⟩)
theorem s_isB {a : Expr} {ca : CE} {b g : Bool} {k : Nat} {pos p2 : Pos} (h1 : PE X a (rdE L Ex C ca)) : PE X (.Compare a [if g then .Is else .IsNot] [.Constant (.bool b) k p2] pos) (rdE L Ex C (.isB ca b g)) := by
  cases g with
  | true => exact (pe_cmpR op_isBl h1 pe_bl (nomark _)).weak fun σ H Q h => isB_rd σ H Q h
  | false => exact (pe_cmpR op_notBl h1 pe_bl (nomark _)).weak fun σ H Q h => isB_rd σ H Q h
theorem t_isB {a : Expr} {ca : CE} {b g : Bool} {k : Nat} {pos p2 : Pos} (h1 : PE X a (rdE L Ex C ca)) : PT X (.Compare a [if g then .Is else .IsNot] [.Constant (.bool b) k p2] pos) (rdT L Ex C (.isB ca b g)) := by
  cases g with
  | true => exact (pt_cmpR op_isBl h1 pe_bl (nomark _)).weak fun σ H Q h => isB_rd σ H _ (rdT_rdE isB_bl σ H Q h)
  | false => exact (pt_cmpR op_notBl h1 pe_bl (nomark _)).weak fun σ H Q h => isB_rd σ H _ (rdT_rdE isB_bl σ H Q h)
theorem s_idx {a b : Expr} {ca cb : CE} {pos : Pos} (hx : XO L n N sc Ex X) (hi : PlainIx b) (h1 : PE X a (rdE L Ex C ca)) (h2 : PE X b (rdE L Ex C cb)) : PE X (.Subscript a b pos) (rdE L Ex C (.idx ca cb)) :=
  (pe_ix (ix_V hx.K) h1 h2 hi).weak fun σ H Q ⟨Z, ι, ρ, st, ss, er, f⟩ => by
    simp only [evE] at f
    refine ⟨Z, ι, ρ, st, ss, er, f.into fun v st1 V Z1 ι1 H1 p1 ss1 r1 f1 => ⟨Z1, ι1, ρ, st1, ss1, er.mono ss p1, f1.into fun w st2 W Z2 ι2 H2 p2 ss2 r2 f2 => ?_⟩⟩
    obtain ⟨z, hz, f3⟩ := f2.ofO1
    exact ⟨Z2, ι2, st2, v, w, z, ss2, ss1.mono p2 r1, r2, hz, f3.outs⟩
/-- the reading of a slice's part -/
def rdP (L : Lk) (Ex : Nat → Hp → Prop) (C : Calls) (c : CE) : TO := fun σ H Q => ∃ Z ι ρ st, SS L Z ι H st ∧ ER L Z ι H σ ρ ∧ Fin L (fun _ _ _ (b : Option Int) v => b = v) Ex Z ι H (partR c.isNon (evE C c ρ st) st) Q
theorem p_none : PO X none (rdP L Ex C (.cst .non)) := ⟨fun pins s σ H Q I ⟨Z, ι, ρ, st, ss, er, f⟩ => po_none.run pins s σ H Q I (f.ok ss rfl)⟩
theorem p_some {e : Expr} {c : CE} (hn : c.isNon = false) (h : PE X e (rdE L Ex C c)) : PO X (some e) (rdP L Ex C c) := by
  refine ⟨fun pins s σ H Q I ⟨Z, ι, ρ, st, ss, er, f⟩ => (po_some h).run pins s σ H Q I ?_⟩
  unfold partR at f
  rw [hn, if_neg Bool.false_ne_true] at f
  refine ⟨Z, ι, ρ, st, ss, er, f.into fun v st1 V Z1 ι1 H1 p1 ss1 r1 f1 => ?_⟩
  cases v with
  | int i => exact ⟨i, int_of r1, f1.ok ss1 rfl⟩
  | _ => exact (show False from f1).elim
theorem s_slc {a : Expr} {lo hi : Option Expr} {ca cl ch : CE} {p2 pos : Pos} (hx : XO L n N sc Ex X) (h1 : PE X a (rdE L Ex C ca)) (h2 : PO X lo (rdP L Ex C cl)) (h3 : PO X hi (rdP L Ex C ch)) : PE X (.Subscript a (.Slice lo hi none p2) pos) (rdE L Ex C (.slc ca cl ch)) :=
  (pe_slice (sl_V hx.K) h1 h2 h3).weak fun σ H Q ⟨Z, ι, ρ, st, ss, er, f⟩ => by
    simp only [evE] at f
    refine ⟨Z, ι, ρ, st, ss, er, f.into fun v st1 V Z1 ι1 H1 p1 ss1 r1 f1 => ⟨Z1, ι1, ρ, st1, ss1, er.mono ss p1, f1.into fun l st2 l' Z2 ι2 H2 p2 ss2 r2 f2 => ⟨Z2, ι2, ρ, st2, ss2, (er.mono ss p1).mono ss1 p2, f2.into fun h st3 h' Z3 ι3 H3 p3 ss3 r3 f3 => ?_⟩⟩⟩
    obtain ⟨z, hz, f4⟩ := f3.ofO1
    obtain rfl : l' = l := r2
    obtain rfl : h' = h := r3
    exact ⟨Z3, ι3, st3, v, z, ss3, ss2.mono p3 (ss1.mono p2 r1), hz, f4.outs⟩
theorem s_rev {a : Expr} {ca : CE} {k : Nat} {p1 p2 p3 pos : Pos} (hx : XO L n N sc Ex X) (h1 : PE X a (rdE L Ex C ca)) : PE X (.Subscript a (.Slice none none (some (.UnaryOp .USub (.Constant (.int 1) k p1) p2)) p3) pos) (rdE L Ex C (.rev ca)) :=
  (pe_revA h1).weak fun σ H Q ⟨Z, ι, ρ, st, ss, er, f⟩ => by
    simp only [evE] at f
    refine ⟨Z, ι, ρ, st, ss, er, f.into fun v st1 V Z1 ι1 H1 p1 ss1 r1 f1 => ?_⟩
    obtain ⟨z, hz, f4⟩ := f1.ofO1
    have o := f4.outs
    unfold pyRev at hz
    split at hz
    · rename_i xs e1
      cases hz
      replace r1 := rep_T e1 r1
      cases r1 with
      | tup hs hr => exact ⟨_, _, rfl, .inl ⟨hx.K ▸ hs, o.tup ss1 hr.rev⟩⟩
    · rename_i xs e1
      cases hz
      obtain ⟨p, vs, rfl, hp, hr⟩ := ss1.derefL r1 e1
      exact ⟨p, vs, rfl, .inr ⟨.inl (.inl hp), o.lst ss1 hr.rev⟩⟩
    · cases hz
def srtS : Str := Str.ofString "sorted"
def setS : Str := Str.ofString "set"
def rngS : Str := Str.ofString "range"
theorem s_sst {a : Expr} {c : CE} {p p2 q pos : Pos} {G : GN} (hx : XO L n N sc Ex X) (hG : GOk L G) (hm : srtS ∈ G.bn) (hm2 : setS ∈ G.bn) (hg : glbB sc srtS = true) (hg2 : glbB sc setS = true) (hs : notStar a = true)
    (h : PE X a (rdE L Ex C c)) : PE X (.Call (.Name srtS p) [.Call (.Name setS p2) [a] [] q] [] pos) (rdE L Ex C (.sst c)) :=
  (pe_sortset hx.calm (hx.gl hg) (by rw [hx.mg]; exact hG.bn _ hm) (hx.gl hg2) (by rw [hx.mg]; exact hG.bn _ hm2) h (star_ok hs)).weak fun σ H Q ⟨Z, ι, ρ, st, ss, er, f⟩ => by
    simp only [evE] at f
    refine ⟨Z, ι, ρ, st, ss, er, f.into fun v st1 V Z1 ι1 H1 p1 ss1 r1 f1 => ?_⟩
    obtain ⟨z, hz, f2⟩ := f1.ofO1
    have o := f2.outs
    unfold pySS at hz
    split at hz
    · rename_i xs e1
      split at hz
      · rename_i is hi
        split at hz
        · rename_i hl
          cases hz
          obtain ⟨pp, vs, rfl, hp, hr⟩ := ss1.derefL r1 e1
          have ev := inl_rep hr hi
          subst ev
          refine ⟨pp, is, rfl, .inl (.inl hp), hl, fun ms l hs hm hn => ?_⟩
          have em : ms = sset is := asc_one hs (sset_asc is) fun x => (hm x).trans (sset_mem x is).symm
          rw [em]
          exact o.lst ss1 (reps_ints _) l hn
        · cases hz
      · cases hz
    · cases hz
/-- tuple(list): a known tuple -/
def rKt (L : Lk) : List V → Hp → VK → Prop := fun xs H Q => ∃ Z ι st v w, SS L Z ι H st ∧ (∃ x, xs = [x] ∧ Rep L Z ι H x v) ∧ pyKt (deref st v) = some w ∧ Outs L Z ι st H w Q
theorem call_Kt {X : Cx} {L : Lk} (hK : X.K = L.K) : CallR X (.type "tuple") (rKt L) := by
  intro pins s σ H xs us Q I r h
  obtain ⟨Z, ι, st, v, w, ss, ⟨x, rfl, rx⟩, h, o⟩ := h
  unfold pyKt at h
  split at h
  · rename_i ys e
    cases h
    obtain ⟨p, vs, rfl, hp, hr⟩ := ss.derefL rx e
    exact call_tupleK pins s σ H _ us Q I r ⟨_, _, rfl, .inl (.inl hp), fun l ob hl hc hd => o.ktp ss hr l ob hl hc hd⟩
  · cases h
def cntS : Str := Str.ofString "count"
def lrgS (t : Bool) : Str := if t then Str.ofString "tuple" else Str.ofString "list"
theorem rg_rep {Z : Addr → Prop} {ι : List Addr} {H : Hp} (n : Int) : Reps L Z ι H (rgV 0 n) (rgV' 0 n.toNat) := by
  unfold rgV rgV'
  rw [Int.sub_zero]
  have : ∀ l : List Nat, Reps L Z ι H (l.map fun i => V.int (0 + (i : Nat))) (l.map fun i => PV.int (0 + (i : Nat))) := by
    intro l
    induction l with
    | nil => exact .nil
    | cons a l ih => exact .cons (.int _) ih
  exact this _
theorem s_lrg {a : Expr} {c : CE} {t : Bool} {p p2 q pos : Pos} {G : GN} (hx : XO L n N sc Ex X) (hG : GOk L G) (hm : lrgS t ∈ G.bn) (hm2 : rngS ∈ G.bn) (hg : glbB sc (lrgS t) = true) (hg2 : glbB sc rngS = true) (hs : notStar a = true)
    (h : PE X a (rdE L Ex C c)) : PE X (.Call (.Name (lrgS t) p) [.Call (.Name rngS p2) [a] [] q] [] pos) (rdE L Ex C (.lrg t c)) := by
  have rg : ∀ {n : Int}, rgOk 0 n = true → RgOk 0 n := fun {n} h => by
    unfold rgOk at h
    simp only [Bool.and_eq_true, Nat.ble_eq] at h
    have : lim = 1000000 := rfl
    exact ⟨by omega, by omega, by omega, by omega, by omega⟩
  have hr : PRg X (.Call (.Name rngS p2) [a] [] q) (tRg1 (rdE L Ex C c)) := prg_1 (hx.gl hg2) (by rw [hx.mg]; exact hG.bn _ hm2) h (by first | exact star_ok hs | exact star_any hs)
  cases t with
  | false =>
    refine (pe_listRg hx.calm (hx.gl hg) (by rw [hx.mg]; exact hG.bn _ hm) hr).weak fun σ H Q ⟨Z, ι, ρ, st, ss, er, f⟩ => ?_
    simp only [evE] at f
    refine ⟨Z, ι, ρ, st, ss, er, f.into fun v st1 V Z1 ι1 H1 p1 ss1 r1 f1 => ?_⟩
    obtain ⟨z, hz, f2⟩ := f1.ofO1
    have o := f2.outs
    unfold pyRg at hz
    split at hz
    · split at hz
      · rename_i hk
        cases hz
        exact ⟨_, int_of r1, rg hk, fun l hn => o.lst ss1 (rg_rep _) l hn⟩
      · cases hz
    · cases hz
  | true =>
    refine (pe_tupRg hx.calm (hx.gl hg) (by rw [hx.mg]; exact hG.bn _ hm) hr).weak fun σ H Q ⟨Z, ι, ρ, st, ss, er, f⟩ => ?_
    simp only [evE] at f
    refine ⟨Z, ι, ρ, st, ss, er, f.into fun v st1 V Z1 ι1 H1 p1 ss1 r1 f1 => ?_⟩
    obtain ⟨z, hz, f2⟩ := f1.ofO1
    have o := f2.outs
    unfold pyRg at hz
    split at hz
    · split at hz
      · rename_i hk
        cases hz
        exact ⟨_, int_of r1, rg hk, fun l hn => o.tup ss1 (rg_rep _) l hn⟩
      · cases hz
    · cases hz
/-! calls -/
theorem pass_of (hx : XO L n N sc Ex X) : L2.Passes (L2.CX X.prog X.w) X (fun cls d H => ∃ c, cls = .ref (L.ca c) ∧ d = none ∧ Ex c H) := L2.passes_call hx.tk fun _ _ _ _ h => h
theorem fin_call {f : Nat} {vs : List PV} {VS : List V} {st : Store} {Z : Addr → Prop} {ι : List Addr} {H : Hp} {Q : VK} (ss : SS L Z ι H st) (r : Reps L Z ι H VS vs) (h : Fin L (relV L) Ex Z ι H (callN T W n f vs st) Q) :
    spN L T W n f (VS ++ []) H Q (fun cls d H => ∃ c, cls = .ref (L.ca c) ∧ d = none ∧ Ex c H) := by
  rw [List.append_nil]
  refine ⟨Z, ι, st, vs, ss, r, ?_⟩
  cases hr : callN T W n f vs st with
  | ok v st1 => rw [hr] at h; exact h
  | exc c st1 => rw [hr] at h; exact fun Z' ι' H' p ss' => ⟨c, rfl, rfl, h Z' ι' H' p ss'⟩
  | stuck => rw [hr] at h; exact h
theorem s_call {G : GN} {f : Nat} {x : Str} {es : List Expr} {cs : CE} {p pos : Pos} (hx : XO L n N sc Ex X) (hG : GOk L G) (hF : FOk L T W n) (hn : G.fn[f]? = some x) (hg : glbB sc x = true) (hm : nmOk x = true) (hs : es.all notStar = true) (hne : es ≠ [])
    (h : PA X es (rdL L Ex (callN T W n) cs)) : PE X (.Call (.Name x p) es [] pos) (rdE L Ex (callN T W n) (.call f cs)) := by
  obtain ⟨h1, h2, _⟩ := nmOk_of hm
  obtain ⟨fd, ps, F, hk, hb⟩ := hF f (hG.fn f x hn).2
  cases es with
  | nil => exact absurd rfl hne
  | cons e es =>
    rw [List.all_cons, Bool.and_eq_true] at hs
    refine (pe_call (k := n) (f := L.fa f) (fd := fd) (ps := ps) (sp := spN L T W n f) (CX := L2.CX X.prog X.w) (by rw [hx.P, hx.w, hx.K, hx.mg, hx.base]; exact F) hx.room (hx.gl hg) (by rw [hx.mg]; exact (hG.fn f x hn).1) (by rw [hx.K]; exact hk) (by rw [hx.K]; exact hb) .nil (pass_of hx) h h1 (star_ok hs.1) (star_any hs.2)).weak fun σ H Q ⟨Z, ι, ρ, st, ss, er, ff⟩ => ?_
    simp only [evE] at ff
    exact ⟨Z, ι, ρ, st, ss, er, ff.into fun vs st1 VS Z1 ι1 H1 p1 ss1 r1 f1 => fin_call ss1 r1 f1⟩
/-- a call of what a slot holds -/
theorem s_callv {i : Nat} {x : Str} {es : List Expr} {cs : CE} {p pos : Pos} (hx : XO L n N sc Ex X) (hF : FOk L T W n) (hN : N[i]? = some x) (hv : visB sc x = true) (hm : nmOk x = true) (hs : es.all notStar = true) (hne : es ≠ [])
    (h : PA X es (rdL L Ex (callN T W n) cs)) : PE X (.Call (.Name x p) es [] pos) (rdE L Ex (callN T W n) (.callv i cs)) := by
  obtain ⟨h1, h2, _⟩ := nmOk_of hm
  cases es with
  | nil => exact absurd rfl hne
  | cons e es =>
    rw [List.all_cons, Bool.and_eq_true] at hs
    refine ⟨fun pins s σ H Q I hq => ?_⟩
    obtain ⟨Z, ι, ρ, st, ss, er, ff⟩ := hq
    simp only [evE] at ff
    split at ff
    · rename_i f hρ
      obtain ⟨V, hV, rV⟩ := er.at_ i _ hρ
      cases rV with
      | fn _ hf =>
        obtain ⟨fd, ps, F, hk, hb⟩ := hF f hf
        exact (pe_callL (k := n) (i := i) (f := L.fa f) (fd := fd) (ps := ps) (sp := spN L T W n f) (CX := L2.CX X.prog X.w) (by rw [hx.P, hx.w, hx.K, hx.mg, hx.base]; exact F) hx.room (by rw [hx.nm]; exact hN) (by rw [hx.sc]; exact visB_of hv) (by rw [hx.K]; exact hk) (by rw [hx.K]; exact hb) .nil (pass_of hx) h h1 h2 (star_ok hs.1) (star_any hs.2)).run pins s σ H Q I
          ⟨hV, Z, ι, ρ, st, ss, er, ff.into fun vs st1 VS Z1 ι1 H1 p1 ss1 r1 f1 => fin_call ss1 r1 f1⟩
    · exact (show False from ff).elim
/-! built-ins -/
theorem boot_blt (b : Blt) : bootBuiltins (bltS b) = some (bltV b) := by
  cases b <;> decide +kernel
theorem s_blt {b : Blt} {es : List Expr} {cs : CE} {p pos : Pos} {G : GN} (hx : XO L n N sc Ex X) (hG : GOk L G) (hm : bltS b ∈ G.bn) (hg : glbB sc (bltS b) = true) (hs : es.all notStar = true) (hne : es ≠ [])
    (h : PA X es (rdL L Ex C cs)) : PE X (.Call (.Name (bltS b) p) es [] pos) (rdE L Ex C (.blt b cs)) := by
  have hk : nmOk (bltS b) = true := by cases b <;> decide +kernel
  obtain ⟨h1, h2, h3⟩ := nmOk_of hk
  cases es with
  | nil => exact absurd rfl hne
  | cons e es =>
    rw [List.all_cons, Bool.and_eq_true] at hs
    have rd : ∀ (σ : LSt) (H : Hp) (Q : VK), rdE L Ex C (.blt b cs) σ H Q → tCB (rBlt L b) (rdL L Ex C cs) σ H Q := fun σ H Q ⟨Z, ι, ρ, st, ss, er, f⟩ => by
      simp only [evE] at f
      refine ⟨Z, ι, ρ, st, ss, er, f.into fun vs st1 VS Z1 ι1 H1 p1 ss1 r1 f1 => ?_⟩
      obtain ⟨z, hz, f2⟩ := f1.ofO1
      exact ⟨Z1, ι1, st1, vs, z, ss1, r1, hz, f2.outs⟩
    have bo := boot_blt b
    have cb := call_B (L := L) hx.K hx.calm b
    unfold bltV at bo cb
    cases hb : bltT b with
    | true =>
      rw [hb, if_pos rfl] at bo cb
      exact (pe_callTy cb (hx.gl hg) (by rw [hx.mg]; exact hG.bn _ hm) bo h h3 h1 (star_ok hs.1) (star_any hs.2)).weak rd
    | false =>
      rw [hb, if_neg Bool.false_ne_true] at bo cb
      exact (pe_callB cb (hx.gl hg) (by rw [hx.mg]; exact hG.bn _ hm) bo h h3 h1 (star_ok hs.1) (star_any hs.2)).weak rd
theorem s_mkt {es : List Expr} {cs : CE} {p pos : Pos} {G : GN} (hx : XO L n N sc Ex X) (hG : GOk L G) (hm : bltS .list ∈ G.bn) (hg : glbB sc (bltS .list) = true) (hs : es.all notStar = true) (hne : es ≠ [])
    (h : PA X es (rdL L Ex C cs)) : PE X (.Call (.Name (bltS .list) p) es [] pos) (rdE L Ex C (.mkt .list cs)) := by
  have hk : nmOk (bltS .list) = true := by decide +kernel
  obtain ⟨h1, h2, h3⟩ := nmOk_of hk
  cases es with
  | nil => exact absurd rfl hne
  | cons e es =>
    rw [List.all_cons, Bool.and_eq_true] at hs
    refine (pe_callTy (call_BC (L := L) hx.K) (hx.gl hg) (by rw [hx.mg]; exact hG.bn _ hm) (boot_blt .list) h h3 h1 (star_ok hs.1) (star_any hs.2)).weak fun σ H Q ⟨Z, ι, ρ, st, ss, er, f⟩ => ?_
    simp only [evE] at f
    refine ⟨Z, ι, ρ, st, ss, er, f.into fun vs st1 VS Z1 ι1 H1 p1 ss1 r1 f1 => ?_⟩
    obtain ⟨z, hz, f2⟩ := f1.ofO
    obtain ⟨xs, rfl⟩ := alloc_inv (α := Nat) (γ := Nat) (δ := Nat) (rel2 := fun _ _ _ _ _ => True) f2
    exact ⟨Z1, ι1, st1, vs, xs, ss1, r1, rfl, hz, f2.alloc ss1⟩
def isiS : Str := Str.ofString "isinstance"
def tyS (t : Ty) : Str := Str.ofString (tyN t)
theorem s_isi {t : Ty} {e : Expr} {c : CE} {p p2 pos : Pos} {G : GN} (hx : XO L n N sc Ex X) (hG : GOk L G) (hm : isiS ∈ G.bn) (hm2 : tyS t ∈ G.bn) (hg : glbB sc isiS = true) (hg2 : glbB sc (tyS t) = true) (hs : notStar e = true)
    (h : PE X e (rdE L Ex C c)) : PE X (.Call (.Name isiS p) [e, .Name (tyS t) p2] [] pos) (rdE L Ex C (.isi c t)) := by
  obtain ⟨h1, h2, h3⟩ := nmOk_of (show nmOk isiS = true by decide +kernel)
  obtain ⟨k1, k2, k3⟩ := nmOk_of (show nmOk (tyS t) = true by cases t <;> decide +kernel)
  have bt : bootBuiltins (tyS t) = some (.type (tyN t)) := by cases t <;> decide +kernel
  have hty : PE X (.Name (tyS t) p2) (tC (.ty (tyN t))) := pe_bltn (hx.gl hg2) (by rw [hx.mg]; exact hG.bn _ hm2) bt rfl k3 k1
  refine (pe_callB (call_isT (L := L) hx.K t) (hx.gl hg) (by rw [hx.mg]; exact hG.bn _ hm) (by decide +kernel) (pa_cons h (pa_cons hty pa_nil) (star_ok hs)) h3 h1 (star_ok hs)).weak fun σ H Q ⟨Z, ι, ρ, st, ss, er, f⟩ => ?_
  simp only [evE] at f
  refine ⟨Z, ι, ρ, st, ss, er, f.into fun v st1 V Z1 ι1 H1 p1 ss1 r1 f1 => ?_⟩
  split at f1
  · rename_i hk
    exact ⟨Z1, ι1, st1, V, v, rfl, ss1, r1, hk, f1.ok ss1 (.bl _)⟩
  · exact (show False from f1).elim
theorem s_ktp {e : Expr} {c : CE} {p pos : Pos} {G : GN} (hx : XO L n N sc Ex X) (hG : GOk L G) (hm : bltS .tuple ∈ G.bn) (hg : glbB sc (bltS .tuple) = true) (hs : notStar e = true)
    (h : PE X e (rdE L Ex C c)) : PE X (.Call (.Name (bltS .tuple) p) [e] [] pos) (rdE L Ex C (.ktp c)) := by
  have hk : nmOk (bltS .tuple) = true := by decide +kernel
  obtain ⟨h1, h2, h3⟩ := nmOk_of hk
  refine (pe_callTy (call_Kt (L := L) hx.K) (hx.gl hg) (by rw [hx.mg]; exact hG.bn _ hm) (boot_blt .tuple) (pa_cons h pa_nil (star_ok hs)) h3 h1 (star_ok hs)).weak fun σ H Q ⟨Z, ι, ρ, st, ss, er, f⟩ => ?_
  simp only [evE] at f
  refine ⟨Z, ι, ρ, st, ss, er, f.into fun v st1 V Z1 ι1 H1 p1 ss1 r1 f1 => ?_⟩
  obtain ⟨z, hz, f2⟩ := f1.ofO1
  exact ⟨Z1, ι1, st1, v, z, ss1, ⟨_, rfl, r1⟩, hz, f2.outs⟩
theorem s_cnt {x : Str} {e : Expr} {ca c : CE} {p p0 pos : Pos} (hx : XO L n N sc Ex X) (hs : notStar e = true) (hl : (p.endLine == pos.line) = true) (h1 : PE X (.Name x p0) (rdE L Ex C ca)) (h2 : PE X e (rdE L Ex C c)) :
    PE X (.Call (.Attribute (.Name x p0) cntS p) [e] [] pos) (rdE L Ex C (.cnt ca c)) := by
  refine (pe_bmT PySem.F.plainAttrs_tuple PySem.F.slot_tuple_count PySem.F.type_tuple_count mt_tcount h1 (pa_cons h2 pa_nil (star_ok hs)) (by rfl) (by rw [star_ok hs]; rfl) hl (star_ok hs)).weak fun σ H Q ⟨Z, ι, ρ, st, ss, er, f⟩ => ?_
  simp only [evE] at f
  refine ⟨Z, ι, ρ, st, ss, er, f.into fun v st1 V Z1 ι1 H1 p1 ss1 r1 f1 => ?_⟩
  cases v with
  | ktp xs =>
    have f1 : Fin L (relV L) Ex Z1 ι1 H1 ((evE C c ρ st1).bind fun y st => R.ofO (pyCnt xs y) st) Q := f1
    have r1' := r1
    cases r1 with
    | ktp hs hc hd hr =>
      refine ⟨⟨_, _, _, rfl, hs, hc, hd⟩, Z1, ι1, ρ, st1, ss1, er.mono ss p1, f1.into fun w st2 W Z2 ι2 H2 p2 ss2 r2 f2 => ?_⟩
      obtain ⟨z, hz, f3⟩ := f2.ofO1
      have r3 := ss1.mono p2 r1'
      unfold pyCnt at hz
      split at hz
      · rename_i k
        cases hi : inl xs with
        | none => rw [hi] at hz; cases hz
        | some is =>
          rw [hi] at hz
          cases hz
          cases r3 with
          | ktp hs3 hc3 hd3 hr3 =>
            have ev := inl_rep hr3 hi
            subst ev
            exact ⟨_, is, k, rfl, by rw [int_of r2], .inl (.inr ⟨_, hs3⟩), f3.ok ss2 (.int _)⟩
      · cases hz
  | _ => exact (show False from f1).elim
/-- a.append(e) -/
def appS : Str := Str.ofString "append"
theorem s_app {x : Str} {e : Expr} {ca c : CE} {p p0 pos : Pos} (hx : XO L n N sc Ex X) (hs : notStar e = true) (hl : (p.endLine == pos.line) = true) (h1 : PE X (.Name x p0) (rdE L Ex C ca)) (h2 : PE X e (rdE L Ex C c)) :
    PE X (.Call (.Attribute (.Name x p0) appS p) [e] [] pos) (rdE L Ex C (.app ca c)) := by
  refine (pe_bm PySem.F.plainAttrs_list PySem.F.slot_list_append PySem.F.type_list_append mt_append h1 (pa_cons h2 pa_nil (star_ok hs)) (by rfl) (by rw [star_ok hs]; rfl) hl (star_ok hs)).weak fun σ H Q ⟨Z, ι, ρ, st, ss, er, f⟩ => ?_
  simp only [evE] at f
  refine ⟨Z, ι, ρ, st, ss, er, f.into fun v st1 V Z1 ι1 H1 p1 ss1 r1 f1 => ?_⟩
  cases v with
  | ref m =>
    have f1 : Fin L (relV L) Ex Z1 ι1 H1 ((evE C c ρ st1).bind fun y st => appTo st (.ref m) y) Q := f1
    cases r1 with
    | @ref q _ em =>
      have hm : m < st1.length := by
        have := (List.getElem?_eq_some_iff.mp em).1
        rw [ss1.len] at this
        exact this
      have ec := ss1.cell m st1[m] (List.getElem?_eq_getElem hm)
      obtain ⟨a, ea, cr⟩ := ec
      rw [em] at ea
      cases ea
      have hH : ∃ us, H1 q = some (.lst us) := by
        cases hc : st1[m] with
        | l ys => rw [hc] at cr; obtain ⟨us, e1, _⟩ := cr; exact ⟨us, e1⟩
      obtain ⟨us, hH⟩ := hH
      refine ⟨.inl ⟨rfl, us, .inl (.inl hH)⟩, Z1, ι1, ρ, st1, ss1, er.mono ss p1, f1.into fun w st2 W Z2 ι2 H2 p2 ss2 r2 f2 => ?_⟩
      have em2 := p2.ixmono em
      simp only [appTo] at f2
      cases hc : st2[m]? with
      | none => rw [hc] at f2; exact (show False from f2).elim
      | some cell =>
        cases cell with
        | l ys =>
          rw [hc] at f2
          simp only at f2
          obtain ⟨a2, ea2, us2, eh2, rs2⟩ := ss2.cell m _ hc
          rw [em2] at ea2
          cases ea2
          split at f2
          · rename_i hlt
            obtain ⟨w1, w2⟩ := ss2.write (xs := ys ++ [w]) em2 (rs2.append (.cons r2 .nil))
            refine ⟨q, us2, W, rfl, rfl, eh2, ?_, f2 _ _ _ _ w1 w2 .non⟩
            rw [rs2.len, sizeLine_eq]
            unfold lim at hlt
            omega
          · exact (show False from f2).elim
  | _ => exact (show False from f1).elim
end
end Ev
end
section
set_option Elab.async false
set_option linter.all false
set_option maxRecDepth 100000
set_option maxHeartbeats 4000000
namespace Ev
open PySem PySem.Spec PyProof.Rows L2

theorem _root_.L2.PI.weak {X : Cx} {tg e : Expr} {t t' : TI} (h : PI X tg e t) (w : ∀ σ H R, t' σ H R → t σ H R) : PI X tg e t' := ⟨fun pins s σ H Q I q => h.run pins s σ H Q I (w _ _ _ q)⟩
/-- the iterator's record J goes through the values xs, whatever comes to the state meanwhile -/
def ItR (L : Lk) (J : It) (xs : List PV) (Z : Addr → Prop) (ι : List Addr) (H : Hp) : Prop := ∀ Z' ι' H', Pw Z ι H Z' ι' H' → (∀ a ∈ ι', Z' a) → (∀ a, Z' a → ∃ vs, H' a = some (.lst vs)) →
  (∀ (i : Nat) v, xs[i]? = some v → J.go i H' ∧ ∀ x H'', J.yld i H' x H'' → (H'' = H' ∨ ∃ T vs, H' T = none ∧ H'' = upd H' T (.tup vs)) ∧ Rep L Z' ι' H'' x v) ∧ J.stop xs.length H'
abbrev relI (L : Lk) : RelT (List PV) It := fun Z ι H J xs => ItR L J xs Z ι H
def rdI (L : Lk) (Ex : Nat → Hp → Prop) (C : Calls) (ik : IK) (c : CE) : TI := fun σ H R => ∃ Z ι ρ st, SS L Z ι H st ∧ ER L Z ι H σ ρ ∧ Fin L (relI L) Ex Z ι H ((evEs C c ρ st).bind fun vs st => .ofO (items ik vs) st) R
theorem Pw.same {Z : Addr → Prop} {ι : List Addr} {H : Hp} {p : Addr} {o : HO} (h : H p = none) : Pw Z ι H Z ι (upd H p o) :=
  ⟨fun _ _ h => h, fun _ h => .inl h, fun a u _ _ e => by rw [upd_ne (ne_of_none e h)]; exact e, fun a hn => (Ps.new (Z := Z) (ι := ι) h).trk a hn⟩
section
variable {L : Lk} {n : Nat} {N : List Str} {sc : Scope} {Ex : Nat → Hp → Prop} {X : Cx} {T : List Fd} {C : Calls} {Z : Addr → Prop} {ι : List Addr} {H : Hp} {st : Store}
theorem itr_lst {a : Addr} {vs : List V} {xs : List PV} (ss : SS L Z ι H st) (hz : ¬ Z a) (ha : H a = some (.lst vs)) (r : Reps L Z ι H vs xs) : ItR L (Itl L.K a) xs Z ι H := fun Z' ι' H' p sub zin => by
  have ha' : H' a = some (.lst vs) := p.ext _ _ hz (fun _ z => by cases z) ha
  have r' := r.mono ss.zin p
  refine ⟨fun i v hv => ?_, ⟨vs, .inl (.inl ha'), by rw [r.len]; exact Nat.le_refl _⟩⟩
  obtain ⟨w, hw, rw'⟩ := r'.get hv
  refine ⟨⟨vs, w, .inl (.inl ha'), hw⟩, fun x H'' ⟨e, q⟩ => ?_⟩
  subst e
  have := q vs (.inl (.inl ha'))
  rw [hw] at this
  cases this
  exact ⟨.inl rfl, rw'⟩
theorem sqT_mono {Z' : Addr → Prop} {ι' : List Addr} {H' : Hp} {a : Addr} {vs : List V} (ss : SS L Z ι H st) (p : Pw Z ι H Z' ι' H') (h : SqT L.K H a vs) : SqT L.K H' a vs := by
  rcases h with (hs | ⟨o, hs⟩) | hs
  · refine .inl (.inl (p.ext _ _ (fun hm => ?_) (fun _ z => by cases z) hs))
    obtain ⟨_, e⟩ := ss.zin _ hm
    rw [hs] at e; cases e
  · refine .inl (.inr ⟨o, p.ext _ _ (fun hm => ?_) (fun _ z => by cases z) hs⟩)
    obtain ⟨_, e⟩ := ss.zin _ hm
    rw [hs] at e; cases e
  · exact .inr hs
theorem itr_tup {a : Addr} {vs : List V} {xs : List PV} (ss : SS L Z ι H st) (ha : SqT L.K H a vs) (r : Reps L Z ι H vs xs) : ItR L (Itt L.K a) xs Z ι H := fun Z' ι' H' p sub zin => by
  have ha' := sqT_mono ss p ha
  have r' := r.mono ss.zin p
  refine ⟨fun i v hv => ?_, ⟨vs, ha', by rw [r.len]; exact Nat.le_refl _⟩⟩
  obtain ⟨w, hw, rw'⟩ := r'.get hv
  refine ⟨⟨vs, w, ha', hw⟩, fun x H'' ⟨e, q⟩ => ?_⟩
  subst e
  have := q vs ha'
  rw [hw] at this
  cases this
  exact ⟨.inl rfl, rw'⟩
theorem itr_rng {lo : Int} {n : Nat} : ItR L (Itr lo n) (rgV' lo n) Z ι H := fun Z' ι' H' p sub zin => by
  have hl : (rgV' lo n).length = n := by simp [rgV']
  refine ⟨fun i v hv => ?_, by rw [hl]; exact Nat.le_refl _⟩
  have hi : i < n := by
    have := (List.getElem?_eq_some_iff.mp hv).1
    omega
  have hv' : v = .int (lo + (i : Nat)) := by
    have : (rgV' lo n)[i]? = some (.int (lo + (i : Nat))) := by simp [rgV', hi]
    rw [this] at hv
    exact (Option.some.inj hv).symm
  subst hv'
  refine ⟨hi, fun x H'' ⟨e, q⟩ => ?_⟩
  subst e q
  exact ⟨.inl rfl, .int _⟩
/-- a list or a tuple, as it comes -/
def iSeq (K : PySem.W.Frag) (tl : TE) : TI := fun σ H R => tl σ H fun x H1 => ∃ a, x = .ref a ∧ (((∃ xs, SqL K H1 a xs) ∧ R (Itl K a) H1) ∨ ((∃ xs, SqT K H1 a xs) ∧ R (Itt K a) H1))
theorem pi_seq {tg l : Expr} {tl : TE} (hl : PE X l tl) : PI X tg l (iSeq X.K tl) := by
  refine ⟨fun pins s σ H R I h => thn (hl.run pins s σ H _ I h) fun v s1 hv => ?_⟩
  obtain ⟨x, H1, I1, r1, a, e, q⟩ := hv
  subst e
  cases r1
  rcases q with ⟨⟨xs, hq⟩, q⟩ | ⟨⟨xs, hq⟩, q⟩
  · obtain ⟨its, rv, p, hz⟩ := I1.list hq
    exact wpAny_pyIter_list p.isList (pi_one (tk := s1.toks) I1 _ (turn_list a _) ⟨_, Heap.get?_push_size _ rfl, rfl, rfl⟩ q)
  · obtain ⟨its, rv, p, hz⟩ := I1.tuple hq
    exact wpAny_pyIter_tuple (show s1.heap.IsTuple a its.toArray from p) (pi_one (tk := s1.toks) I1 _ (turn_tuple a _) ⟨_, Heap.get?_push_size _ rfl, rfl, rfl⟩ q)
theorem i_plain {tg e : Expr} {c : CE} (hx : XO L n N sc Ex X) (h : PE X e (rdE L Ex C c)) : PI X tg e (rdI L Ex C .plain (.cons c .nil)) :=
  (pi_seq h).weak fun σ H RR ⟨Z, ι, ρ, st, ss, er, f⟩ => by
    simp only [evEs] at f
    refine ⟨Z, ι, ρ, st, ss, er, ?_⟩
    have e1 : ((evE C c ρ st).bind fun v st => (Ev.R.ok (α := List PV) [] st).bind fun vs st => Ev.R.ok (v :: vs) st).bind (fun vs st => Ev.R.ofO (items .plain vs) st) = (evE C c ρ st).bind fun v st => Ev.R.ofO (seqOf v) st := by
      cases evE C c ρ st <;> rfl
    rw [e1] at f
    refine f.into fun v st1 V Z1 ι1 H1 p1 ss1 r1 f1 => ?_
    obtain ⟨xs, hv, f2⟩ := f1.ofO1
    unfold seqOf at hv
    split at hv
    · cases hv
      cases r1 with
      | tup hs hr => exact ⟨_, rfl, .inr ⟨⟨_, hx.K ▸ hs⟩, hx.K ▸ f2.ok ss1 (itr_tup ss1 hs hr)⟩⟩
    · cases hv
      cases r1 with
      | lst hz hs hr => exact ⟨_, rfl, .inl ⟨⟨_, .inl (.inl hs)⟩, hx.K ▸ f2.ok ss1 (itr_lst ss1 hz hs hr)⟩⟩
    · cases hv
      cases r1 with
      | ktp hs hc hd hr =>
        have hq : SqT L.K H1 _ _ := .inl (.inr ⟨_, hs⟩)
        exact ⟨_, rfl, .inr ⟨⟨_, hx.K ▸ hq⟩, hx.K ▸ f2.ok ss1 (itr_tup ss1 hq hr)⟩⟩
    · cases hv
theorem rg_of {a b : Int} (h : rgOk a b = true) : -(2 ^ 60) ≤ a ∧ a < 2 ^ 60 ∧ -(2 ^ 60) ≤ b ∧ b < 2 ^ 60 ∧ (b - a).toNat ≤ lim := by
  unfold rgOk at h
  simp only [Bool.and_eq_true, Nat.ble_eq] at h
  omega
theorem reps2 {xs : List V} {v w : PV} (r : Reps L Z ι H xs [v, w]) : ∃ x y, xs = [x, y] ∧ Rep L Z ι H x v ∧ Rep L Z ι H y w := by
  cases r with
  | cons a b =>
    obtain ⟨y, rfl, q⟩ := reps1 b
    exact ⟨_, y, rfl, a, q⟩
def zipS : Str := Str.ofString "zip"
def enuS : Str := Str.ofString "enumerate"
theorem star1 {e : Expr} {env : PySem.Env} (h : notStar e = true) : starEach [e] env = [(false, eval e env)] := star_ok h
theorem i_range1 {tg e : Expr} {c : CE} {p pos : Pos} {G : GN} (hx : XO L n N sc Ex X) (hG : GOk L G) (hm : rngS ∈ G.bn) (hg : glbB sc rngS = true) (hs : notStar e = true) (h : PA X [e] (rdL L Ex C c)) :
    PI X tg (.Call (.Name rngS p) [e] [] pos) (rdI L Ex C .range1 c) :=
  (pi_range1 (hx.gl hg) (by rw [hx.mg]; exact hG.bn _ hm) h (star1 hs)).weak fun σ H RR ⟨Z, ι, ρ, st, ss, er, f⟩ => ⟨Z, ι, ρ, st, ss, er, f.into fun vs st1 VS Z1 ι1 H1 p1 ss1 r1 f1 => by
    obtain ⟨xs, hv, f2⟩ := f1.ofO1
    replace hv : iRange1 vs = some xs := hv
    unfold iRange1 at hv
    split at hv
    · rename_i m
      split at hv
      · rename_i hr
        cases hv
        obtain ⟨h1, h2, h3, h4, h5⟩ := rg_of hr
        obtain ⟨x, rfl, rx⟩ := reps1 r1
        exact ⟨m, by rw [int_of rx], by omega, by omega, f2.ok ss1 itr_rng⟩
      · cases hv
    · cases hv⟩
theorem i_range2 {tg e e2 : Expr} {c : CE} {p pos : Pos} {G : GN} (hx : XO L n N sc Ex X) (hG : GOk L G) (hm : rngS ∈ G.bn) (hg : glbB sc rngS = true) (hs : notStar e = true) (hs2 : notStar e2 = true) (h : PA X [e, e2] (rdL L Ex C c)) :
    PI X tg (.Call (.Name rngS p) [e, e2] [] pos) (rdI L Ex C .range2 c) :=
  (pi_range2 (hx.gl hg) (by rw [hx.mg]; exact hG.bn _ hm) h (by rw [star_ok hs, star1 hs2]) (star1 hs2)).weak fun σ H RR ⟨Z, ι, ρ, st, ss, er, f⟩ => ⟨Z, ι, ρ, st, ss, er, f.into fun vs st1 VS Z1 ι1 H1 p1 ss1 r1 f1 => by
    obtain ⟨xs, hv, f2⟩ := f1.ofO1
    replace hv : iRange2 vs = some xs := hv
    unfold iRange2 at hv
    split at hv
    · rename_i a b
      split at hv
      · rename_i hr
        cases hv
        obtain ⟨h1, h2, h3, h4, h5⟩ := rg_of hr
        obtain ⟨x, y, rfl, rx, ry⟩ := reps2 r1
        exact ⟨a, b, by rw [int_of rx, int_of ry], ⟨by omega, by omega, by omega, by omega⟩, f2.ok ss1 itr_rng⟩
      · cases hv
    · cases hv⟩
theorem zip_get {xs ys : List PV} {i : Nat} {v : PV} (h : (List.zipWith pair2 xs ys)[i]? = some v) : ∃ x y, xs[i]? = some x ∧ ys[i]? = some y ∧ v = .tup [x, y] := by
  rw [List.getElem?_zipWith] at h
  split at h
  · rename_i x y h1 h2
    exact ⟨x, y, h1, h2, (Option.some.inj h).symm⟩
  · cases h
/-- the new pair -/
theorem pair_rep {Z' : Addr → Prop} {ι' : List Addr} {H' : Hp} {T : Addr} {a b : V} {x y : PV} (sub : ∀ a ∈ ι', Z' a) (zin : ∀ a, Z' a → ∃ vs, H' a = some (.lst vs)) (hT : H' T = none) (ra : Rep L Z' ι' H' a x) (rb : Rep L Z' ι' H' b y) :
    Rep L Z' ι' (upd H' T (.tup [a, b])) (.ref T) (.tup [x, y]) :=
  .tup (.inl (.inl upd_same)) (.cons (ra.mono zin (Pw.same hT)) (.cons (rb.mono zin (Pw.same hT)) .nil))
theorem itr_zipL {a b : Addr} {vs ws : List V} {xs ys : List PV} (ss : SS L Z ι H st) (hz : ¬ Z a) (ha : H a = some (.lst vs)) (r : Reps L Z ι H vs xs) (hz2 : ¬ Z b) (hb : H b = some (.lst ws)) (r2 : Reps L Z ι H ws ys) :
    ItR L (Itz L.K a b) (List.zipWith pair2 xs ys) Z ι H := fun Z' ι' H' p sub zin => by
  have ha' : H' a = some (.lst vs) := p.ext _ _ hz (fun _ z => by cases z) ha
  have hb' : H' b = some (.lst ws) := p.ext _ _ hz2 (fun _ z => by cases z) hb
  have r' := r.mono ss.zin p
  have r2' := r2.mono ss.zin p
  have la : SqL L.K H' a vs := .inl (.inl ha')
  have lb : SqL L.K H' b ws := .inl (.inl hb')
  have W := walk_zip (K := L.K) (a := a) (b := b) (xs := vs) (ys := ws) rfl
  have hl : (List.zipWith pair2 xs ys).length = min vs.length ws.length := by rw [List.length_zipWith, r.len, r2.len]
  refine ⟨fun i v hv => ?_, by rw [hl]; exact W.stops H' ⟨la, lb⟩⟩
  have hi : i < min vs.length ws.length := by
    have := (List.getElem?_eq_some_iff.mp hv).1
    omega
  obtain ⟨x, y, hx, hy, rfl⟩ := zip_get hv
  obtain ⟨x', hx', rx⟩ := r'.get hx
  obtain ⟨y', hy', ry⟩ := r2'.get hy
  refine ⟨W.goes i H' hi ⟨la, lb⟩, fun z H'' q => ?_⟩
  obtain ⟨T, u, w, e1, hT, e2, e3, e4⟩ := W.yields i H' z H'' hi ⟨la, lb⟩ q
  subst e1 e2
  have e3 : vs[i]? = some u := e3
  have e4 : ws[i]? = some w := e4
  rw [hx'] at e3; rw [hy'] at e4
  cases e3; cases e4
  exact ⟨.inr ⟨T, _, hT, rfl⟩, pair_rep sub zin hT rx ry⟩
theorem itr_zipT {a b : Addr} {vs ws : List V} {xs ys : List PV} (ss : SS L Z ι H st) (ha : SqT L.K H a vs) (r : Reps L Z ι H vs xs) (hb : SqT L.K H b ws) (r2 : Reps L Z ι H ws ys) :
    ItR L (RZ.ItzT L.K a b) (List.zipWith pair2 xs ys) Z ι H := fun Z' ι' H' p sub zin => by
  have la := sqT_mono ss p ha
  have lb := sqT_mono ss p hb
  have r' := r.mono ss.zin p
  have r2' := r2.mono ss.zin p
  have hl : (List.zipWith pair2 xs ys).length = min vs.length ws.length := by rw [List.length_zipWith, r.len, r2.len]
  refine ⟨fun i v hv => ?_, by rw [hl]; exact ⟨vs, ws, la, lb, by omega⟩⟩
  obtain ⟨x, y, hx, hy, rfl⟩ := zip_get hv
  obtain ⟨x', hx', rx⟩ := r'.get hx
  obtain ⟨y', hy', ry⟩ := r2'.get hy
  refine ⟨⟨vs, ws, x', y', la, lb, hx', hy'⟩, fun z H'' ⟨T, u, w, e1, hT, e2, e3, e4⟩ => ?_⟩
  subst e1 e2
  have e3 := e3 vs la
  have e4 := e4 ws lb
  rw [hx'] at e3; rw [hy'] at e4
  cases e3; cases e4
  exact ⟨.inr ⟨T, _, hT, rfl⟩, pair_rep sub zin hT rx ry⟩
theorem enum_get : ∀ {xs : List PV} {k i : Nat} {v : PV}, (enumL k xs)[i]? = some v → ∃ x, xs[i]? = some x ∧ v = .tup [.int ((k + i : Nat) : Int), x]
  | [], _, _, _, h => by simp [enumL] at h
  | x :: xs, k, 0, v, h => ⟨x, rfl, by simpa [enumL, eq_comm] using h⟩
  | x :: xs, k, i + 1, v, h => by
    obtain ⟨y, h1, h2⟩ := enum_get (xs := xs) (k := k + 1) (i := i) (v := v) (by simpa [enumL] using h)
    exact ⟨y, by simpa using h1, by rw [h2, show k + 1 + i = k + (i + 1) by omega]⟩
theorem enum_len : ∀ (xs : List PV) (k : Nat), (enumL k xs).length = xs.length
  | [], _ => rfl
  | x :: xs, k => by simp [enumL, enum_len xs]
theorem itr_enum {a : Addr} {vs : List V} {xs : List PV} (ss : SS L Z ι H st) (hz : ¬ Z a) (ha : H a = some (.lst vs)) (r : Reps L Z ι H vs xs) : ItR L (Ite L.K a) (enumL 0 xs) Z ι H := fun Z' ι' H' p sub zin => by
  have ha' : H' a = some (.lst vs) := p.ext _ _ hz (fun _ z => by cases z) ha
  have r' := r.mono ss.zin p
  have la : SqL L.K H' a vs := .inl (.inl ha')
  refine ⟨fun i v hv => ?_, ⟨vs, la, by rw [enum_len, r.len]; exact Nat.le_refl _⟩⟩
  obtain ⟨x, hx, rfl⟩ := enum_get hv
  obtain ⟨x', hx', rx⟩ := r'.get hx
  refine ⟨⟨vs, x', la, hx'⟩, fun z H'' ⟨T, u, e1, hT, e2, e3⟩ => ?_⟩
  subst e1 e2
  have e3 := e3 vs la
  rw [hx'] at e3
  cases e3
  refine ⟨.inr ⟨T, _, hT, rfl⟩, ?_⟩
  rw [Nat.zero_add]
  exact pair_rep sub zin hT (.int _) rx
theorem i_zip2 {elts : List Expr} {kk : Nat} {tpos : Pos} {e e2 : Expr} {c : CE} {p pos : Pos} {G : GN} (hx : XO L n N sc Ex X) (hG : GOk L G) (hm : zipS ∈ G.bn) (hg : glbB sc zipS = true) (hs : notStar e = true) (hs2 : notStar e2 = true) (h : PA X [e, e2] (rdL L Ex C c)) :
    PI X (.Tuple elts kk tpos) (.Call (.Name zipS p) [e, e2] [] pos) (rdI L Ex C .zip2 c) :=
  (RZ.pi_zipA (hx.gl hg) (by rw [hx.mg]; exact hG.bn _ hm) h (star_ok hs) (by rw [star1 hs2]; rfl)).weak fun σ H RR ⟨Z, ι, ρ, st, ss, er, f⟩ => ⟨Z, ι, ρ, st, ss, er, f.into fun vs st1 VS Z1 ι1 H1 p1 ss1 r1 f1 => by
    obtain ⟨xs, hv, f2⟩ := f1.ofO1
    replace hv : iZip2 vs = some xs := hv
    unfold iZip2 at hv
    split at hv
    · rename_i xs' ys'
      cases hv
      obtain ⟨x, y, rfl, rx, ry⟩ := reps2 r1
      cases rx with
      | lst z1 s1 q1 =>
        cases ry with
        | lst z2 s2 q2 => exact ⟨_, _, _, _, rfl, .inl ⟨.inl (.inl s1), .inl (.inl s2), hx.K ▸ f2.ok ss1 (itr_zipL ss1 z1 s1 q1 z2 s2 q2)⟩⟩
    · rename_i xs' ys'
      cases hv
      obtain ⟨x, y, rfl, rx, ry⟩ := reps2 r1
      cases rx with
      | tup s1 q1 =>
        cases ry with
        | tup s2 q2 => exact ⟨_, _, _, _, rfl, .inr ⟨hx.K ▸ s1, hx.K ▸ s2, hx.K ▸ f2.ok ss1 (itr_zipT ss1 s1 q1 s2 q2)⟩⟩
    · cases hv⟩
theorem i_enum {elts : List Expr} {kk : Nat} {tpos : Pos} {e : Expr} {c : CE} {p pos : Pos} {G : GN} (hx : XO L n N sc Ex X) (hG : GOk L G) (hm : enuS ∈ G.bn) (hg : glbB sc enuS = true) (hs : notStar e = true) (h : PA X [e] (rdL L Ex C c)) :
    PI X (.Tuple elts kk tpos) (.Call (.Name enuS p) [e] [] pos) (rdI L Ex C .enum c) :=
  (pi_enum (hx.gl hg) (by rw [hx.mg]; exact hG.bn _ hm) h (star1 hs)).weak fun σ H RR ⟨Z, ι, ρ, st, ss, er, f⟩ => ⟨Z, ι, ρ, st, ss, er, f.into fun vs st1 VS Z1 ι1 H1 p1 ss1 r1 f1 => by
    obtain ⟨xs, hv, f2⟩ := f1.ofO1
    replace hv : iEnumL vs = some xs := hv
    unfold iEnumL at hv
    split at hv
    · rename_i xs'
      cases hv
      obtain ⟨x, rfl, rx⟩ := reps1 r1
      cases rx with
      | lst z1 s1 q1 => exact ⟨_, _, rfl, .inl (.inl s1), hx.K ▸ f2.ok ss1 (itr_enum ss1 z1 s1 q1)⟩
    · cases hv⟩
end
/-! ### targets -/
mutual
def tgR (K : PySem.W.Frag) : Tg → TG
  | .nm i => gName i
  | .tp ts => gTup K (tgN ts) (tgsR K ts)
  | _ => fun _ _ _ _ => False
def tgsR (K : PySem.W.Frag) : Tg → TGs
  | .nil => gNil
  | .cons t ts => gCons (tgR K t) (tgsR K ts)
  | _ => fun _ _ _ _ => False
def tgN : Tg → Nat
  | .cons _ ts => tgN ts + 1
  | _ => 0
end
def locB (sc : Scope) (x : Str) : Bool := decide (sc.names.lookup x = some .local) || decide (sc.names.lookup x = some .cell)
mutual
def chkT (N : List Str) (sc : Scope) (own : Option (List Nat)) : Tg → Expr → Bool
  | .nm i, e => match e with
    | .Name x _ => decide (N[i]? = some x) && locB sc x && (match own with | none => true | some l => decide (i ∈ l))
    | _ => false
  | .tp ts, e => match e with
    | .Tuple es _ _ => chkTs N sc own ts es
    | _ => false
  | .nil, _ => false
  | .cons _ _, _ => false
def chkTs (N : List Str) (sc : Scope) (own : Option (List Nat)) : Tg → List Expr → Bool
  | .nil, es => es.isEmpty
  | .cons t ts, es => match es with
    | [] => false
    | e :: es => chkT N sc own t e && chkTs N sc own ts es
  | .nm _, _ => false
  | .tp _, _ => false
end
section
variable {L : Lk} {n : Nat} {N : List Str} {sc : Scope} {Ex : Nat → Hp → Prop} {X : Cx} {own : Option (List Nat)}
theorem locB_of {x : Str} (h : locB sc x = true) : Loc sc x := by
  unfold locB at h
  simp only [Bool.or_eq_true, decide_eq_true_eq] at h
  exact h
/-- the frame's cells may be written: a def's all, a block's own ones -/
def FnOkC (X : Cx) (own : Option (List Nat)) : Prop := match own with
  | none => ∀ x, X.fn x = true
  | some l => ∀ (i : Nat) x, i ∈ l → X.N[i]? = some x → Loc X.env.scope x → X.fn x = true ∨ X.env.scope.names.lookup x = some .local
theorem tg_len (env : PySem.Env) : ∀ (ts : Tg) (es : List Expr), chkTs N sc own ts es = true → (assignEach es env).length = tgN ts ∧ (assignEach es env).findIdx? (·.1) = none
  | .nil, es, h => by
    have : es = [] := by simpa [chkTs] using h
    subst this
    exact ⟨rfl, rfl⟩
  | .cons t ts, [], h => by simp [chkTs] at h
  | .cons t ts, e :: es, h => by
    simp only [chkTs, Bool.and_eq_true] at h
    obtain ⟨h1, h2⟩ := tg_len env ts es h.2
    have hc : assignEach (e :: es) env = (false, assign e env) :: assignEach es env := by
      cases t with
      | nm i => cases e <;> first | rfl | (simp [chkT] at h)
      | tp us => cases e <;> first | rfl | (simp [chkT] at h)
      | _ => simp [chkT] at h
    rw [hc]
    refine ⟨by simp [tgN, h1], ?_⟩
    rw [List.findIdx?_cons]
    simp [h2]
  | .nm _, es, h => by simp [chkTs] at h
  | .tp _, es, h => by simp [chkTs] at h
theorem wipe_set {σ : LSt} {i : Nat} {x : Option V} : ∀ {l : List Nat}, i ∈ l → wipe (σ.set i x) l = wipe σ l
  | [], h => by cases h
  | j :: l, h => by
    show (wipe (σ.set i x) l).set j none = (wipe σ l).set j none
    by_cases hm : i ∈ l
    · rw [wipe_set hm]
    · have e : i = j := by
        rcases List.mem_cons.mp h with e | e
        · exact e
        · exact absurd e hm
      subst e
      exact wipe_set_out hm
where
  wipe_set_out {σ : LSt} {i : Nat} {x y : Option V} : ∀ {l : List Nat}, i ∉ l → (wipe (σ.set i x) l).set i y = (wipe σ l).set i y
    | [], _ => by show (σ.set i x).set i y = σ.set i y; rw [List.set_set]
    | j :: l, h => by
      have hj : i ≠ j := fun e => h (by rw [e]; exact List.mem_cons_self)
      have hl : i ∉ l := fun e => h (List.mem_cons_of_mem _ e)
      show ((wipe (σ.set i x) l).set j none).set i y = ((wipe σ l).set j none).set i y
      rw [List.set_comm _ _ (Ne.symm hj), List.set_comm _ _ (Ne.symm hj), wipe_set_out hl]
theorem tgs_len : ∀ (ts : Tg) (xs : List PV) (ρ ρ' : Env), bindTs ts xs ρ = some ρ' → xs.length = tgN ts
  | .nil, xs, ρ, ρ', h => by
    cases xs with
    | nil => rfl
    | cons _ _ => simp [bindTs] at h
  | .cons t ts, xs, ρ, ρ', h => by
    cases xs with
    | nil => simp [bindTs] at h
    | cons x xs =>
      simp only [bindTs] at h
      cases hb : bindT t x ρ with
      | none => rw [hb] at h; cases h
      | some ρ1 =>
        rw [hb] at h
        simp [tgN, tgs_len ts xs ρ1 ρ' h]
  | .nm _, xs, ρ, ρ', h => by simp [bindTs] at h
  | .tp _, xs, ρ, ρ', h => by simp [bindTs] at h
mutual
theorem t_tg (hx : XO L n N sc Ex X) (hf : FnOkC X own) : ∀ (t : Tg) (e : Expr), chkT N sc own t e = true → PG X e (tgR X.K t)
  | .nm i, e, h => by
    cases e with
    | Name x p =>
      simp only [chkT, Bool.and_eq_true, decide_eq_true_eq] at h
      obtain ⟨⟨h1, h2⟩, h3⟩ := h
      have hl : Loc X.env.scope x := by rw [hx.sc]; exact locB_of h2
      have hN : X.N[i]? = some x := by rw [hx.nm]; exact h1
      refine pg_name (i := i) (by rw [hx.nm]; exact hx.nd) hN hl ?_
      cases own with
      | none => exact .inl (hf x)
      | some l => exact hf i x (of_decide_eq_true h3) hN hl
    | _ => simp [chkT] at h
  | .tp ts, e, h => by
    cases e with
    | Tuple es k p =>
      simp only [chkT] at h
      obtain ⟨h1, h2⟩ := tg_len X.env ts es h
      exact pg_tup hx.calm (t_tgs hx hf ts es h) h1 h2
    | _ => simp [chkT] at h
  | .nil, e, h => by simp [chkT] at h
  | .cons _ _, e, h => by simp [chkT] at h
theorem t_tgs (hx : XO L n N sc Ex X) (hf : FnOkC X own) : ∀ (t : Tg) (es : List Expr), chkTs N sc own t es = true → PGs X es (tgsR X.K t)
  | .nil, es, h => by
    have : es = [] := by simpa [chkTs] using h
    subst this
    exact pgs_nil
  | .cons t ts, [], h => by simp [chkTs] at h
  | .cons t ts, e :: es, h => by
    simp only [chkTs, Bool.and_eq_true] at h
    refine pgs_cons (t_tg hx hf t e h.1) (t_tgs hx hf ts es h.2) ?_
    cases t with
    | nm i => cases e <;> first | rfl | (simp [chkT] at h)
    | tp us => cases e <;> first | rfl | (simp [chkT] at h)
    | _ => simp [chkT] at h
  | .nm _, es, h => by simp [chkTs] at h
  | .tp _, es, h => by simp [chkTs] at h
end
mutual
theorem tg_rd {Z : Addr → Prop} {ι : List Addr} {H : Hp} (hK : X.K = L.K) : ∀ (t : Tg) (e : Expr) (v : PV) (V : V) (σ : LSt) (ρ ρ' : Env) (Q : LSt → Hp → Prop), chkT N sc own t e = true → Rep L Z ι H V v → bindT t v ρ = some ρ' → ER L Z ι H σ ρ →
    (∀ σ', ER L Z ι H σ' ρ' → (∀ l, own = some l → wipe σ' l = wipe σ l) → Q σ' H) → tgR X.K t V σ H Q
  | .nm i, e, v, V, σ, ρ, ρ', Q, hc, r, hb, er, q => by
    simp only [bindT] at hb
    cases hb
    refine q _ (er.set i r) fun l hl => ?_
    cases e with
    | Name x p =>
      simp only [chkT, Bool.and_eq_true, decide_eq_true_eq] at hc
      subst hl
      exact wipe_set (of_decide_eq_true hc.2)
    | _ => simp [chkT] at hc
  | .tp ts, e, v, V, σ, ρ, ρ', Q, hc, r, hb, er, q => by
    cases e with
    | Tuple es k p =>
      simp only [chkT] at hc
      cases v with
      | tup xs =>
        cases r with
        | tup hs hr =>
          simp only [bindT] at hb
          obtain ⟨h1, _⟩ := tg_len default ts es hc
          exact ⟨_, _, rfl, hK ▸ hs, by rw [hr.len, tgs_len ts xs ρ ρ' hb], tgs_rd hK ts es xs _ σ ρ ρ' Q hc hr hb er q⟩
      | _ => simp [bindT] at hb
    | _ => simp [chkT] at hc
  | .nil, e, v, V, σ, ρ, ρ', Q, hc, r, hb, er, q => by simp [chkT] at hc
  | .cons _ _, e, v, V, σ, ρ, ρ', Q, hc, r, hb, er, q => by simp [chkT] at hc
theorem tgs_rd {Z : Addr → Prop} {ι : List Addr} {H : Hp} (hK : X.K = L.K) : ∀ (t : Tg) (es : List Expr) (xs : List PV) (vs : List V) (σ : LSt) (ρ ρ' : Env) (Q : LSt → Hp → Prop), chkTs N sc own t es = true → Reps L Z ι H vs xs → bindTs t xs ρ = some ρ' → ER L Z ι H σ ρ →
    (∀ σ', ER L Z ι H σ' ρ' → (∀ l, own = some l → wipe σ' l = wipe σ l) → Q σ' H) → tgsR X.K t vs σ H Q
  | .nil, es, xs, vs, σ, ρ, ρ', Q, hc, r, hb, er, q => by
    cases xs with
    | nil =>
      simp only [bindTs] at hb
      cases hb
      cases r
      exact ⟨rfl, q σ er fun _ _ => rfl⟩
    | cons _ _ => simp [bindTs] at hb
  | .cons t ts, [], xs, vs, σ, ρ, ρ', Q, hc, r, hb, er, q => by simp [chkTs] at hc
  | .cons t ts, e :: es, xs, vs, σ, ρ, ρ', Q, hc, r, hb, er, q => by
    simp only [chkTs, Bool.and_eq_true] at hc
    cases xs with
    | nil => simp [bindTs] at hb
    | cons x xs =>
      cases r with
      | cons r1 r2 =>
        simp only [bindTs] at hb
        cases hb1 : bindT t x ρ with
        | none => rw [hb1] at hb; cases hb
        | some ρ1 =>
          rw [hb1] at hb
          refine ⟨_, _, rfl, tg_rd hK t e x _ σ ρ ρ1 _ hc.1 r1 hb1 er fun σ1 er1 hw => tgs_rd hK ts es xs _ σ1 ρ1 ρ' Q hc.2 r2 hb er1 fun σ2 er2 hw2 => q σ2 er2 fun l hl => (hw2 l hl).trans (hw l hl)⟩
  | .nm _, es, xs, vs, σ, ρ, ρ', Q, hc, r, hb, er, q => by simp [chkTs] at hc
  | .tp _, es, xs, vs, σ, ρ, ρ', Q, hc, r, hb, er, q => by simp [chkTs] at hc
end
end
end Ev
end
section
set_option Elab.async false
set_option linter.all false
set_option maxRecDepth 100000
set_option maxHeartbeats 4000000
namespace Ev
open PySem PySem.Spec PyProof.Rows L2
theorem bind_assoc' {α β γ : Type} {r : R α} {f : α → Store → R β} {g : β → Store → R γ} : (r.bind fun a st => (f a st).bind g) = (r.bind f).bind g := by
  cases r <;> rfl
section
variable {L : Lk} {Z Z' : Addr → Prop} {ι ι' : List Addr} {H H' : Hp} {st : Store}
mutual
theorem Rep.zweak (hz : ∀ a, Z' a → Z a) : ∀ (v : PV) (V : V), Rep L Z ι H V v → Rep L Z' ι H V v
  | .non, _, h => by cases h; exact .non
  | .bl _, _, h => by cases h; exact .bl _
  | .int _, _, h => by cases h; exact .int _
  | .str _, _, h => by cases h; exact .str _
  | .fn _, _, h => by cases h with | fn _ q => exact .fn _ q
  | .ref _, _, h => by cases h with | ref e => exact .ref e
  | .tup xs, _, h => by cases h with | tup hs hr => exact .tup hs (Reps.zweak hz xs _ hr)
  | .lst xs, _, h => by cases h with | lst n hs hr => exact .lst (fun z => n (hz _ z)) hs (Reps.zweak hz xs _ hr)
  | .frz xs, _, h => by
    cases h with
    | frz hs hr => exact .frz hs (Reps.zweak hz xs _ hr)
    | frzK hs hr => exact .frzK hs (Reps.zweak hz xs _ hr)
  | .ktp xs, _, h => by cases h with | ktp hs hc hd hr => exact .ktp hs hc hd (Reps.zweak hz xs _ hr)
theorem Reps.zweak (hz : ∀ a, Z' a → Z a) : ∀ (xs : List PV) (vs : List V), Reps L Z ι H vs xs → Reps L Z' ι H vs xs
  | [], _, h => by cases h; exact .nil
  | x :: xs, _, h => by cases h with | cons a b => exact .cons (Rep.zweak hz x _ a) (Reps.zweak hz xs _ b)
end
theorem SS.zweak (ss : SS L Z ι H st) (hz : ∀ a, Z' a → Z a) (sub : ∀ a ∈ ι, Z' a) : SS L Z' ι H st := by
  refine ⟨ss.len, ss.nd, sub, fun a h => ss.zin a (hz a h), fun n c hc => ?_, ss.tabs⟩
  obtain ⟨a, e, q⟩ := ss.cell n c hc
  refine ⟨a, e, ?_⟩
  cases c with
  | l xs =>
    obtain ⟨vs, h1, h2⟩ := q
    exact ⟨vs, h1, h2.zweak hz _ _⟩
/-- a tracked list that nothing leans on is changed -/
theorem Pw.at {D : Addr} {o : HO} (hz : Z D) (hn : H D ≠ none) : Pw Z ι H Z ι (upd H D o) := by
  refine ⟨fun _ _ h => h, fun _ h => .inl h, fun a u h _ e => ?_, fun a h => ?_⟩
  · have : a ≠ D := fun z => h (z ▸ hz)
    rw [upd_ne this]
    exact e
  · by_cases e : a = D
    · subst e; rw [upd_same]; simp
    · rw [upd_ne e]; exact h
theorem SS.at (ss : SS L Z ι H st) {D : Addr} {vs : List V} (hz : Z D) (hd : D ∉ ι) : SS L Z ι (upd H D (.lst vs)) st := by
  obtain ⟨us, hD⟩ := ss.zin D hz
  have hn : H D ≠ none := by rw [hD]; simp
  have p : Pw Z ι H Z ι (upd H D (.lst vs)) := Pw.at hz hn
  refine ⟨ss.len, ss.nd, ss.sub, fun a h => ?_, fun n c hc => ?_, tabs_keep ss.tabs fun b o ho h => ?_⟩
  · by_cases e : a = D
    · subst e; exact ⟨vs, upd_same⟩
    · rw [upd_ne e]; exact ss.zin a h
  · obtain ⟨a, e, q⟩ := ss.cell n c hc
    refine ⟨a, e, q.mono ss.zin p fun ws h => ?_⟩
    have na : a ≠ D := fun z => hd (by rw [← z]; exact List.mem_of_getElem? e)
    rw [upd_ne na]
    exact h
  · rw [upd_ne]
    · exact h
    · intro z
      subst z
      rw [hD] at h
      exact ho us (Option.some.inj h).symm
end
abbrev Bl : Nat → Hp → Prop := fun _ _ => False
theorem wipeE_some {ρ : Env} {i : Nat} {x : PV} : ∀ {vs : List Nat}, (wipeE ρ vs)[i]? = some (some x) → ρ[i]? = some (some x) ∧ i ∉ vs
  | [], h => ⟨h, by simp⟩
  | v :: vs, h => by
    unfold wipeE at h
    by_cases hi : v = i
    · subst hi
      by_cases hv : v < (wipeE ρ vs).length
      · rw [List.getElem?_set_self hv] at h; cases h
      · rw [List.getElem?_eq_none (by simpa using hv)] at h; cases h
    · rw [List.getElem?_set_ne hi] at h
      obtain ⟨h1, h2⟩ := wipeE_some h
      exact ⟨h1, by simp only [List.mem_cons, not_or]; exact ⟨fun e => hi e.symm, h2⟩⟩
theorem wipeE_len (ρ : Env) : ∀ vs : List Nat, (wipeE ρ vs).length = ρ.length
  | [] => rfl
  | v :: vs => by unfold wipeE; rw [List.length_set, wipeE_len ρ vs]
theorem wipe_keep {σ : LSt} {i : Nat} : ∀ {vs : List Nat}, i ∉ vs → (wipe σ vs)[i]? = σ[i]?
  | [], _ => rfl
  | v :: vs, h => by
    show ((wipe σ vs).set v none)[i]? = _
    rw [List.getElem?_set_ne (fun e => h (by rw [e]; exact List.mem_cons_self))]
    exact wipe_keep fun z => h (List.mem_cons_of_mem _ z)
theorem ER.wipe {L : Lk} {Z : Addr → Prop} {ι : List Addr} {H : Hp} {σ : LSt} {ρ : Env} (er : ER L Z ι H σ ρ) (own : List Nat) : ER L Z ι H (L2.wipe σ own) (wipeE ρ own) := by
  refine ⟨by rw [wipe_length, wipeE_len, er.len], fun i v h => ?_⟩
  obtain ⟨h1, h2⟩ := wipeE_some h
  obtain ⟨V, e, r⟩ := er.at_ i v h1
  exact ⟨V, by rw [wipe_keep h2]; exact e, r⟩
theorem ER.monoW {L : Lk} {Z Z' : Addr → Prop} {ι ι' : List Addr} {H H' : Hp} {σ : LSt} {ρ : Env} (e : ER L Z ι H σ ρ) (zin : ∀ a, Z a → ∃ vs, H a = some (.lst vs)) (p : Pw Z ι H Z' ι' H') : ER L Z' ι' H' σ ρ := ⟨e.len, fun i v h => by
  obtain ⟨V, h1, h2⟩ := e.at_ i v h
  exact ⟨V, h1, h2.mono zin p⟩⟩
/-- a comprehension's turn -/
def lcF (C : Calls) (tg : Tg) (own : List Nat) (cd elt : CE) (ρ : Env) : PV → Store → R (Option PV) := fun x st => match bindT tg x (wipeE ρ own) with
  | some ρ1 => (evE C cd ρ1 st).bind fun c st => (R.ofO (truth (deref st c)) st).bind fun k st => if k = true then (evE C elt ρ1 st).bind fun v st => .ok (some v) st else .ok none st
  | none => .stuck
theorem lcF_eq {C : Calls} {tg : Tg} {own : List Nat} {cd elt : CE} {ρ ρ1 : Env} {x : PV} {st : Store} (h : bindT tg x (wipeE ρ own) = some ρ1) :
    lcF C tg own cd elt ρ x st = (evT C cd ρ1 st).bind fun k st => if k = true then (evE C elt ρ1 st).bind fun v st => .ok (some v) st else .ok none st := by
  unfold lcF evT
  rw [h]
  simp only
  cases evE C cd ρ1 st <;> rfl
section
variable {L : Lk} {n : Nat} {N : List Str} {sc : Scope} {Ex : Nat → Hp → Prop} {X : Cx} {T : List Fd} {C : Calls}
theorem lcLoop_noexc {f : PV → Store → R (Option PV)} : ∀ {ys acc : List PV} {s : Store} {c : Nat} {s' : Store}, lcLoop f ys acc s = .exc c s' → False
  | [], acc, s, c, s', h => by
    simp only [lcLoop] at h
    split at h <;> cases h
  | z :: zs, acc, s, c, s', h => by
    simp only [lcLoop] at h
    split at h
    · exact lcLoop_noexc h
    · exact lcLoop_noexc h
    · cases h
theorem wipe_none {σ : LSt} {i : Nat} : ∀ {vs : List Nat}, i ∈ vs → i < σ.length → (wipe σ vs)[i]? = some none
  | [], h, _ => by cases h
  | v :: vs, h, hl => by
    show ((wipe σ vs).set v none)[i]? = _
    by_cases e : v = i
    · subst e
      exact List.getElem?_set_self (by rw [wipe_length]; exact hl)
    · rw [List.getElem?_set_ne e]
      exact wipe_none ((List.mem_cons.mp h).resolve_left (Ne.symm e)) hl
theorem wipe_wipe {σ : LSt} {vs : List Nat} : wipe (wipe σ vs) vs = wipe σ vs := by
  apply List.ext_getElem?
  intro i
  by_cases h : i ∈ vs
  · by_cases hl : i < σ.length
    · rw [wipe_none h (by rw [wipe_length]; exact hl), wipe_none h hl]
    · rw [List.getElem?_eq_none (by rw [wipe_length, wipe_length]; omega), List.getElem?_eq_none (by rw [wipe_length]; omega)]
  · rw [wipe_keep h]
/-- the heart: the loop's word -/
theorem lc_word {tg : Expr} {tc : Tg} {own : List Nat} {cd ce : CE} {scope2 : Scope} (hK : X.K = L.K) (hct : chkT N scope2 (some own) tc tg = true)
    {Z : Addr → Prop} {ι : List Addr} {H : Hp} {st : Store} {σ : LSt} {ρ : Env} (ss : SS L Z ι H st) (er : ER L Z ι H σ ρ) {xs : List PV} {J : It} (rI : ItR L J xs Z ι H)
    {Q : VK} {fin : List PV → Store → R PV} (f : Fin L (relV L) Ex Z ι H ((lcLoop (lcF C tc own cd ce ρ) xs [] st).bind fin) Q)
    (hfin : ∀ acc stc Zc ιc Hc vacc D more, H D = none → ιc = ι ++ more → (∀ a ∈ more, H a = none ∧ a ≠ D) → (∀ a, Zc a ↔ (Z a ∨ a ∈ more) ∨ a = D) → (∀ a o, a ∉ ι → (∀ ps, o ≠ HO.tbl ps) → H a = some o → Hc a = some o) → (∀ a, H a ≠ none → Hc a ≠ none) →
      SS L Zc ιc Hc stc → Hc D = some (.lst vacc) → Reps L Zc ιc Hc vacc acc → Fin L (relV L) Ex Z ι H (fin acc stc) Q → Q (.ref D) Hc) (D : Addr) (hD : H D = none) :
    ∃ W : Nat → Nat → Hp → Prop, (∃ m, W 0 m (upd H D (.lst []))) ∧ ∀ i m H, W i m H →
      (J.stop i H ∧ Q (.ref D) H) ∨ (J.go i H ∧ ∃ Nx : Hp → Prop, (∀ H', Nx H' → ∃ m', m' < m ∧ W (i + 1) m' H') ∧ ∀ x H', J.yld i H x H' → tgR X.K tc x (wipe σ own) H' fun σ2 H2 => wipe σ2 own = wipe σ own ∧ rdT L Bl C cd σ2 H2 fun b H3 =>
        if b = true then rdE L Bl C ce σ2 H3 fun y H4 => ∃ acc, H4 D = some (.lst acc) ∧ acc.length < sizeLine ∧ Nx (upd H4 D (.lst (acc ++ [y]))) else Nx H3) := by
  have nZD : ¬ Z D := ss.nz hD
  refine ⟨fun i m Hc => m = xs.length - i ∧ i ≤ xs.length ∧ ∃ (Zc : Addr → Prop) (ιc : List Addr) (stc : Store) (acc : List PV) (vacc : List V) (more : List Addr),
    Pw Z ι H Zc ιc Hc ∧ ιc = ι ++ more ∧ (∀ a ∈ more, H a = none ∧ a ≠ D) ∧ (∀ a, Zc a ↔ (Z a ∨ a ∈ more) ∨ a = D) ∧ (∀ a o, a ∉ ι → (∀ ps, o ≠ HO.tbl ps) → H a = some o → Hc a = some o) ∧
    SS L Zc ιc Hc stc ∧ Hc D = some (.lst vacc) ∧ Reps L Zc ιc Hc vacc acc ∧ lcLoop (lcF C tc own cd ce ρ) (xs.drop i) acc stc = lcLoop (lcF C tc own cd ce ρ) xs [] st, ⟨xs.length, rfl, Nat.zero_le _, fun a => Z a ∨ a = D, ι, st, [], [], [], ?_⟩, ?_⟩
  · have pn : Pw Z ι H (fun a => Z a ∨ a = D) ι (upd H D (.lst [])) := ⟨fun _ _ h => h, fun a h => h.imp (fun h => h) (fun e => by rw [e]; exact hD), (Pw.same (ι := ι) hD).ext, (Pw.same (ι := ι) (Z := Z) hD).trk⟩
    refine ⟨pn, by simp, by simp, by simp, fun a o _ ho h => by rw [upd_ne (ne_of_none h hD)]; exact h, ?_, upd_same, .nil, rfl⟩
    have s1 := ss.new (o := .lst []) hD
    refine ⟨s1.len, s1.nd, fun a ha => .inl (s1.sub a ha), fun a h => ?_, fun k c hc => ?_, s1.tabs⟩
    · rcases h with h | h
      · exact s1.zin a h
      · exact ⟨[], by rw [h]; exact upd_same⟩
    · obtain ⟨a, e, q⟩ := ss.cell k c hc
      exact ⟨a, e, q.mono ss.zin pn fun vs h => by rw [upd_ne (ne_of_none h hD)]; exact h⟩
  · rintro i m Hc ⟨rfl, hi, Zc, ιc, stc, acc, vacc, more, pw, eι, hm, hZ, hext, sc', hDc, racc, eq⟩
    have rI' := rI Zc ιc Hc pw sc'.sub sc'.zin
    have hDι : D ∉ ιc := by
      rw [eι]
      intro h
      rcases List.mem_append.mp h with h | h
      · exact nZD (ss.sub D h)
      · exact (hm D h).2 rfl
    have hZD : Zc D := (hZ D).mpr (.inr rfl)
    by_cases hlt : i < xs.length
    · -- a turn
      have hdrop : xs.drop i = xs[i] :: xs.drop (i + 1) := by simp
      rw [hdrop] at eq
      simp only [lcLoop] at eq
      have hne : ∀ r, lcLoop (lcF C tc own cd ce ρ) xs [] st = r → r ≠ .stuck := fun r e z => by
        rw [e, z] at f
        exact f
      obtain ⟨go, yl⟩ := rI'.1 i xs[i] (by simp)
      refine .inr ⟨go, fun Hn => ?_, ?_⟩
      · exact (i + 1 ≤ xs.length ∧ ∃ (Zc : Addr → Prop) (ιc : List Addr) (stc : Store) (acc : List PV) (vacc : List V) (more : List Addr),
          Pw Z ι H Zc ιc Hn ∧ ιc = ι ++ more ∧ (∀ a ∈ more, H a = none ∧ a ≠ D) ∧ (∀ a, Zc a ↔ (Z a ∨ a ∈ more) ∨ a = D) ∧ (∀ a o, a ∉ ι → (∀ ps, o ≠ HO.tbl ps) → H a = some o → Hn a = some o) ∧
          SS L Zc ιc Hn stc ∧ Hn D = some (.lst vacc) ∧ Reps L Zc ιc Hn vacc acc ∧ lcLoop (lcF C tc own cd ce ρ) (xs.drop (i + 1)) acc stc = lcLoop (lcF C tc own cd ce ρ) xs [] st)
      · refine ⟨fun H' h' => ⟨xs.length - (i + 1), by omega, rfl, h'.1, h'.2⟩, fun x H' y => ?_⟩
        obtain ⟨hH', rx⟩ := yl x H' y
        -- the state behind the item
        have pH : Pw Zc ιc Hc Zc ιc H' ∧ SS L Zc ιc H' stc ∧ H' D = some (.lst vacc) ∧ (∀ a, H' a = none → Hc a = none) ∧ ∀ a o, Hc a = some o → H' a = some o := by
          rcases hH' with rfl | ⟨T, ws, hT, rfl⟩
          · exact ⟨⟨fun _ _ h => h, fun _ h => .inl h, fun _ _ _ _ h => h, fun _ h => h⟩, sc', hDc, fun _ h => h, fun _ _ h => h⟩
          · refine ⟨Pw.same hT, sc'.new hT, by rw [upd_ne (ne_of_none hDc hT)]; exact hDc, fun a h => ?_, fun a o h => by rw [upd_ne (ne_of_none h hT)]; exact h⟩
            by_cases e : a = T
            · subst e; rw [upd_same] at h; cases h
            · rw [upd_ne e] at h; exact h
        obtain ⟨pw2, ss2, hD2, hno, hkeep⟩ := pH
        cases hb : bindT tc xs[i] (wipeE ρ own) with
        | none =>
          exfalso
          have e1 : lcF C tc own cd ce ρ xs[i] stc = .stuck := by unfold lcF; rw [hb]
          rw [e1] at eq
          exact hne _ eq.symm rfl
        | some ρ1 =>
          have er2 : ER L Zc ιc H' (wipe σ own) (wipeE ρ own) := (er.monoW ss.zin (pw.trans pw2)).wipe own
          refine tg_rd (own := some own) hK tc tg xs[i] x _ _ ρ1 _ hct rx hb er2 fun σ2 er3 hw => ⟨by
            have hw2 := hw own rfl
            rw [hw2]
            clear hw2
            exact wipe_wipe, Zc, ιc, ρ1, stc, ss2, er3, ?_⟩
          rw [lcF_eq hb] at eq
          cases hc : evT C cd ρ1 stc with
          | stuck => rw [hc] at eq; exact (hne _ eq.symm rfl).elim
          | exc c s3 => rw [hc] at eq; exact (hne _ eq.symm rfl).elim
          | ok k st3 =>
            rw [hc] at eq
            simp only [R.bind] at eq
            intro b Z3 ι3 H3 p3 ss3 hk
            obtain rfl : b = k := hk
            obtain ⟨m3, e3, n3, z3⟩ := p3.ex
            have hD3 : H3 D = some (.lst vacc) := p3.ext D _ hDι (fun _ z => by cases z) hD2
            have pw3 : Pw Z ι H Z3 ι3 H3 := (pw.trans pw2).trans (p3.pw ss2.sub)
            -- what holds of new cells
            have more3 : ∀ {H0 : Hp} {m0 : List Addr}, (∀ a ∈ m0, H0 a = none) → (∀ a, Hc a ≠ none → H0 a ≠ none) → H0 D ≠ none → ∀ a ∈ m0, H a = none ∧ a ≠ D := fun {H0 m0} h0 h1 h2 a ha => by
              refine ⟨?_, fun e => h2 (e ▸ h0 a ha)⟩
              cases e : H a with
              | none => rfl
              | some o => exact absurd (h0 a ha) (h1 a (pw.trk a (by rw [e]; simp)))
            have hm3 := more3 (H0 := H') n3 (fun a h z => h (hno a z)) (by rw [hD2]; simp)
            have eι3 : ι3 = ι ++ (more ++ m3) := by rw [e3, eι, List.append_assoc]
            have hZ3 : ∀ a, Z3 a ↔ (Z a ∨ a ∈ more ++ m3) ∨ a = D := fun a => by
              rw [z3 a, hZ a, List.mem_append]
              constructor
              · rintro ((h | h) | h)
                · exact .inl (h.imp (fun h => h) .inl)
                · exact .inr h
                · exact .inl (.inr (.inr h))
              · rintro ((h | h | h) | h)
                · exact .inl (.inl (.inl h))
                · exact .inl (.inl (.inr h))
                · exact .inr h
                · exact .inl (.inr h)
            have hmm3 : ∀ a ∈ more ++ m3, H a = none ∧ a ≠ D := fun a ha => (List.mem_append.mp ha).elim (hm a) (hm3 a)
            have hι3 : ∀ a o, a ∉ ι → H a = some o → a ∉ ι3 := fun a o h1 h2 h3 => by
              rw [eι3] at h3
              rcases List.mem_append.mp h3 with h | h
              · exact h1 h
              · have := (hmm3 a h).1
                rw [h2] at this; cases this
            have hext3 : ∀ a o, a ∉ ι → (∀ ps, o ≠ HO.tbl ps) → H a = some o → H3 a = some o := fun a o h1 h2 h3 => by
              refine p3.ext a o (fun h4 => ?_) h2 (hkeep a o (hext a o h1 h2 h3))
              rw [eι] at h4
              rcases List.mem_append.mp h4 with h | h
              · exact h1 h
              · have := (hm a h).1
                rw [h3] at this; cases this
            cases b with
            | false =>
              simp only [Bool.false_eq_true, if_false] at eq ⊢
              exact ⟨hlt, Z3, ι3, st3, acc, vacc, more ++ m3, pw3, eι3, hmm3, hZ3, hext3, ss3, hD3, (racc.mono sc'.zin (pw2.trans (p3.pw ss2.sub))), eq⟩
            | true =>
              simp only [if_true] at eq ⊢
              refine ⟨Z3, ι3, ρ1, st3, ss3, er3.mono ss2 p3, ?_⟩
              cases hv : evE C ce ρ1 st3 with
              | stuck => rw [hv] at eq; exact (hne _ eq.symm rfl).elim
              | exc c s4 => rw [hv] at eq; exact (hne _ eq.symm rfl).elim
              | ok w st4 =>
                rw [hv] at eq
                simp only [R.bind] at eq
                intro y' Z4 ι4 H4 p4 ss4 ry
                obtain ⟨m4, e4, n4, z4⟩ := p4.ex
                have hDι3 : D ∉ ι3 := by
                  rw [eι3]
                  intro h
                  rcases List.mem_append.mp h with h | h
                  · exact nZD (ss.sub D h)
                  · exact (hmm3 D h).2 rfl
                have hD4 : H4 D = some (.lst vacc) := p4.ext D _ hDι3 (fun _ z => by cases z) hD3
                have hm4 := more3 (H0 := H3) n4 (fun a h => p3.trk a (pw2.trk a h)) (by rw [hD3]; simp)
                have hmm4 : ∀ a ∈ (more ++ m3) ++ m4, H a = none ∧ a ≠ D := fun a ha => (List.mem_append.mp ha).elim (hmm3 a) (hm4 a)
                have eι4 : ι4 = ι ++ ((more ++ m3) ++ m4) := by rw [e4, eι3, List.append_assoc]
                have hZ4 : ∀ a, Z4 a ↔ (Z a ∨ a ∈ (more ++ m3) ++ m4) ∨ a = D := fun a => by
                  rw [z4 a, hZ3 a, List.mem_append (t := m4)]
                  constructor
                  · rintro ((h | h) | h)
                    · exact .inl (h.imp (fun h => h) .inl)
                    · exact .inr h
                    · exact .inl (.inr (.inr h))
                  · rintro ((h | h | h) | h)
                    · exact .inl (.inl (.inl h))
                    · exact .inl (.inl (.inr h))
                    · exact .inr h
                    · exact .inl (.inr h)
                have hZD4 : Z4 D := (hZ4 D).mpr (.inr rfl)
                have hDι4 : D ∉ ι4 := by
                  rw [eι4]
                  intro h
                  rcases List.mem_append.mp h with h | h
                  · exact nZD (ss.sub D h)
                  · exact (hmm4 D h).2 rfl
                have pwD : Pw Z4 ι4 H4 Z4 ι4 (upd H4 D (.lst (vacc ++ [y']))) := Pw.at hZD4 (by rw [hD4]; simp)
                have pw4 := (pw3.trans (p4.pw ss3.sub)).trans pwD
                have racc4 : Reps L Z4 ι4 H4 vacc acc := (racc.mono sc'.zin (pw2.trans (p3.pw ss2.sub))).mono ss3.zin (p4.pw ss3.sub)
                -- the length
                have hlen : acc.length < lim + 1 := by
                  have key : ∀ (ys acc : List PV) (s : Store) (r : List PV) (s' : Store), lcLoop (lcF C tc own cd ce ρ) ys acc s = .ok r s' → acc.length ≤ lim := by
                    intro ys
                    induction ys with
                    | nil =>
                      intro acc s r s' h
                      simp only [lcLoop] at h
                      split at h
                      · assumption
                      · cases h
                    | cons z zs ih =>
                      intro acc s r s' h
                      simp only [lcLoop] at h
                      split at h
                      · have := ih _ _ _ _ h
                        simp at this
                        omega
                      · exact ih _ _ _ _ h
                      · cases h
                  cases hr : lcLoop (lcF C tc own cd ce ρ) xs [] st with
                  | ok r s' =>
                    rw [hr] at eq
                    have := key _ _ _ _ _ eq
                    simp at this
                    omega
                  | exc c s' =>
                    exfalso
                    exact lcLoop_noexc hr
                  | stuck => exact (hne _ hr rfl).elim
                refine ⟨vacc, hD4, by rw [racc.len, sizeLine_eq]; unfold lim at hlen; omega, hlt, Z4, ι4, st4, acc ++ [w], vacc ++ [y'], (more ++ m3) ++ m4, pw4, eι4, hmm4, hZ4, fun a o h1 h2 h3 => ?_, ss4.at hZD4 hDι4, upd_same, ?_, eq⟩
                · have ha : a ≠ D := fun e => by rw [e, hD] at h3; cases h3
                  rw [upd_ne ha]
                  exact p4.ext a o (hι3 a o h1 h3) h2 (hext3 a o h1 h2 h3)
                · exact (racc4.append (.cons ry .nil)).mono ss4.zin pwD
    · -- the end
      have e : i = xs.length := by omega
      subst e
      refine .inl ⟨rI'.2, ?_⟩
      rw [List.drop_length] at eq
      have eq' : lcLoop (lcF C tc own cd ce ρ) [] acc stc = if acc.length ≤ lim then R.ok acc stc else .stuck := rfl
      rw [eq'] at eq
      rw [← eq] at f
      split at f
      · exact hfin acc stc Zc ιc Hc vacc D more hD eι hm hZ hext pw.trk sc' hDc racc f
      · exact (show False from f).elim
def ownP (N : List Str) (own : List Nat) : List (Str × Nat) := own.map fun i => (N.getD i default, i)
theorem ownP_2 {N : List Str} {own : List Nat} : (ownP N own).map (·.2) = own := by
  unfold ownP
  rw [List.map_map]
  exact List.map_id _
/-- a block's own names are its own -/
def ownB (N : List Str) (scope : Scope) (own : List Nat) : Bool := own.all fun i => match N[i]? with
  | some x => decide (scope.names.lookup x = some .local) || decide (scope.names.lookup x = some .cell)
  | none => false
theorem xo_blk (hx : XO L n N sc Ex X) (scope : Scope) (s : Shared) (H : Hp) (A : Addr) (cl : List (Str × Addr)) (fp : List Addr) : XO L n N (relS scope sc) Bl (X.blk s H scope (compEnvC scope cl A X.env) fp) := by
  refine ⟨hx.P, hx.w, hx.K, hx.mg, hx.base, hx.calm, hx.room, hx.nm, hx.nd, ?_, fun u s' x => ?_⟩
  · show relS scope X.env.scope = _
    rw [hx.sc]
  · obtain ⟨_, _, _, _, _, _, _, _, _, _, _, _, _, _, _, _, _, _, _, z⟩ := x
    exact z
theorem fn_blk {scope : Scope} {own : List Nat} (hx : XO L n N sc Ex X) (h : ownB N scope own = true) (s : Shared) (H : Hp) (A : Addr) (cl : List (Str × Addr)) (fp : List Addr) : FnOkC (X.blk s H scope (compEnvC scope cl A X.env) fp) (some own) := by
  intro i x hi hN hl
  have hN' : N[i]? = some x := by rw [← hx.nm]; exact hN
  have := List.all_eq_true.mp h i hi
  rw [hN'] at this
  simp only [Bool.or_eq_true, decide_eq_true_eq] at this
  rcases this with h | h
  · exact .inr (lookup_relS_keep (by decide) h)
  · refine .inl ?_
    show (scope.names.lookup x == some .cell) = true
    rw [h]
    rfl
theorem pts_yes : PTs X [] (rdT L Ex C .yes) := ⟨fun pins s σ H Q I ⟨Z, ι, ρ, st, ss, er, f⟩ => pts_nil.run pins s σ H Q I (f.ok ss rfl)⟩
theorem lc_start {k : IK} {it cd ce : CE} {tc : Tg} {own : List Nat} {σ : LSt} {H : Hp} {Q : VK} {fin : List PV → Store → R PV} (e : CE)
    (he : ∀ ρ st, evE C e ρ st = (evEs C it ρ st).bind fun vs st => (R.ofO (items k vs) st).bind fun xs st => (lcLoop (lcF C tc own cd ce ρ) xs [] st).bind fin) (h : rdE L Ex C e σ H Q) :
    ∃ Z ι ρ st, SS L Z ι H st ∧ ER L Z ι H σ ρ ∧ Fin L (relV L) Ex Z ι H (((evEs C it ρ st).bind fun vs st => R.ofO (items k vs) st).bind fun xs st => (lcLoop (lcF C tc own cd ce ρ) xs [] st).bind fin) Q := by
  obtain ⟨Z, ι, ρ, st, ss, er, f⟩ := h
  rw [he, bind_assoc'] at f
  exact ⟨Z, ι, ρ, st, ss, er, f⟩
/-- the reading of a comprehension -/
theorem lc_rd {tg : Expr} {k : IK} {it cd ce : CE} {tc : Tg} {own : List Nat} {scope2 : Scope} (hK : X.K = L.K) (hct : chkT N scope2 (some own) tc tg = true) (σ : LSt) (H : Hp) (Q : VK) (h : rdE L Ex C (.lc k it tc own cd ce) σ H Q) :
    tLc (rdI L Ex C k it) (tgR X.K tc) (rdT L Bl C cd) (rdE L Bl C ce) own σ H Q := by
  obtain ⟨Z, ι, ρ, st, ss, er, f⟩ := lc_start (fin := fun acc st => .ok (.lst acc) st) (.lc k it tc own cd ce) (fun ρ st => by simp only [evE]; rfl) h
  refine ⟨Z, ι, ρ, st, ss, er, f.into fun xs st1 J Z1 ι1 H1 p1 ss1 rI f1 D hD => lc_word hK hct ss1 (er.mono ss p1) rI f1 ?_ D hD⟩
  intro acc stc Zc ιc Hc vacc D more hD eι hm hZ hext trk sc' hDc racc ff
  have nZD : ¬ Z1 D := ss1.nz hD
  have hz : ∀ a, (Z1 a ∨ a ∈ more) → Zc a := fun a h => (hZ a).mpr (.inl h)
  refine ff (.ref D) (fun a => Z1 a ∨ a ∈ more) ιc Hc ⟨⟨more, eι, fun a h => (hm a h).1, fun a => Iff.rfl⟩, hext, trk⟩ (sc'.zweak hz fun a ha => ?_) (.lst ?_ hDc (racc.zweak hz _ _))
  · rw [eι] at ha
    exact (List.mem_append.mp ha).imp (ss1.sub a) fun h => h
  · rintro (h | h)
    · exact nZD h
    · exact (hm D h).2 rfl
theorem mkc_rd {tg : Expr} {k : IK} {it cd ce : CE} {tc : Tg} {own : List Nat} {scope2 : Scope} (hK : X.K = L.K) (hct : chkT N scope2 (some own) tc tg = true) (σ : LSt) (H : Hp) (Q : VK) (h : rdE L Ex C (.mkc k it tc own cd ce) σ H Q) :
    tLc (rdI L Ex C k it) (tgR X.K tc) (rdT L Bl C cd) (rdE L Bl C ce) own σ H Q := by
  obtain ⟨Z, ι, ρ, st, ss, er, f⟩ := lc_start (fin := fun acc st => alloc st (.lst acc)) (.mkc k it tc own cd ce) (fun ρ st => by simp only [evE]; rfl) h
  refine ⟨Z, ι, ρ, st, ss, er, f.into fun xs st1 J Z1 ι1 H1 p1 ss1 rI f1 D hD => lc_word hK hct ss1 (er.mono ss p1) rI f1 ?_ D hD⟩
  intro acc stc Zc ιc Hc vacc D more hD eι hm hZ hext trk sc' hDc racc ff
  have nZD : ¬ Z1 D := ss1.nz hD
  have hDι : D ∉ ιc := by
    rw [eι]
    intro h
    rcases List.mem_append.mp h with h | h
    · exact nZD (ss1.sub D h)
    · exact (hm D h).2 rfl
  have hZD : Zc D := (hZ D).mpr (.inr rfl)
  have pw : Pw Zc ιc Hc Zc (ιc ++ [D]) Hc := ⟨fun k a h => by rw [List.getElem?_append_left (List.getElem?_eq_some_iff.mp h).1]; exact h, fun _ h => .inl h, fun _ _ _ _ h => h, fun _ h => h⟩
  refine ff (.ref D) Zc (ιc ++ [D]) Hc ⟨⟨more ++ [D], by rw [eι, List.append_assoc], fun a h => ?_, fun a => ?_⟩, hext, trk⟩ ⟨by simp [sc'.len], ?_, fun a ha => ?_, sc'.zin, fun k c hc => ?_, sc'.tabs⟩ (.ref ?_)
  · rcases List.mem_append.mp h with h | h
    · exact (hm a h).1
    · rw [List.mem_singleton.mp h]; exact hD
  · rw [hZ a, List.mem_append, List.mem_singleton, or_assoc]
  · rw [List.nodup_append]
    refine ⟨sc'.nd, by simp, fun a ha b hb => ?_⟩
    rw [List.mem_singleton.mp hb]
    intro e
    exact hDι (e ▸ ha)
  · rcases List.mem_append.mp ha with h | h
    · exact sc'.sub a h
    · rw [List.mem_singleton.mp h]; exact hZD
  · by_cases hk : k < stc.length
    · rw [List.getElem?_append_left hk] at hc
      obtain ⟨a, e, q⟩ := sc'.cell k c hc
      exact ⟨a, pw.ix _ _ e, q.mono sc'.zin pw fun vs h => h⟩
    · rw [List.getElem?_append_right (by omega)] at hc
      have hk2 : k = stc.length := by
        have := (List.getElem?_eq_some_iff.mp hc).1
        simp at this; omega
      subst hk2
      simp at hc
      subst hc
      exact ⟨D, by rw [← sc'.len]; simp, vacc, hDc, racc.mono sc'.zin pw⟩
  · rw [← sc'.len]; simp
/-- what a comprehension's parts must be -/
structure LcOk (L : Lk) (N : List Str) (sc : Scope) (Ex : Nat → Hp → Prop) (C : Calls) (X : Cx) (elt tg iter : Expr) (ifs : List Expr) (scope : Scope) (k : IK) (it : CE) (tc : Tg) (own : List Nat) (cd ce : CE) : Prop where
  pi : PI X tg iter (rdI L Ex C k it)
  blk : blkC N sc scope (ownP N own) = true
  ow : ownB N scope own = true
  tg : chkT N (relS scope sc) (some own) tc tg = true
  pts : ∀ (s : Shared) (H : Hp) (A : Addr) (cl : List (Str × Addr)) (fp : List Addr), PTs (X.blk s H scope (compEnvC scope cl A X.env) fp) ifs (rdT L Bl C cd)
  pe : ∀ (s : Shared) (H : Hp) (A : Addr) (cl : List (Str × Addr)) (fp : List Addr), PE (X.blk s H scope (compEnvC scope cl A X.env) fp) elt (rdE L Bl C ce)
  fs : ∀ x, foldedSetIterable iter X.env x = pure x
variable {elt tg iter : Expr} {ifs : List Expr} {scope : Scope} {k : IK} {it cd ce : CE} {tc : Tg} {own : List Nat} {pos : Pos}
theorem s_lc0 (hx : XO L n N sc Ex X) (l : LcOk L N sc Ex C X elt tg iter ifs scope k it tc own cd ce) : PE X (.ListComp elt [⟨tg, iter, ifs, 0⟩] scope pos) (tLc (rdI L Ex C k it) (tgR X.K tc) (rdT L Bl C cd) (rdE L Bl C ce) own) := by
  have ok : BlkOk X.N X.env.scope scope (ownP N own) := blkOk_by (by rw [hx.nm, hx.sc]; exact l.blk)
  have := pe_lc (own := ownP N own) (pos := pos) (g := tgR X.K tc) hx.calm (by rw [hx.nm]; exact hx.nd) l.pi ok (fun s H A cl fp => t_tg (xo_blk hx scope s H A cl fp) (fn_blk hx l.ow s H A cl fp) tc tg l.tg) l.pts l.pe l.fs
  rw [ownP_2] at this
  exact this
theorem s_lc (hx : XO L n N sc Ex X) (l : LcOk L N sc Ex C X elt tg iter ifs scope k it tc own cd ce) : PE X (.ListComp elt [⟨tg, iter, ifs, 0⟩] scope pos) (rdE L Ex C (.lc k it tc own cd ce)) :=
  (s_lc0 hx l).weak (lc_rd hx.K l.tg)
theorem s_mkc (hx : XO L n N sc Ex X) (l : LcOk L N sc Ex C X elt tg iter ifs scope k it tc own cd ce) : PE X (.ListComp elt [⟨tg, iter, ifs, 0⟩] scope pos) (rdE L Ex C (.mkc k it tc own cd ce)) :=
  (s_lc0 hx l).weak (mkc_rd hx.K l.tg)
/-- name = [..], the stores exchanged -/
theorem s_setLc0 {i : Nat} {y : Str} {py spos : Pos} (hx : XO L n N sc Ex X) (l : LcOk L N sc Ex C X elt tg iter ifs scope k it tc own cd ce) (hy : N[i]? = some y) (hyl : sc.names.lookup y = some .local)
    (hsw : swapsWith (.ListComp elt [⟨tg, iter, ifs, 0⟩] scope pos) (some (.Name y py)) spos.line X.env = pure true) :
    PS X (.Assign [.Name y py] (.ListComp elt [⟨tg, iter, ifs, 0⟩] scope pos) spos) (tAsg (tLc (rdI L Ex C k it) (tgR X.K tc) (rdT L Bl C cd) (rdE L Bl C ce) own) (gName i)) := by
  have ok : BlkOk X.N X.env.scope scope (ownP N own) := blkOk_by (by rw [hx.nm, hx.sc]; exact l.blk)
  have := ps_setLc (own := ownP N own) (pos := pos) (g := tgR X.K tc) (py := py) (i := i) (y := y) hx.calm (by rw [hx.nm]; exact hx.nd) (by rw [hx.nm]; exact hy) (by rw [hx.sc]; exact hyl) hsw l.pi ok (fun s H A cl fp => t_tg (xo_blk hx scope s H A cl fp) (fn_blk hx l.ow s H A cl fp) tc tg l.tg) l.pts l.pe l.fs
  rw [ownP_2] at this
  exact this
end
end Ev
end
section
set_option Elab.async false
set_option linter.all false
set_option maxRecDepth 100000
set_option maxHeartbeats 4000000
namespace Ev
open PySem PySem.Spec PyProof.Rows L2
def RS.seq (r : RS) (f : Env → Store → RS) : RS := match r with
  | .next ρ st => f ρ st
  | r => r
def FinS (L : Lk) (Ex : Nat → Hp → Prop) (Z : Addr → Prop) (ι : List Addr) (H : Hp) (r : RS) (D : Ends) : Prop := match r with
  | .next ρ' st' => ∀ σ' Z' ι' H', Ps Z ι H Z' ι' H' → SS L Z' ι' H' st' → ER L Z' ι' H' σ' ρ' → D.nx σ' H'
  | .ret v st' => ∀ V Z' ι' H', Ps Z ι H Z' ι' H' → SS L Z' ι' H' st' → Rep L Z' ι' H' V v → D.rt V H'
  | .exc c st' => ∀ Z' ι' H', Ps Z ι H Z' ι' H' → SS L Z' ι' H' st' → Ex c H'
  | .stuck => False
def rdS (L : Lk) (Ex : Nat → Hp → Prop) (C : Calls) (W : Nat) (k : CS) : TS := fun D σ H => ∃ Z ι ρ st, SS L Z ι H st ∧ ER L Z ι H σ ρ ∧ FinS L Ex Z ι H (evS C W k ρ st) D
section
variable {L : Lk} {Ex : Nat → Hp → Prop} {Z Z' : Addr → Prop} {ι ι' : List Addr} {H H' : Hp} {st : Store} {D : Ends}
theorem FinS.shift {r : RS} (h : FinS L Ex Z ι H r D) (p : Ps Z ι H Z' ι' H') : FinS L Ex Z' ι' H' r D := by
  cases r with
  | next ρ' st' => exact fun σ' Z2 ι2 H2 q ss e => h σ' Z2 ι2 H2 (p.trans q) ss e
  | ret v st' => exact fun V Z2 ι2 H2 q ss e => h V Z2 ι2 H2 (p.trans q) ss e
  | exc c st' => exact fun Z2 ι2 H2 q ss => h Z2 ι2 H2 (p.trans q) ss
  | stuck => exact h
theorem FinS.into {α β : Type} {rel : RelT α β} {r : R α} {f : α → Store → RS} {Q1 : β → Hp → Prop} (h : FinS L Ex Z ι H (r.bindS f) D)
    (k : ∀ v st1 V Z1 ι1 H1, Ps Z ι H Z1 ι1 H1 → SS L Z1 ι1 H1 st1 → rel Z1 ι1 H1 V v → FinS L Ex Z1 ι1 H1 (f v st1) D → Q1 V H1) : Fin L rel Ex Z ι H r Q1 := by
  cases r with
  | ok v st1 => exact fun V Z1 ι1 H1 p ss r => k v st1 V Z1 ι1 H1 p ss r (FinS.shift (r := f v st1) h p)
  | exc c st1 => exact h
  | stuck => exact h
theorem FinS.ofO {α : Type} {o : Option α} {f : α → Store → RS} (h : FinS L Ex Z ι H ((R.ofO o st).bindS f) D) : ∃ v, o = some v ∧ FinS L Ex Z ι H (f v st) D := by
  cases o with
  | none => exact (show False from h).elim
  | some v => exact ⟨v, rfl, h⟩
theorem FinS.seq {r : RS} {f : Env → Store → RS} (h : FinS L Ex Z ι H (r.seq f) D) :
    FinS L Ex Z ι H r { D with nx := fun σ H' => ∃ Z' ι' ρ' st', Ps Z ι H Z' ι' H' ∧ SS L Z' ι' H' st' ∧ ER L Z' ι' H' σ ρ' ∧ FinS L Ex Z' ι' H' (f ρ' st') D } := by
  cases r with
  | next ρ' st' => exact fun σ' Z2 ι2 H2 q ss e => ⟨Z2, ι2, ρ', st', q, ss, e, FinS.shift (r := f ρ' st') h q⟩
  | ret v st' => exact h
  | exc c st' => exact h
  | stuck => exact h
theorem FinS.mono {r : RS} {D' : Ends} (h : FinS L Ex Z ι H r D) (hn : ∀ σ H, D.nx σ H → D'.nx σ H) (hr : ∀ v H, D.rt v H → D'.rt v H) : FinS L Ex Z ι H r D' := by
  cases r with
  | next ρ' st' => exact fun σ' Z2 ι2 H2 q ss e => hn _ _ (h σ' Z2 ι2 H2 q ss e)
  | ret v st' => exact fun V Z2 ι2 H2 q ss e => hr _ _ (h V Z2 ι2 H2 q ss e)
  | exc c st' => exact h
  | stuck => exact h
theorem FinS.next {σ : LSt} {ρ : Env} (h : FinS L Ex Z ι H (.next ρ st) D) (ss : SS L Z ι H st) (er : ER L Z ι H σ ρ) : D.nx σ H := h σ Z ι H .refl ss er
theorem bindS_assoc {α β : Type} {r : R α} {f : α → Store → R β} {g : β → Store → RS} : (r.bindS fun a st => (f a st).bindS g) = (r.bind f).bindS g := by
  cases r <;> rfl
end
structure XSt (L : Lk) (n : Nat) (N : List Str) (sc : Scope) (Ex : Nat → Hp → Prop) (X : Cx) : Prop where
  xo : XO L n N sc Ex X
  fnn : ∀ x, X.fn x = true
  kind : X.env.scope.kind = .function
  pw : PassesOwn (model X.prog X.w) X.A X.env X.xe
def notComp : Expr → Bool
  | .ListComp _ _ _ _ => false
  | .SetComp _ _ _ _ => false
  | .DictComp _ _ _ _ _ => false
  | _ => true
theorem sw_no {e : Expr} {t : Option Expr} {l : Nat} {env : PySem.Env} (h : notComp e = true) : swapsWith e t l env = pure false := by
  cases e <;> first | rfl | cases h
theorem sws_no {e t : Expr} {l : Nat} {env : PySem.Env} (h : notComp e = true) : swapsWithSole [t] e l env = pure false := sw_no h
section
variable {L : Lk} {n : Nat} {N : List Str} {sc : Scope} {Ex : Nat → Hp → Prop} {X : Cx} {T : List Fd} {C : Calls} {W : Nat}
theorem st_done : PSs X [] (rdS L Ex C W .done) := pss_nil.weak fun D σ H ⟨Z, ι, ρ, st, ss, er, f⟩ => f.next ss er
theorem seqW {s : Stmt} {rest : List Stmt} {t u : TS} {w : TS} (h1 : PS X s t) (h2 : PSs X rest u) (h : ∀ D σ H, w D σ H → t { D with nx := u D } σ H) : PSs X (s :: rest) w := (pss_cons h1 h2).weak h
theorem asg_rd {i : Nat} {e : CE} {k : CS} {te : TE} (hte : ∀ σ H Q, rdE L Ex C e σ H Q → te σ H Q) (D : Ends) (σ : LSt) (H : Hp) (h : rdS L Ex C W (.asg i e k) D σ H) : tAsg te (gName i) { D with nx := rdS L Ex C W k D } σ H := by
  obtain ⟨Z, ι, ρ, st, ss, er, f⟩ := h
  simp only [evS] at f
  exact hte _ _ _ ⟨Z, ι, ρ, st, ss, er, f.into fun v st1 V Z1 ι1 H1 p1 ss1 r1 f1 => ⟨Z1, ι1, _, st1, ss1, (er.mono ss p1).set i r1, f1⟩⟩
theorem st_asg {i : Nat} {x : Str} {e : Expr} {c : CE} {k : CS} {rest : List Stmt} {p pos : Pos} (hx : XSt L n N sc Ex X) (hN : N[i]? = some x) (hl : locB sc x = true) (hs : swapsWith e (some (.Name x p)) pos.line X.env = pure false) (he : PE X e (rdE L Ex C c)) (hk : PSs X rest (rdS L Ex C W k)) :
    PSs X (.Assign [.Name x p] e pos :: rest) (rdS L Ex C W (.asg i c k)) :=
  seqW (ps_set (i := i) (by rw [hx.xo.nm]; exact hx.xo.nd) (by rw [hx.xo.nm]; exact hN) (by rw [hx.xo.sc]; exact locB_of hl) he hs (.inl (hx.fnn x))) hk (asg_rd fun _ _ _ h => h)
variable {elt tg iter : Expr} {ifs : List Expr} {scope : Scope} {ik : IK} {it cd ce : CE} {tc : Tg} {own : List Nat}
theorem st_asgLc {i : Nat} {y : Str} {k : CS} {rest : List Stmt} {py pos spos : Pos} {b : Bool} (hx : XSt L n N sc Ex X) (l : LcOk L N sc Ex C X elt tg iter ifs scope ik it tc own cd ce) (hN : N[i]? = some y) (hl : sc.names.lookup y = some .local)
    (hsw : swapsWith (.ListComp elt [⟨tg, iter, ifs, 0⟩] scope pos) (some (.Name y py)) spos.line X.env = pure true) (hk : PSs X rest (rdS L Ex C W k)) :
    PSs X (.Assign [.Name y py] (.ListComp elt [⟨tg, iter, ifs, 0⟩] scope pos) spos :: rest) (rdS L Ex C W (.asg i (if b then .mkc ik it tc own cd ce else .lc ik it tc own cd ce) k)) := by
  refine seqW (s_setLc0 hx.xo l hN hl hsw) hk ?_
  cases b with
  | true => exact asg_rd (mkc_rd hx.xo.K l.tg)
  | false => exact asg_rd (lc_rd hx.xo.K l.tg)
/-- whether the stores are exchanged -/
def swB (sc scope : Scope) (y : Str) (py pos : Pos) : Bool := decide (sc.names.lookup y = some .local) && (py.line == pos.line) && !(scope.names.any fun (n, k) => n == y && (k == .local || k == .cell))
theorem sw_eq {gs : List Comprehension} {y : Str} {py pos : Pos} {l : Nat} {env : PySem.Env} (hk : env.scope.kind = .function) : swapsWith (.ListComp elt gs scope pos) (some (.Name y py)) l env = pure (swB env.scope scope y py pos) := by
  have hb : env.blockKind = .function := by unfold PySem.Env.blockKind; rw [hk]; rfl
  unfold swapsWith swB PySem.Env.kindOf
  simp only [hb, Expr.pos]
  have e : (List.lookup y env.scope.names == some NameKind.local) = decide (List.lookup y env.scope.names = some NameKind.local) := by
    rw [Bool.eq_iff_iff]
    simp
  rw [e]
  rfl
theorem ps_asgT_rd {tg : Expr} {tc : Tg} {e : CE} {k : CS} (hK : X.K = L.K) (hct : chkT N sc none tc tg = true) (D : Ends) (σ : LSt) (H : Hp) (h : rdS L Ex C W (.asgT tc e k) D σ H) : tAsg (rdE L Ex C e) (tgR X.K tc) { D with nx := rdS L Ex C W k D } σ H := by
  obtain ⟨Z, ι, ρ, st, ss, er, f⟩ := h
  simp only [evS] at f
  refine ⟨Z, ι, ρ, st, ss, er, f.into fun v st1 V Z1 ι1 H1 p1 ss1 r1 f1 => ?_⟩
  cases hb : bindT tc v ρ with
  | none => rw [hb] at f1; exact (show False from f1).elim
  | some ρ' =>
    rw [hb] at f1
    exact tg_rd hK tc tg v V σ ρ ρ' _ hct r1 hb (er.mono ss p1) fun σ' er' _ => ⟨Z1, ι1, ρ', st1, ss1, er', f1⟩
theorem st_asgT {tg e : Expr} {tc : Tg} {c : CE} {k : CS} {rest : List Stmt} {pos : Pos} (hx : XSt L n N sc Ex X) (hct : chkT N sc none tc tg = true) (hs : swapsWithSole [tg] e pos.line X.env = pure false) (hw : swappedStores [tg] e X.env = pure none)
    (h1 : (assignEach [tg] X.env).map (·.2) = [assign tg X.env]) (he : PE X e (rdE L Ex C c)) (hk : PSs X rest (rdS L Ex C W k)) : PSs X (.Assign [tg] e pos :: rest) (rdS L Ex C W (.asgT tc c k)) :=
  seqW (ps_asg he (t_tg (own := none) hx.xo hx.fnn tc tg hct) hs hw h1) hk (ps_asgT_rd hx.xo.K hct)
/-! the names' stores from the right -/
def swNames (sc : Scope) (ts : List Expr) : List Str := ts.filterMap fun
  | .Name id pos => if sc.names.lookup id == some .local && pos.line == (ts.head?.map (·.pos.line)).getD 0 then some id else none
  | _ => none
def swK (sc : Scope) (ts vs : List Expr) : Option (Option (List Str)) :=
  if !(ts.length == 2 || ts.length == 3) || vs.length != ts.length then some none
  else if vs.any fun | .Starred .. => true | _ => false then some none
  else if (swNames sc ts).length != ts.length || (swNames sc ts).eraseDups.length != (swNames sc ts).length then some none
  else if vs.all (foldedForSure 8) then some none
  else if vs.all (constantsAlone 8) then none
  else some (some (swNames sc ts))
theorem swK_ok {ts vs : List Expr} {kt kv : Nat} {pt pv : Pos} {env : PySem.Env} {r : Option (List Str)} (hk : env.scope.kind = .function) (h : swK env.scope ts vs = some r) : swappedStores [.Tuple ts kt pt] (.Tuple vs kv pv) env = pure r := by
  have hb : env.blockKind = .function := by unfold PySem.Env.blockKind; rw [hk]; rfl
  unfold swappedStores
  simp only [hb]
  unfold swK at h
  have e0 : (ScopeKind.function != ScopeKind.function) = false := by decide
  rw [e0, Bool.or_false]
  by_cases c1 : (!(ts.length == 2 || ts.length == 3) || vs.length != ts.length) = true
  · rw [if_pos c1] at h ⊢
    cases h
    rfl
  rw [if_neg c1] at h ⊢
  by_cases c2 : (vs.any fun | .Starred .. => true | _ => false) = true
  · replace h := (if_pos c2).symm.trans h
    cases h
    exact if_pos c2
  replace h := (if_neg c2).symm.trans h
  refine (if_neg c2).trans ?_
  by_cases c3 : ((swNames env.scope ts).length != ts.length || (swNames env.scope ts).eraseDups.length != (swNames env.scope ts).length) = true
  · rw [if_pos c3] at h
    cases h
    exact if_pos c3
  rw [if_neg c3] at h
  by_cases c4 : vs.all (foldedForSure 8) = true
  · rw [if_pos c4] at h
    cases h
    exact (if_neg c3).trans (if_pos c4)
  rw [if_neg c4] at h
  by_cases c5 : vs.all (constantsAlone 8) = true
  · rw [if_pos c5] at h
    cases h
  rw [if_neg c5] at h
  cases h
  exact (if_neg c3).trans ((if_neg c4).trans (if_neg c5))
theorem st_expr {e : Expr} {c : CE} {k : CS} {rest : List Stmt} {pos : Pos} (hc : notComp e = true) (he : PE X e (rdE L Ex C c)) (hk : PSs X rest (rdS L Ex C W k)) : PSs X (.Expr e pos :: rest) (rdS L Ex C W (.expr c k)) :=
  seqW (ps_expr he (sw_no hc)) hk fun D σ H ⟨Z, ι, ρ, st, ss, er, f⟩ => by
    simp only [evS] at f
    exact ⟨Z, ι, ρ, st, ss, er, f.into fun v st1 V Z1 ι1 H1 p1 ss1 r1 f1 => ⟨Z1, ι1, ρ, st1, ss1, er.mono ss p1, f1⟩⟩
theorem st_ret {e : Expr} {c : CE} {rest : List Stmt} {pos : Pos} (he : PE X e (rdE L Ex C c)) : PSs X (.Return (some e) pos :: rest) (rdS L Ex C W (.ret c)) :=
  seqW (ps_ret he) pss_never fun D σ H ⟨Z, ι, ρ, st, ss, er, f⟩ => by
    simp only [evS] at f
    exact ⟨Z, ι, ρ, st, ss, er, f.into fun v st1 V Z1 ι1 H1 p1 ss1 r1 f1 => f1 V Z1 ι1 H1 .refl ss1 r1⟩
theorem st_retN {rest : List Stmt} {pos : Pos} : PSs X (.Return none pos :: rest) (rdS L Ex C W .retN) :=
  seqW ps_retN pss_never fun D σ H ⟨Z, ι, ρ, st, ss, er, f⟩ => f .non Z ι H .refl ss .non
theorem st_if {e : Expr} {a b : List Stmt} {c : CE} {t f k : CS} {rest : List Stmt} {pos : Pos} (he : PT X e (rdT L Ex C c)) (ha : PSs X a (rdS L Ex C W t)) (hb : PSs X b (rdS L Ex C W f)) (hk : PSs X rest (rdS L Ex C W k)) : PSs X (.If e a b pos :: rest) (rdS L Ex C W (.ifs c t f k)) :=
  seqW (ps_if he ha hb) hk fun D σ H ⟨Z, ι, ρ, st, ss, er, ff⟩ => by
    have e1 : evS C W (.ifs c t f k) ρ st = (evT C c ρ st).bindS fun b st => (if b = true then evS C W t ρ st else evS C W f ρ st).seq (evS C W k) := by
      simp only [evS]
      rfl
    rw [e1] at ff
    refine ⟨Z, ι, ρ, st, ss, er, ff.into fun v st1 b Z1 ι1 H1 p1 ss1 r1 f1 => ?_⟩
    obtain rfl : b = v := r1
    have er1 := er.mono ss p1
    have fin : ∀ {r : RS}, FinS L Ex Z1 ι1 H1 (r.seq (evS C W k)) D → FinS L Ex Z1 ι1 H1 r { D with nx := rdS L Ex C W k D } := fun {r} h => h.seq.mono (fun σ H ⟨Z', ι', ρ', st', _, a, b, c⟩ => ⟨Z', ι', ρ', st', a, b, c⟩) fun _ _ h => h
    cases b with
    | true => exact ⟨Z1, ι1, ρ, st1, ss1, er1, fin f1⟩
    | false => exact ⟨Z1, ι1, ρ, st1, ss1, er1, fin f1⟩
theorem st_while {e : Expr} {body : List Stmt} {c : CE} {b k : CS} {rest : List Stmt} {pos : Pos} (hx : XSt L n N sc Ex X) (he : PT X e (rdT L Ex C c)) (hb : PSs X body (rdS L Ex C W b)) (hk : PSs X rest (rdS L Ex C W k)) : PSs X (.While e body [] pos :: rest) (rdS L Ex C W (.whil c b k)) :=
  seqW (ps_while hx.pw he hb) hk fun D σ H ⟨Z, ι, ρ, st, ss, er, f⟩ => by
    have e1 : evS C W (.whil c b k) ρ st = (whileLoop (evT C c) (evS C W b) W ρ st).seq (evS C W k) := by
      simp only [evS]
      rfl
    rw [e1] at f
    have f0 : FinS L Ex Z ι H (whileLoop (evT C c) (evS C W b) W ρ st) { D with nx := rdS L Ex C W k D } := f.seq.mono (fun σ H ⟨Z', ι', ρ', st', _, a, b, c⟩ => ⟨Z', ι', ρ', st', a, b, c⟩) fun _ _ h => h
    refine ⟨fun m σ H => ∃ Z ι ρ st, SS L Z ι H st ∧ ER L Z ι H σ ρ ∧ FinS L Ex Z ι H (whileLoop (evT C c) (evS C W b) m ρ st) { D with nx := rdS L Ex C W k D }, ⟨W, Z, ι, ρ, st, ss, er, f0⟩, ?_⟩
    rintro m σ H ⟨Z, ι, ρ, st, ss, er, f⟩
    cases m with
    | zero => exact (show False from f).elim
    | succ m =>
      have e2 : whileLoop (evT C c) (evS C W b) (m + 1) ρ st = (evT C c ρ st).bindS fun k st => if k = true then (evS C W b ρ st).seq (whileLoop (evT C c) (evS C W b) m) else .next ρ st := rfl
      rw [e2] at f
      refine ⟨Z, ι, ρ, st, ss, er, f.into fun v st1 q Z1 ι1 H1 p1 ss1 r1 f1 => ?_⟩
      obtain rfl : q = v := r1
      have er1 := er.mono ss p1
      cases q with
      | true =>
        refine ⟨_, fun σ' H' h => ⟨m, Nat.lt_succ_self m, h⟩, Z1, ι1, ρ, st1, ss1, er1, ?_⟩
        simp only [if_true] at f1
        exact f1.seq.mono (fun σ H ⟨Z', ι', ρ', st', _, a, b, c⟩ => ⟨Z', ι', ρ', st', a, b, c⟩) fun _ _ h => h
      | false =>
        simp only [Bool.false_eq_true, if_false] at f1 ⊢
        exact f1.next ss1 er1
theorem st_for {tg iter : Expr} {body : List Stmt} {tc : Tg} {ik : IK} {it : CE} {b k : CS} {rest : List Stmt} {pos : Pos} (hx : XSt L n N sc Ex X) (hct : chkT N sc none tc tg = true) (hi : PI X tg iter (rdI L Ex C ik it)) (hfs : ∀ x, foldedSetIterable iter X.env x = pure x) (hb : PSs X body (rdS L Ex C W b)) (hk : PSs X rest (rdS L Ex C W k)) :
    PSs X (.For tg iter body [] pos :: rest) (rdS L Ex C W (.for_ tc ik it b k)) :=
  seqW (ps_for hx.pw hx.xo.calm hi (t_tg (own := none) hx.xo hx.fnn tc tg hct) hb hfs) hk fun D σ H ⟨Z, ι, ρ, st, ss, er, f⟩ => by
    let F : PV → Env → Store → RS := fun x ρ st => match bindT tc x ρ with
      | some ρ1 => evS C W b ρ1 st
      | none => .stuck
    have e1 : evS C W (.for_ tc ik it b k) ρ st = ((evEs C it ρ st).bind fun vs st => R.ofO (items ik vs) st).bindS fun xs st => (forLoop F xs ρ st).seq (evS C W k) := by
      rw [← bindS_assoc]
      simp only [evS]
      rfl
    rw [e1] at f
    refine ⟨Z, ι, ρ, st, ss, er, f.into fun xs st1 J Z1 ι1 H1 p1 ss1 rI f1 => ?_⟩
    have f0 : FinS L Ex Z1 ι1 H1 (forLoop F xs ρ st1) { D with nx := rdS L Ex C W k D } := f1.seq.mono (fun σ H ⟨Z', ι', ρ', st', _, a, b, c⟩ => ⟨Z', ι', ρ', st', a, b, c⟩) fun _ _ h => h
    refine ⟨fun i m σ Hc => m = xs.length - i ∧ i ≤ xs.length ∧ ∃ Zc ιc ρc stc, Pw Z1 ι1 H1 Zc ιc Hc ∧ SS L Zc ιc Hc stc ∧ ER L Zc ιc Hc σ ρc ∧ FinS L Ex Zc ιc Hc (forLoop F (xs.drop i) ρc stc) { D with nx := rdS L Ex C W k D },
      ⟨xs.length, rfl, Nat.zero_le _, Z1, ι1, ρ, st1, ⟨fun _ _ h => h, fun _ h => .inl h, fun _ _ _ _ h => h, fun _ h => h⟩, ss1, er.mono ss p1, f0⟩, ?_⟩
    rintro i m σ Hc ⟨rfl, hi, Zc, ιc, ρc, stc, pw, sc', erc, fc⟩
    have rI' := rI Zc ιc Hc pw sc'.sub sc'.zin
    by_cases hlt : i < xs.length
    · have hdrop : xs.drop i = xs[i] :: xs.drop (i + 1) := by simp
      rw [hdrop] at fc
      obtain ⟨go, yl⟩ := rI'.1 i xs[i] (by simp)
      refine .inr ⟨go, fun σ' H' => (i + 1 ≤ xs.length ∧ ∃ Zc ιc ρc stc, Pw Z1 ι1 H1 Zc ιc H' ∧ SS L Zc ιc H' stc ∧ ER L Zc ιc H' σ' ρc ∧ FinS L Ex Zc ιc H' (forLoop F (xs.drop (i + 1)) ρc stc) { D with nx := rdS L Ex C W k D }), fun σ' H' h' => ⟨xs.length - (i + 1), by omega, rfl, h'.1, h'.2⟩, fun x H' y => ?_⟩
      obtain ⟨hH', rx⟩ := yl x H' y
      have pH : Ps Zc ιc Hc Zc ιc H' ∧ SS L Zc ιc H' stc := by
        rcases hH' with rfl | ⟨T, ws, hT, rfl⟩
        · exact ⟨.refl, sc'⟩
        · exact ⟨Ps.new hT, sc'.new hT⟩
      obtain ⟨ps2, ss2⟩ := pH
      have fc2 := FinS.shift fc ps2
      have e2 : forLoop F (xs[i] :: xs.drop (i + 1)) ρc stc = (F xs[i] ρc stc).seq (forLoop F (xs.drop (i + 1))) := by
        simp only [forLoop]
        cases F xs[i] ρc stc <;> rfl
      rw [e2] at fc2
      cases hb' : bindT tc xs[i] ρc with
      | none =>
        have e3 : F xs[i] ρc stc = .stuck := by simp only [F, hb']
        rw [e3] at fc2
        exact (show False from fc2).elim
      | some ρ1 =>
        have e3 : F xs[i] ρc stc = evS C W b ρ1 stc := by simp only [F, hb']
        rw [e3] at fc2
        refine tg_rd (own := none) hx.xo.K tc tg xs[i] x _ _ ρ1 _ hct rx hb' (erc.mono sc' ps2) fun σ2 er2 _ => ⟨Zc, ιc, ρ1, stc, ss2, er2, ?_⟩
        exact fc2.seq.mono (fun σ' H'' ⟨Z', ι', ρ', st', p, a, b, c⟩ => ⟨hlt, Z', ι', ρ', st', (pw.trans (ps2.pw sc'.sub)).trans (p.pw ss2.sub), a, b, c⟩) fun _ _ h => h
    · have e : i = xs.length := by omega
      subst e
      rw [List.drop_length] at fc
      exact .inl ⟨rI'.2, FinS.next (ρ := ρc) fc sc' erc⟩
theorem st_par2 {i j : Nat} {x y : Str} {a b : Expr} {es : CE} {k : CS} {rest : List Stmt} {px py pt pos pt2 : Pos} {kt k2 : Nat} (hx : XSt L n N sc Ex X) (hi : N[i]? = some x) (hj : N[j]? = some y) (hij : i ≠ j) (lx : sc.names.lookup x = some .local) (ly : sc.names.lookup y = some .local)
    (hw : swK sc [.Name x px, .Name y py] [a, b] = some (some [x, y])) (ha : PA X [a, b] (rdL L Ex C es)) (hk : PSs X rest (rdS L Ex C W k)) :
    PSs X (.Assign [.Tuple [.Name x px, .Name y py] kt pt] (.Tuple [a, b] k2 pt2) pos :: rest) (rdS L Ex C W (.par [i, j] es k)) :=
  seqW (ps_par (i := i) (j := j) hx.xo.calm (by rw [hx.xo.nm]; exact hx.xo.nd) (by rw [hx.xo.nm]; exact hi) (by rw [hx.xo.nm]; exact hj) hij (by rw [hx.xo.sc]; exact lx) (by rw [hx.xo.sc]; exact ly) ha (swK_ok hx.kind (by rw [hx.xo.sc]; exact hw)) (by rfl)) hk fun D σ H ⟨Z, ι, ρ, st, ss, er, f⟩ => by
    simp only [evS] at f
    refine ⟨Z, ι, ρ, st, ss, er, f.into fun vs st1 VS Z1 ι1 H1 p1 ss1 r1 f1 => ?_⟩
    match vs, r1, f1 with
    | [], r1, f1 => exact (show False from f1).elim
    | [_], r1, f1 => exact (show False from f1).elim
    | _ :: _ :: _ :: _, r1, f1 => exact (show False from f1).elim
    | [v, w], r1, f1 =>
      obtain ⟨v', w', rfl, rv, rw'⟩ := reps2 r1
      exact ⟨v', w', rfl, Z1, ι1, _, st1, ss1, ((er.mono ss p1).set i rv).set j rw', f1⟩
theorem st_par3 {i j l : Nat} {x y z : Str} {a b c : Expr} {es : CE} {k : CS} {rest : List Stmt} {px py pz pt pos pt2 : Pos} {kt k2 : Nat} (hx : XSt L n N sc Ex X) (hi : N[i]? = some x) (hj : N[j]? = some y) (hl : N[l]? = some z) (hij : i ≠ j) (hil : i ≠ l) (hjl : j ≠ l) (lx : sc.names.lookup x = some .local) (ly : sc.names.lookup y = some .local) (lz : sc.names.lookup z = some .local)
    (hw : swK sc [.Name x px, .Name y py, .Name z pz] [a, b, c] = some (some [x, y, z])) (ha : PA X [a, b, c] (rdL L Ex C es)) (hk : PSs X rest (rdS L Ex C W k)) :
    PSs X (.Assign [.Tuple [.Name x px, .Name y py, .Name z pz] kt pt] (.Tuple [a, b, c] k2 pt2) pos :: rest) (rdS L Ex C W (.par [i, j, l] es k)) :=
  seqW (ps_par3 (i := i) (j := j) (l := l) hx.xo.calm (by rw [hx.xo.nm]; exact hx.xo.nd) (by rw [hx.xo.nm]; exact hi) (by rw [hx.xo.nm]; exact hj) (by rw [hx.xo.nm]; exact hl) hij hil hjl (by rw [hx.xo.sc]; exact lx) (by rw [hx.xo.sc]; exact ly) (by rw [hx.xo.sc]; exact lz) ha (swK_ok hx.kind (by rw [hx.xo.sc]; exact hw)) (by rfl)) hk fun D σ H ⟨Z, ι, ρ, st, ss, er, f⟩ => by
    simp only [evS] at f
    refine ⟨Z, ι, ρ, st, ss, er, f.into fun vs st1 VS Z1 ι1 H1 p1 ss1 r1 f1 => ?_⟩
    match vs, r1, f1 with
    | [], r1, f1 => exact (show False from f1).elim
    | [_], r1, f1 => exact (show False from f1).elim
    | [_, _], r1, f1 => exact (show False from f1).elim
    | _ :: _ :: _ :: _ :: _, r1, f1 => exact (show False from f1).elim
    | [u, v, w], r1, f1 =>
      cases r1 with
      | cons ru r2 =>
        obtain ⟨v', w', rfl, rv, rw'⟩ := reps2 r2
        exact ⟨_, v', w', rfl, Z1, ι1, _, st1, ss1, (((er.mono ss p1).set i ru).set j rv).set l rw', f1⟩
/-- a[i] = v by values -/
def rSet (L : Lk) : TSet := fun o i v H Q => ∃ Z ι st a k w st', SS L Z ι H st ∧ Rep L Z ι H o a ∧ Rep L Z ι H i k ∧ Rep L Z ι H v w ∧ setAt st a k w = some st' ∧ ∀ H', Ps Z ι H Z ι H' → SS L Z ι H' st' → Q H'
theorem set_V : PSet X (rSet L) := by
  intro pins s σ H o i v ov iv u Q I ro ri rv h
  obtain ⟨Z, ι, st, a, k, w, st', ss, ra, rk, rw', hs, q⟩ := h
  cases a with
  | ref m =>
    cases k with
    | int j =>
      simp only [setAt] at hs
      cases hc : st[m]? with
      | none => rw [hc] at hs; cases hs
      | some c =>
        cases c with
        | l xs =>
          rw [hc] at hs
          simp only [Option.map_eq_some_iff] at hs
          obtain ⟨jj, hj, rfl⟩ := hs
          cases ra with
          | ref em =>
            obtain ⟨a2, ea2, us, eh, rs⟩ := ss.cell m _ hc
            rw [em] at ea2
            cases ea2
            obtain ⟨w1, w2⟩ := ss.write em (rs.set rw' jj)
            exact set_list pins s σ H _ _ v ov iv u Q I ro ri rv ⟨_, us, j, jj, rfl, int_of rk, eh, by rw [rs.len]; exact hj, q _ w1 w2⟩
    | _ => simp [setAt] at hs
  | _ => simp [setAt] at hs
def notSlice : Expr → Bool
  | .Slice _ _ _ _ => false
  | _ => true
theorem plain_ix {b : Expr} (h : notSlice b = true) : PlainIx b := by
  cases b <;> first | (intro _ _; rfl) | cases h
theorem st_sub {a i e : Expr} {ca ci ce : CE} {k : CS} {rest : List Stmt} {p pos : Pos} (hx : XSt L n N sc Ex X) (hc : notComp e = true) (hsl : notSlice i = true) (he : PE X e (rdE L Ex C ce)) (ha : PE X a (rdE L Ex C ca)) (hi : PE X i (rdE L Ex C ci)) (hk : PSs X rest (rdS L Ex C W k)) :
    PSs X (.Assign [.Subscript a i p] e pos :: rest) (rdS L Ex C W (.sub ca ci ce k)) :=
  seqW (ps_asg he (pg_sub ha hi (set_V (L := L)) (by intro _; cases i <;> first | rfl | cases hsl)) (sws_no hc) (by cases e <;> rfl) (by rfl)) hk fun D σ H ⟨Z, ι, ρ, st, ss, er, f⟩ => by
    simp only [evS] at f
    refine ⟨Z, ι, ρ, st, ss, er, f.into fun v st1 V Z1 ι1 H1 p1 ss1 r1 f1 => ⟨Z1, ι1, ρ, st1, ss1, er.mono ss p1, f1.into fun x st2 V2 Z2 ι2 H2 p2 ss2 r2 f2 => ⟨Z2, ι2, ρ, st2, ss2, (er.mono ss p1).mono ss1 p2, f2.into fun y st3 V3 Z3 ι3 H3 p3 ss3 r3 f3 => ?_⟩⟩⟩
    cases hs : setAt st3 x y v with
    | none => rw [hs] at f3; exact (show False from f3).elim
    | some st' =>
      rw [hs] at f3
      refine ⟨Z3, ι3, st3, x, y, v, st', ss3, ss2.mono p3 r2, r3, ss2.mono p3 (ss1.mono p2 r1), hs, fun H' p' ss' => ⟨Z3, ι3, ρ, st', ss', (((er.mono ss p1).mono ss1 p2).mono ss2 p3).mono ss3 p', FinS.shift f3 p'⟩⟩
/-- what is known of an own exception class -/
structure ClOk (L : Lk) (C : Addr) : Prop where
  ex : PySem.W.excIn L.K C [.type "ValueError", .type "Exception", .type "BaseException", .type "object"] "ValueError.__new__" = true
  kp : PySem.W.keepIn L.K (.ref C) = true
  sb : PySem.W.subIn L.K (.ref C) (.type "BaseException") = some true
  ty : PySem.W.typeIn L.K (.ref C) = some (.type "type")
theorem st_rais {c j : Nat} {x m : Str} {rest : List Stmt} {p p2 p3 pos : Pos} (hx : XSt L n N sc Ex X) (hc : ClOk L (L.ca c)) (hm : L.mg x = some (.ref (L.ca c))) (hg : glbB sc x = true) (hn : nmOk x = true) :
    PSs X (.Raise (some (.Call (.Name x p) [.Constant (.str m) j p2] [] p3)) none pos :: rest) (rdS L Ex C W (.rais c)) := by
  obtain ⟨h1, h2, h3⟩ := nmOk_of hn
  refine seqW (ps_raise hx.xo.calm hx.xo.tk (pmk_own PySem.F.excBase_ValueError (by rw [hx.xo.K]; exact hc.ex) (by rw [hx.xo.mg]; exact hm) (by rw [hx.xo.K]; exact hc.kp) (raises_own (by rw [hx.xo.K]; exact hc.sb) (by rw [hx.xo.K]; exact hc.ty)) (hx.xo.gl hg) h1)) pss_never fun D σ H ⟨Z, ι, ρ, st, ss, er, f⟩ => ?_
  exact ⟨c, rfl, rfl, f Z ι H .refl ss⟩
end
end Ev
end
section
set_option Elab.async false
set_option linter.all false
set_option maxRecDepth 100000
set_option maxHeartbeats 4000000
namespace Ev
open PySem PySem.Spec PyProof.Rows L2
/-! ### the checker -/
def opOf : CmpOp → Option COp
  | .Eq => some .eq | .NotEq => some .ne | .Lt => some .lt | .LtE => some .le | .Gt => some .gt | .GtE => some .ge | .In => some .inn | .NotIn => some .notin
  | _ => none
def isSet : Expr → Bool
  | .Set _ _ _ => true
  | _ => false
theorem noMark {o : CmpOp} {b : Expr} (h : isSet b = false) : behindInMarks o b = false := by
  cases b <;> first | rfl | cases h
/-- what is walked: the expressions that are evaluated for it -/
def itArgs (G : GN) (k : IK) (sc : Scope) (t e : Expr) : Option (List Expr) := match k with
  | .plain => if isSet e then none else some [e]
  | .range1 => (match e with
    | .Call (.Name x _) [y] [] _ => if decide (x = rngS) && decide (x ∈ G.bn) && glbB sc x && notStar y then some [y] else none
    | _ => none)
  | .range2 => (match e with
    | .Call (.Name x _) [y, z] [] _ => if decide (x = rngS) && decide (x ∈ G.bn) && glbB sc x && notStar y && notStar z then some [y, z] else none
    | _ => none)
  | .zip2 => (match t, e with
    | .Tuple _ _ _, .Call (.Name x _) [y, z] [] _ => if decide (x = zipS) && decide (x ∈ G.bn) && glbB sc x && notStar y && notStar z then some [y, z] else none
    | _, _ => none)
  | .enum => (match t, e with
    | .Tuple _ _ _, .Call (.Name x _) [y] [] _ => if decide (x = enuS) && decide (x ∈ G.bn) && glbB sc x && notStar y then some [y] else none
    | _, _ => none)
def isYes : CE → Bool
  | .yes => true
  | _ => false
theorem isYes_eq {c : CE} (h : isYes c = true) : c = .yes := by
  cases c <;> first | rfl | cases h
mutual
def chkE (G : GN) (N : List Str) : CE → Scope → Expr → Bool
  | .var i, sc, e => match e with
    | .Name x _ => decide (N[i]? = some x) && visB sc x && nmOk x
    | _ => false
  | .cst v, _, e => match e with
    | .Constant c _ _ => cstB v c
    | _ => false
  | .gl v, sc, e => match e with
    | .Name x _ => glbB sc x && nmOk x && glV G v x
    | _ => false
  | .yes, _, _ => false
  | .nil, _, _ => false
  | .cons _ _, _, _ => false
  | .tup es, sc, e => match e with
    | .Tuple l _ _ => chkL G N es sc l
    | _ => false
  | .lst es, sc, e => match e with
    | .List l _ => chkL G N es sc l
    | _ => false
  | .mkl es, sc, e => match e with
    | .List l _ => chkL G N es sc l
    | _ => false
  | .bin o a b, sc, e => match e with
    | .BinOp x p y _ => decide (bop o = p) && chkE G N a sc x && chkE G N b sc y
    | _ => false
  | .mkb o a b, sc, e => match e with
    | .BinOp x p y _ => decide (bop o = p) && chkE G N a sc x && chkE G N b sc y
    | _ => false
  | .neg a, sc, e => match e with
    | .UnaryOp o x _ => decide (o = .USub) && chkE G N a sc x
    | _ => false
  | .not a, sc, e => match e with
    | .UnaryOp o x _ => decide (o = .Not) && chkE G N a sc x
    | _ => false
  | .cmp o a b, sc, e => match e with
    | .Compare x [p] [y] _ => decide (cop o = p) && !isSet y && chkE G N a sc x && chkE G N b sc y
    | _ => false
  | .chain o q a b c, sc, e => match e with
    | .Compare x [p1, p2] [y, z] _ => decide (cop o = p1) && decide (cop q = p2) && !isSet z && chkE G N a sc x && chkE G N b sc y && chkE G N c sc z
    | _ => false
  | .isN a g, sc, e => match e with
    | .Compare x [p] [.Constant .none _ _] _ => decide (p = if g then CmpOp.Is else .IsNot) && chkE G N a sc x
    | _ => false
  | .isB a b g, sc, e => match e with
    | .Compare x [p] [.Constant (.bool b') _ _] _ => decide (b' = b) && decide (p = if g then CmpOp.Is else .IsNot) && chkE G N a sc x
    | _ => false
  | .and a b, sc, e => match e with
    | .BoolOp .And (x :: y :: r) p => chkE G N a sc x && (match r with | [] => chkE G N b sc y | z :: r => chkE G N b sc (.BoolOp .And (y :: z :: r) p))
    | _ => false
  | .or a b, sc, e => match e with
    | .BoolOp .Or (x :: y :: r) p => chkE G N a sc x && (match r with | [] => chkE G N b sc y | z :: r => chkE G N b sc (.BoolOp .Or (y :: z :: r) p))
    | _ => false
  | .ite c a b, sc, e => match e with
    | .IfExp x y z _ => chkE G N c sc x && chkE G N a sc y && chkE G N b sc z
    | _ => false
  | .idx a i, sc, e => match e with
    | .Subscript x y _ => notSlice y && chkE G N a sc x && chkE G N i sc y
    | _ => false
  | .slc a lo hi, sc, e => match e with
    | .Subscript x (.Slice l h none _) _ => chkE G N a sc x && (match l with | none => lo.isNon | some y => !lo.isNon && chkE G N lo sc y) && (match h with | none => hi.isNon | some y => !hi.isNon && chkE G N hi sc y)
    | _ => false
  | .rev a, sc, e => match e with
    | .Subscript x (.Slice none none (some (.UnaryOp .USub (.Constant (.int 1) _ _) _)) _) _ => chkE G N a sc x
    | _ => false
  | .sst a, sc, e => match e with
    | .Call (.Name x _) [.Call (.Name y _) [z] [] _] [] _ => decide (x = srtS) && decide (y = setS) && decide (srtS ∈ G.bn) && decide (setS ∈ G.bn) && glbB sc srtS && glbB sc setS && notStar z && chkE G N a sc z
    | _ => false
  | .lrg t a, sc, e => match e with
    | .Call (.Name x _) [.Call (.Name y _) [z] [] _] [] _ => decide (x = lrgS t) && decide (y = rngS) && decide (lrgS t ∈ G.bn) && decide (rngS ∈ G.bn) && glbB sc (lrgS t) && glbB sc rngS && notStar z && chkE G N a sc z
    | _ => false
  | .ktp a, sc, e => match e with
    | .Call (.Name x _) [y] [] _ => decide (x = bltS .tuple) && decide (x ∈ G.bn) && glbB sc x && notStar y && chkE G N a sc y
    | _ => false
  | .cnt a v, sc, e => match e with
    | .Call (.Attribute (.Name x q) m p) [y] [] p2 => decide (m = cntS) && (p.endLine == p2.line) && notStar y && chkE G N a sc (.Name x q) && chkE G N v sc y
    | _ => false
  | .call f es, sc, e => match e with
    | .Call (.Name x _) l [] _ => decide (G.fn[f]? = some x) && glbB sc x && nmOk x && l.all notStar && !l.isEmpty && chkL G N es sc l
    | _ => false
  | .callv i es, sc, e => match e with
    | .Call (.Name x _) l [] _ => decide (N[i]? = some x) && visB sc x && nmOk x && l.all notStar && !l.isEmpty && chkL G N es sc l
    | _ => false
  | .blt b es, sc, e => match e with
    | .Call (.Name x _) l [] _ => decide (x = bltS b) && decide (x ∈ G.bn) && glbB sc x && l.all notStar && !l.isEmpty && chkL G N es sc l
    | _ => false
  | .mkt b es, sc, e => match e with
    | .Call (.Name x _) l [] _ => decide (b = .list) && decide (x = bltS .list) && decide (x ∈ G.bn) && glbB sc x && l.all notStar && !l.isEmpty && chkL G N es sc l
    | _ => false
  | .isi a t, sc, e => match e with
    | .Call (.Name x _) [y, .Name z _] [] _ => decide (x = isiS) && decide (z = tyS t) && decide (x ∈ G.bn) && decide (z ∈ G.bn) && glbB sc x && glbB sc z && notStar y && chkE G N a sc y
    | _ => false
  | .app a v, sc, e => match e with
    | .Call (.Attribute (.Name x q) m p) [y] [] p2 => decide (m = appS) && (p.endLine == p2.line) && notStar y && chkE G N a sc (.Name x q) && chkE G N v sc y
    | _ => false
  | .lc k it tg own cd ce, sc, e => match e with
    | .ListComp elt [⟨t, iter, ifs, as⟩] scope _ => decide (as = 0) && blkC N sc scope (ownP N own) && ownB N scope own && chkT N (relS scope sc) (some own) tg t && (match itArgs G k sc t iter with | some l => chkL G N it sc l | none => false) &&
        (match ifs with | [] => isYes cd | [c] => chkE G N cd (relS scope sc) c | _ => false) && chkE G N ce (relS scope sc) elt
    | _ => false
  | .mkc k it tg own cd ce, sc, e => match e with
    | .ListComp elt [⟨t, iter, ifs, as⟩] scope _ => decide (as = 0) && blkC N sc scope (ownP N own) && ownB N scope own && chkT N (relS scope sc) (some own) tg t && (match itArgs G k sc t iter with | some l => chkL G N it sc l | none => false) &&
        (match ifs with | [] => isYes cd | [c] => chkE G N cd (relS scope sc) c | _ => false) && chkE G N ce (relS scope sc) elt
    | _ => false
def chkL (G : GN) (N : List Str) : CE → Scope → List Expr → Bool
  | .nil, _, l => l.isEmpty
  | .cons c cs, sc, l => match l with
    | [] => false
    | e :: es => notStar e && chkE G N c sc e && chkL G N cs sc es
  | _, _, _ => false
end
def chkS (G : GN) (N : List Str) (sc : Scope) : CS → List Stmt → Bool
  | .done, l => l.isEmpty
  | .asg i c k, l => match l with
    | .Assign [.Name x p] e _ :: r => decide (N[i]? = some x) && locB sc x && chkE G N c sc e && chkS G N sc k r && (match e with
      | .ListComp _ _ scope p2 => (match c with | .lc _ _ _ _ _ _ => true | .mkc _ _ _ _ _ _ => true | _ => false)
      | _ => notComp e)
    | _ => false
  | .asgT tg c k, l => match l with
    | .Assign [t] e _ :: r => chkT N sc none tg t && notComp e && chkE G N c sc e && chkS G N sc k r && (match t, e with
      | .Tuple ts _ _, .Tuple vs _ _ => decide (swK sc ts vs = some none)
      | .Tuple _ _ _, .List _ _ => false
      | .Tuple _ _ _, _ => true
      | _, _ => false)
    | _ => false
  | .par is es k, l => match l with
    | .Assign [.Tuple ts _ _] (.Tuple vs _ _) _ :: r => chkL G N es sc vs && chkS G N sc k r && (match is, ts, vs with
      | [i, j], [.Name x px, .Name y py], [a, b] => decide (N[i]? = some x) && decide (N[j]? = some y) && decide (i ≠ j) && decide (sc.names.lookup x = some .local) && decide (sc.names.lookup y = some .local) && decide (swK sc [.Name x px, .Name y py] [a, b] = some (some [x, y]))
      | [i, j, m], [.Name x px, .Name y py, .Name z pz], [a, b, c] => decide (N[i]? = some x) && decide (N[j]? = some y) && decide (N[m]? = some z) && decide (i ≠ j) && decide (i ≠ m) && decide (j ≠ m) && decide (sc.names.lookup x = some .local) && decide (sc.names.lookup y = some .local) && decide (sc.names.lookup z = some .local) &&
          decide (swK sc [.Name x px, .Name y py, .Name z pz] [a, b, c] = some (some [x, y, z]))
      | _, _, _ => false)
    | _ => false
  | .sub a i c k, l => match l with
    | .Assign [.Subscript x y _] e _ :: r => notComp e && notSlice y && chkE G N c sc e && chkE G N a sc x && chkE G N i sc y && chkS G N sc k r
    | _ => false
  | .expr c k, l => match l with
    | .Expr e _ :: r => notComp e && chkE G N c sc e && chkS G N sc k r
    | _ => false
  | .ifs c t f k, l => match l with
    | .If e a b _ :: r => chkE G N c sc e && chkS G N sc t a && chkS G N sc f b && chkS G N sc k r
    | _ => false
  | .for_ tg ik it b k, l => match l with
    | .For t e body [] _ :: r => chkT N sc none tg t && (match itArgs G ik sc t e with | some l => chkL G N it sc l | none => false) && chkS G N sc b body && chkS G N sc k r
    | _ => false
  | .whil c b k, l => match l with
    | .While e body [] _ :: r => chkE G N c sc e && chkS G N sc b body && chkS G N sc k r
    | _ => false
  | .ret c, l => match l with
    | .Return (some e) _ :: _ => chkE G N c sc e
    | _ => false
  | .retN, l => match l with
    | .Return none _ :: _ => true
    | _ => false
  | .rais c, l => match l with
    | .Raise (some (.Call (.Name x _) [.Constant (.str _) _ _] [] _)) none _ :: _ => decide (G.cl[c]? = some x) && glbB sc x && nmOk x
    | _ => false
end Ev
end
section
set_option Elab.async false
set_option linter.all false
set_option maxRecDepth 100000
set_option maxHeartbeats 4000000
namespace Ev
open PySem PySem.Spec PyProof.Rows L2
theorem pw_of {X : Cx} {op : BoolOp} {l : List Expr} {pos : Pos} {t : TT} (h : PT X (.BoolOp op l pos) t) : PW X (.BoolOp op l pos) t := ⟨fun wh pins s σ H Q I q => h.run pins s σ H Q I q⟩
theorem isNon_of {c : CE} (h : c.isNon = true) : c = .cst .non := by
  cases c with
  | cst v => cases v <;> first | rfl | cases h
  | _ => cases h
theorem fs_ok {e : Expr} {env : PySem.Env} (h : isSet e = false) : ∀ x, foldedSetIterable e env x = pure x := by
  cases e <;> first | (intro _; rfl) | cases h
section
variable {L : Lk} {n : Nat} {N : List Str} {T : List Fd} {W : Nat} {G : GN}
theorem both {L : Lk} {X : Cx} {e : Expr} {C : Calls} {Ex : Nat → Hp → Prop} {c : CE} (hK : X.K = L.K) (h : PE X e (rdE L Ex C c)) (he : ∀ whole, isTrue e X.env whole = (do let v ← whole; standAt e.pos; holding [v] (truthy v))) : PE X e (rdE L Ex C c) ∧ PT X e (rdT L Ex C c) := ⟨h, T_of hK h he⟩
def MainE (L : Lk) (n : Nat) (N : List Str) (T : List Fd) (W : Nat) (G : GN) (c : CE) : Prop :=
  (∀ sc Ex X e, XO L n N sc Ex X → chkE G N c sc e = true → PE X e (rdE L Ex (callN T W n) c) ∧ PT X e (rdT L Ex (callN T W n) c)) ∧
  (∀ sc Ex X es, XO L n N sc Ex X → chkL G N c sc es = true → PA X es (rdL L Ex (callN T W n) c)) ∧
  (∀ c', c = .cons c' .nil → ∀ sc Ex X e, XO L n N sc Ex X → chkE G N c' sc e = true → PE X e (rdE L Ex (callN T W n) c'))
theorem noL {c : CE} (h : ∀ sc l, chkL G N c sc l = false) : ∀ sc Ex X es, XO L n N sc Ex X → chkL G N c sc es = true → PA X es (rdL L Ex (callN T W n) c) := fun sc Ex X es _ q => by
  rw [h] at q; cases q
theorem it_ok (hG : GOk L G) {sc : Scope} {Ex : Nat → Hp → Prop} {X : Cx} {k : IK} {t e : Expr} {l : List Expr} {it : CE} (hx : XO L n N sc Ex X) (hi : MainE L n N T W G it) (h : itArgs G k sc t e = some l) (hl : chkL G N it sc l = true) :
    PI X t e (rdI L Ex (callN T W n) k it) ∧ ∀ x, foldedSetIterable e X.env x = pure x := by
  have pa := hi.2.1 sc Ex X l hx hl
  cases k with
  | plain =>
    simp only [itArgs] at h
    split at h
    · cases h
    · rename_i hs
      cases h
      cases it with
      | cons c cs =>
        cases cs with
        | nil =>
          simp only [chkL, Bool.and_eq_true] at hl
          have pe := hi.2.2 c rfl sc Ex X e hx hl.1.2
          have hs' : isSet e = false := by simpa using hs
          exact ⟨i_plain hx pe, fs_ok hs'⟩
        | _ => simp [chkL] at hl
      | _ => simp [chkL] at hl
  | range1 =>
    simp only [itArgs] at h
    split at h
    · rename_i x p y pos
      split at h
      · rename_i hc
        cases h
        simp only [Bool.and_eq_true, decide_eq_true_eq] at hc
        obtain ⟨⟨⟨rfl, h2⟩, h3⟩, h4⟩ := hc
        exact ⟨i_range1 hx hG h2 h3 h4 pa, fs_ok rfl⟩
      · cases h
    · cases h
  | range2 =>
    simp only [itArgs] at h
    split at h
    · rename_i x p y z pos
      split at h
      · rename_i hc
        cases h
        simp only [Bool.and_eq_true, decide_eq_true_eq] at hc
        obtain ⟨⟨⟨⟨rfl, h2⟩, h3⟩, h4⟩, h5⟩ := hc
        exact ⟨i_range2 hx hG h2 h3 h4 h5 pa, fs_ok rfl⟩
      · cases h
    · cases h
  | zip2 =>
    simp only [itArgs] at h
    split at h
    · rename_i x p y z pos
      split at h
      · rename_i hc
        cases h
        simp only [Bool.and_eq_true, decide_eq_true_eq] at hc
        obtain ⟨⟨⟨⟨rfl, h2⟩, h3⟩, h4⟩, h5⟩ := hc
        exact ⟨i_zip2 hx hG h2 h3 h4 h5 pa, fs_ok rfl⟩
      · cases h
    · cases h
  | enum =>
    simp only [itArgs] at h
    split at h
    · rename_i x p y pos
      split at h
      · rename_i hc
        cases h
        simp only [Bool.and_eq_true, decide_eq_true_eq] at hc
        obtain ⟨⟨⟨rfl, h2⟩, h3⟩, h4⟩ := hc
        exact ⟨i_enum hx hG h2 h3 h4 pa, fs_ok rfl⟩
      · cases h
    · cases h
theorem noE {c : CE} (h : ∀ sc e, chkE G N c sc e = false) : ∀ sc Ex X e, XO L n N sc Ex X → chkE G N c sc e = true → PE X e (rdE L Ex (callN T W n) c) ∧ PT X e (rdT L Ex (callN T W n) c) := fun sc Ex X e _ q => by
  rw [h] at q; cases q
theorem lc_ok (hG : GOk L G) {sc : Scope} {Ex : Nat → Hp → Prop} {X : Cx} {k : IK} {elt t iter : Expr} {ifs : List Expr} {as : Int} {scope : Scope} {it cd ce : CE} {tg : Tg} {own : List Nat} (hx : XO L n N sc Ex X) (hi : MainE L n N T W G it) (hd : MainE L n N T W G cd) (he : MainE L n N T W G ce)
    (h : (decide (as = 0) && blkC N sc scope (ownP N own) && ownB N scope own && chkT N (relS scope sc) (some own) tg t && (match itArgs G k sc t iter with | some l => chkL G N it sc l | none => false) &&
        (match ifs with | [] => isYes cd | [c] => chkE G N cd (relS scope sc) c | _ => false) && chkE G N ce (relS scope sc) elt) = true) :
    as = 0 ∧ LcOk L N sc Ex (callN T W n) X elt t iter ifs scope k it tg own cd ce := by
  simp only [Bool.and_eq_true, decide_eq_true_eq] at h
  obtain ⟨⟨⟨⟨⟨⟨h1, h2⟩, h3⟩, h4⟩, h5⟩, h6⟩, h7⟩ := h
  cases ha : itArgs G k sc t iter with
  | none => rw [ha] at h5; cases h5
  | some l =>
    rw [ha] at h5
    obtain ⟨p1, p2⟩ := it_ok hG hx hi ha h5
    refine ⟨h1, p1, h2, h3, h4, fun s H A cl fp => ?_, fun s H A cl fp => (he.1 _ _ _ _ (xo_blk hx scope s H A cl fp) h7).1, p2⟩
    split at h6
    · rw [isYes_eq h6]; exact pts_yes
    · exact pts_one (hd.1 _ _ _ _ (xo_blk hx scope s H A cl fp) h6).2
    · cases h6
theorem main_E (hG : GOk L G) (hF : FOk L T W n) : ∀ c : CE, MainE L n N T W G c := by
  intro c
  induction c with
  | var i =>
    refine ⟨fun sc Ex X e hx h => ?_, noL fun _ _ => rfl, fun _ h => nomatch h⟩
    simp only [chkE] at h
    split at h
    · simp only [Bool.and_eq_true, decide_eq_true_eq] at h
      exact both hx.K (s_var (C := callN T W n) hx h.1.1 h.1.2 h.2) fun _ => rfl
    · cases h
  | cst v =>
    refine ⟨fun sc Ex X e hx h => ?_, noL fun _ _ => rfl, fun _ h => nomatch h⟩
    simp only [chkE] at h
    split at h
    · exact both hx.K (s_cst (L := L) (Ex := Ex) (X := X) (C := callN T W n) h) fun _ => rfl
    · cases h
  | gl v =>
    refine ⟨fun sc Ex X e hx h => ?_, noL fun _ _ => rfl, fun _ h => nomatch h⟩
    simp only [chkE] at h
    split at h
    · simp only [Bool.and_eq_true] at h
      exact both hx.K (s_gl (C := callN T W n) hx hG h.1.1 h.1.2 h.2) fun _ => rfl
    · cases h
  | yes => exact ⟨noE fun _ _ => rfl, noL fun _ _ => rfl, fun _ h => nomatch h⟩
  | nil =>
    refine ⟨noE fun _ _ => rfl, fun sc Ex X es hx h => ?_, fun _ h => nomatch h⟩
    simp only [chkL, List.isEmpty_iff] at h
    subst h
    exact s_nil
  | cons c cs ih1 ih2 =>
    refine ⟨noE fun _ _ => rfl, fun sc Ex X es hx h => ?_, fun c' e sc Ex X ex hx h => ?_⟩
    · cases es with
      | nil => simp [chkL] at h
      | cons e es =>
        simp only [chkL, Bool.and_eq_true] at h
        exact s_cons h.1.1 (ih1.1 sc Ex X e hx h.1.2).1 (ih2.2.1 sc Ex X es hx h.2)
    · cases e
      exact (ih1.1 sc Ex X ex hx h).1
  | tup es ih =>
    refine ⟨fun sc Ex X e hx h => ?_, noL fun _ _ => rfl, fun _ h => nomatch h⟩
    simp only [chkE] at h
    split at h
    · exact both hx.K (s_tup (ih.2.1 sc Ex X _ hx h)) fun _ => rfl
    · cases h
  | lst es ih =>
    refine ⟨fun sc Ex X e hx h => ?_, noL fun _ _ => rfl, fun _ h => nomatch h⟩
    simp only [chkE] at h
    split at h
    · exact both hx.K (s_lst (ih.2.1 sc Ex X _ hx h)) fun _ => rfl
    · cases h
  | mkl es ih =>
    refine ⟨fun sc Ex X e hx h => ?_, noL fun _ _ => rfl, fun _ h => nomatch h⟩
    simp only [chkE] at h
    split at h
    · exact both hx.K (s_mkl (ih.2.1 sc Ex X _ hx h)) fun _ => rfl
    · cases h
  | bin o a b ih1 ih2 =>
    refine ⟨fun sc Ex X e hx h => ?_, noL fun _ _ => rfl, fun _ h => nomatch h⟩
    simp only [chkE] at h
    split at h
    · simp only [Bool.and_eq_true, decide_eq_true_eq] at h
      obtain ⟨⟨rfl, h1⟩, h2⟩ := h
      exact both hx.K (s_bin (o := o) hx (ih1.1 sc Ex X _ hx h1).1 (ih2.1 sc Ex X _ hx h2).1) fun _ => rfl
    · cases h
  | mkb o a b ih1 ih2 =>
    refine ⟨fun sc Ex X e hx h => ?_, noL fun _ _ => rfl, fun _ h => nomatch h⟩
    simp only [chkE] at h
    split at h
    · simp only [Bool.and_eq_true, decide_eq_true_eq] at h
      obtain ⟨⟨rfl, h1⟩, h2⟩ := h
      exact both hx.K (s_mkb (o := o) hx (ih1.1 sc Ex X _ hx h1).1 (ih2.1 sc Ex X _ hx h2).1) fun _ => rfl
    · cases h
  | neg a ih =>
    refine ⟨fun sc Ex X e hx h => ?_, noL fun _ _ => rfl, fun _ h => nomatch h⟩
    simp only [chkE] at h
    split at h
    · simp only [Bool.and_eq_true, decide_eq_true_eq] at h
      obtain ⟨rfl, h1⟩ := h
      exact both hx.K (s_neg (ih.1 sc Ex X _ hx h1).1) fun _ => rfl
    · cases h
  | not a ih =>
    refine ⟨fun sc Ex X e hx h => ?_, noL fun _ _ => rfl, fun _ h => nomatch h⟩
    simp only [chkE] at h
    split at h
    · simp only [Bool.and_eq_true, decide_eq_true_eq] at h
      obtain ⟨rfl, h1⟩ := h
      exact ⟨s_not hx (ih.1 sc Ex X _ hx h1).1, t_not (ih.1 sc Ex X _ hx h1).2⟩
    · cases h
  | cmp o a b ih1 ih2 =>
    refine ⟨fun sc Ex X e hx h => ?_, noL fun _ _ => rfl, fun _ h => nomatch h⟩
    simp only [chkE] at h
    split at h
    · simp only [Bool.and_eq_true, decide_eq_true_eq, Bool.not_eq_true'] at h
      obtain ⟨⟨⟨rfl, h0⟩, h1⟩, h2⟩ := h
      exact ⟨s_cmp hx (noMark h0) (ih1.1 sc Ex X _ hx h1).1 (ih2.1 sc Ex X _ hx h2).1, t_cmp hx (noMark h0) (ih1.1 sc Ex X _ hx h1).1 (ih2.1 sc Ex X _ hx h2).1⟩
    · cases h
  | chain o q a b c ih1 ih2 ih3 =>
    refine ⟨fun sc Ex X e hx h => ?_, noL fun _ _ => rfl, fun _ h => nomatch h⟩
    simp only [chkE] at h
    split at h
    · simp only [Bool.and_eq_true, decide_eq_true_eq, Bool.not_eq_true'] at h
      obtain ⟨⟨⟨⟨⟨rfl, rfl⟩, h0⟩, h1⟩, h2⟩, h3⟩ := h
      exact ⟨s_chain hx (noMark h0) (ih1.1 sc Ex X _ hx h1).1 (ih2.1 sc Ex X _ hx h2).1 (ih3.1 sc Ex X _ hx h3).1, t_chain hx (noMark h0) (ih1.1 sc Ex X _ hx h1).1 (ih2.1 sc Ex X _ hx h2).1 (ih3.1 sc Ex X _ hx h3).1⟩
    · cases h
  | isN a g ih =>
    refine ⟨fun sc Ex X e hx h => ?_, noL fun _ _ => rfl, fun _ h => nomatch h⟩
    simp only [chkE] at h
    split at h
    · simp only [Bool.and_eq_true, decide_eq_true_eq] at h
      obtain ⟨rfl, h1⟩ := h
      exact ⟨s_isN (ih.1 sc Ex X _ hx h1).1, t_isN (ih.1 sc Ex X _ hx h1).1⟩
    · cases h
  | isB a b g ih =>
    refine ⟨fun sc Ex X e hx h => ?_, noL fun _ _ => rfl, fun _ h => nomatch h⟩
    simp only [chkE] at h
    split at h
    · simp only [Bool.and_eq_true, decide_eq_true_eq] at h
      obtain ⟨⟨rfl, rfl⟩, h1⟩ := h
      exact ⟨s_isB (ih.1 sc Ex X _ hx h1).1, t_isB (ih.1 sc Ex X _ hx h1).1⟩
    · cases h
  | and a b ih1 ih2 =>
    refine ⟨fun sc Ex X e hx h => ?_, noL fun _ _ => rfl, fun _ h => nomatch h⟩
    simp only [chkE] at h
    split at h
    · simp only [Bool.and_eq_true] at h
      obtain ⟨h1, h2⟩ := h
      split at h2
      · exact ⟨s_and hx (ih1.1 sc Ex X _ hx h1).1 (pe_one (ih2.1 sc Ex X _ hx h2).1), (t_and1 (ih1.1 sc Ex X _ hx h1).2 (pw_and1 (ih2.1 sc Ex X _ hx h2).2)).pt⟩
      · exact ⟨s_and hx (ih1.1 sc Ex X _ hx h1).1 (ih2.1 sc Ex X _ hx h2).1, (t_and1 (ih1.1 sc Ex X _ hx h1).2 (pw_of (ih2.1 sc Ex X _ hx h2).2)).pt⟩
    · cases h
  | or a b ih1 ih2 =>
    refine ⟨fun sc Ex X e hx h => ?_, noL fun _ _ => rfl, fun _ h => nomatch h⟩
    simp only [chkE] at h
    split at h
    · simp only [Bool.and_eq_true] at h
      obtain ⟨h1, h2⟩ := h
      split at h2
      · exact ⟨s_or hx (ih1.1 sc Ex X _ hx h1).1 (pe_one (ih2.1 sc Ex X _ hx h2).1), (t_or1 (ih1.1 sc Ex X _ hx h1).2 (pw_or1 (ih2.1 sc Ex X _ hx h2).2)).pt⟩
      · exact ⟨s_or hx (ih1.1 sc Ex X _ hx h1).1 (ih2.1 sc Ex X _ hx h2).1, (t_or1 (ih1.1 sc Ex X _ hx h1).2 (pw_of (ih2.1 sc Ex X _ hx h2).2)).pt⟩
    · cases h
  | ite c a b ih0 ih1 ih2 =>
    refine ⟨fun sc Ex X e hx h => ?_, noL fun _ _ => rfl, fun _ h => nomatch h⟩
    simp only [chkE] at h
    split at h
    · simp only [Bool.and_eq_true] at h
      obtain ⟨⟨h0, h1⟩, h2⟩ := h
      exact ⟨s_ite (ih0.1 sc Ex X _ hx h0).2 (ih1.1 sc Ex X _ hx h1).1 (ih2.1 sc Ex X _ hx h2).1, t_ite (ih0.1 sc Ex X _ hx h0).2 (ih1.1 sc Ex X _ hx h1).2 (ih2.1 sc Ex X _ hx h2).2⟩
    · cases h
  | idx a i ih1 ih2 =>
    refine ⟨fun sc Ex X e hx h => ?_, noL fun _ _ => rfl, fun _ h => nomatch h⟩
    simp only [chkE] at h
    split at h
    · simp only [Bool.and_eq_true] at h
      exact both hx.K (s_idx hx (plain_ix h.1.1) (ih1.1 sc Ex X _ hx h.1.2).1 (ih2.1 sc Ex X _ hx h.2).1) fun _ => rfl
    · cases h
  | slc a lo hi ih1 ih2 ih3 =>
    refine ⟨fun sc Ex X e hx h => ?_, noL fun _ _ => rfl, fun _ h => nomatch h⟩
    simp only [chkE] at h
    split at h
    · rename_i x l hh p2 pos
      simp only [Bool.and_eq_true] at h
      obtain ⟨⟨h1, h2⟩, h3⟩ := h
      have q2 : PO X l (rdP L Ex (callN T W n) lo) := by
        cases l with
        | none => rw [isNon_of h2]; exact p_none
        | some y =>
          simp only [Bool.and_eq_true, Bool.not_eq_true'] at h2
          exact p_some h2.1 (ih2.1 sc Ex X _ hx h2.2).1
      have q3 : PO X hh (rdP L Ex (callN T W n) hi) := by
        cases hh with
        | none => rw [isNon_of h3]; exact p_none
        | some y =>
          simp only [Bool.and_eq_true, Bool.not_eq_true'] at h3
          exact p_some h3.1 (ih3.1 sc Ex X _ hx h3.2).1
      exact both hx.K (s_slc (p2 := p2) (pos := pos) hx (ih1.1 sc Ex X _ hx h1).1 q2 q3) fun _ => rfl
    · cases h
  | rev a ih =>
    refine ⟨fun sc Ex X e hx h => ?_, noL fun _ _ => rfl, fun _ h => nomatch h⟩
    simp only [chkE] at h
    split at h
    · exact both hx.K (s_rev hx (ih.1 sc Ex X _ hx h).1) fun _ => rfl
    · cases h
  | sst a ih =>
    refine ⟨fun sc Ex X e hx h => ?_, noL fun _ _ => rfl, fun _ h => nomatch h⟩
    simp only [chkE] at h
    split at h
    · simp only [Bool.and_eq_true, decide_eq_true_eq] at h
      obtain ⟨⟨⟨⟨⟨⟨⟨rfl, rfl⟩, h3⟩, h4⟩, h5⟩, h6⟩, h7⟩, h8⟩ := h
      exact both hx.K (s_sst hx hG h3 h4 h5 h6 h7 (ih.1 sc Ex X _ hx h8).1) fun _ => rfl
    · cases h
  | lrg t a ih =>
    refine ⟨fun sc Ex X e hx h => ?_, noL fun _ _ => rfl, fun _ h => nomatch h⟩
    simp only [chkE] at h
    split at h
    · simp only [Bool.and_eq_true, decide_eq_true_eq] at h
      obtain ⟨⟨⟨⟨⟨⟨⟨rfl, rfl⟩, h3⟩, h4⟩, h5⟩, h6⟩, h7⟩, h8⟩ := h
      exact both hx.K (s_lrg hx hG h3 h4 h5 h6 h7 (ih.1 sc Ex X _ hx h8).1) fun _ => rfl
    · cases h
  | call f es ih =>
    refine ⟨fun sc Ex X e hx h => ?_, noL fun _ _ => rfl, fun _ h => nomatch h⟩
    simp only [chkE] at h
    split at h
    · simp only [Bool.and_eq_true, decide_eq_true_eq, Bool.not_eq_true', List.isEmpty_eq_false_iff] at h
      obtain ⟨⟨⟨⟨⟨h1, h2⟩, h3⟩, h4⟩, h5⟩, h6⟩ := h
      exact both hx.K (s_call hx hG hF h1 h2 h3 h4 h5 (ih.2.1 sc Ex X _ hx h6)) fun _ => rfl
    · cases h
  | callv i es ih =>
    refine ⟨fun sc Ex X e hx h => ?_, noL fun _ _ => rfl, fun _ h => nomatch h⟩
    simp only [chkE] at h
    split at h
    · simp only [Bool.and_eq_true, decide_eq_true_eq, Bool.not_eq_true', List.isEmpty_eq_false_iff] at h
      obtain ⟨⟨⟨⟨⟨h1, h2⟩, h3⟩, h4⟩, h5⟩, h6⟩ := h
      exact both hx.K (s_callv hx hF h1 h2 h3 h4 h5 (ih.2.1 sc Ex X _ hx h6)) fun _ => rfl
    · cases h
  | blt b es ih =>
    refine ⟨fun sc Ex X e hx h => ?_, noL fun _ _ => rfl, fun _ h => nomatch h⟩
    simp only [chkE] at h
    split at h
    · simp only [Bool.and_eq_true, decide_eq_true_eq, Bool.not_eq_true', List.isEmpty_eq_false_iff] at h
      obtain ⟨⟨⟨⟨⟨rfl, h2⟩, h3⟩, h4⟩, h5⟩, h6⟩ := h
      exact both hx.K (s_blt hx hG h2 h3 h4 h5 (ih.2.1 sc Ex X _ hx h6)) fun _ => rfl
    · cases h
  | mkt b es ih =>
    refine ⟨fun sc Ex X e hx h => ?_, noL fun _ _ => rfl, fun _ h => nomatch h⟩
    simp only [chkE] at h
    split at h
    · simp only [Bool.and_eq_true, decide_eq_true_eq, Bool.not_eq_true', List.isEmpty_eq_false_iff] at h
      obtain ⟨⟨⟨⟨⟨⟨rfl, rfl⟩, h2⟩, h3⟩, h4⟩, h5⟩, h6⟩ := h
      exact both hx.K (s_mkt hx hG h2 h3 h4 h5 (ih.2.1 sc Ex X _ hx h6)) fun _ => rfl
    · cases h
  | isi a t ih =>
    refine ⟨fun sc Ex X e hx h => ?_, noL fun _ _ => rfl, fun _ h => nomatch h⟩
    simp only [chkE] at h
    split at h
    · simp only [Bool.and_eq_true, decide_eq_true_eq] at h
      obtain ⟨⟨⟨⟨⟨⟨⟨rfl, rfl⟩, h1⟩, h2⟩, h3⟩, h4⟩, h5⟩, h6⟩ := h
      exact both hx.K (s_isi hx hG h1 h2 h3 h4 h5 (ih.1 sc Ex X _ hx h6).1) fun _ => rfl
    · cases h
  | ktp a ih =>
    refine ⟨fun sc Ex X e hx h => ?_, noL fun _ _ => rfl, fun _ h => nomatch h⟩
    simp only [chkE] at h
    split at h
    · simp only [Bool.and_eq_true, decide_eq_true_eq] at h
      obtain ⟨⟨⟨⟨rfl, h3⟩, h4⟩, h5⟩, h6⟩ := h
      exact both hx.K (s_ktp hx hG h3 h4 h5 (ih.1 sc Ex X _ hx h6).1) fun _ => rfl
    · cases h
  | cnt a v ih1 ih2 =>
    refine ⟨fun sc Ex X e hx h => ?_, noL fun _ _ => rfl, fun _ h => nomatch h⟩
    simp only [chkE] at h
    split at h
    · simp only [Bool.and_eq_true, decide_eq_true_eq] at h
      obtain ⟨⟨⟨⟨rfl, h1⟩, h2⟩, h3⟩, h4⟩ := h
      exact both hx.K (s_cnt hx h2 h1 (ih1.1 sc Ex X _ hx h3).1 (ih2.1 sc Ex X _ hx h4).1) fun _ => rfl
    · cases h
  | app a v ih1 ih2 =>
    refine ⟨fun sc Ex X e hx h => ?_, noL fun _ _ => rfl, fun _ h => nomatch h⟩
    simp only [chkE] at h
    split at h
    · simp only [Bool.and_eq_true, decide_eq_true_eq] at h
      obtain ⟨⟨⟨⟨rfl, h1⟩, h2⟩, h3⟩, h4⟩ := h
      exact both hx.K (s_app hx h2 h1 (ih1.1 sc Ex X _ hx h3).1 (ih2.1 sc Ex X _ hx h4).1) fun _ => rfl
    · cases h
  | lc k it tg own cd ce ih1 ih2 ih3 =>
    refine ⟨fun sc Ex X e hx h => ?_, noL fun _ _ => rfl, fun _ h => nomatch h⟩
    simp only [chkE] at h
    split at h
    · obtain ⟨rfl, l⟩ := lc_ok hG hx ih1 ih2 ih3 h
      exact both hx.K (s_lc hx l) fun _ => rfl
    · cases h
  | mkc k it tg own cd ce ih1 ih2 ih3 =>
    refine ⟨fun sc Ex X e hx h => ?_, noL fun _ _ => rfl, fun _ h => nomatch h⟩
    simp only [chkE] at h
    split at h
    · obtain ⟨rfl, l⟩ := lc_ok hG hx ih1 ih2 ih3 h
      exact both hx.K (s_mkc hx l) fun _ => rfl
    · cases h
end
end Ev
end
section
set_option Elab.async false
set_option linter.all false
set_option maxRecDepth 100000
set_option maxHeartbeats 4000000
namespace Ev
open PySem PySem.Spec PyProof.Rows L2
section
variable {L : Lk} {n : Nat} {N : List Str} {T : List Fd} {W : Nat} {G : GN}
def ClsOk (L : Lk) (G : GN) : Prop := ∀ c x, G.cl[c]? = some x → L.mg x = some (.ref (L.ca c)) ∧ ClOk L (L.ca c)
theorem main_S (hG : GOk L G) (hC : ClsOk L G) (hF : FOk L T W n) {sc : Scope} {Ex : Nat → Hp → Prop} {X : Cx} (hx : XSt L n N sc Ex X) : ∀ (c : CS) (l : List Stmt), chkS G N sc c l = true → PSs X l (rdS L Ex (callN T W n) W c) := by
  have ME := fun c => (main_E (N := N) hG hF c)
  have hXE : ∀ {c e}, chkE G N c sc e = true → PE X e (rdE L Ex (callN T W n) c) := fun {c e} h => ((ME c).1 sc Ex X e hx.xo h).1
  have hXT : ∀ {c e}, chkE G N c sc e = true → PT X e (rdT L Ex (callN T W n) c) := fun {c e} h => ((ME c).1 sc Ex X e hx.xo h).2
  have hXL : ∀ {c es}, chkL G N c sc es = true → PA X es (rdL L Ex (callN T W n) c) := fun {c es} h => (ME c).2.1 sc Ex X es hx.xo h
  intro c
  induction c with
  | done =>
    intro l h
    simp only [chkS, List.isEmpty_iff] at h
    subst h
    exact st_done
  | asg i c k ih =>
    intro l h
    simp only [chkS] at h
    split at h
    · rename_i x p e pos r
      simp only [Bool.and_eq_true, decide_eq_true_eq] at h
      obtain ⟨⟨⟨⟨h1, h2⟩, h3⟩, h4⟩, h5⟩ := h
      split at h5
      · rename_i elt gs scope p2
        cases hb : swB sc scope x p p2 with
        | false => exact st_asg hx h1 h2 (by rw [sw_eq hx.kind, hx.xo.sc, hb]) (hXE h3) (ih _ h4)
        | true =>
          have hl : sc.names.lookup x = some .local := by
            unfold swB at hb
            simp only [Bool.and_eq_true, decide_eq_true_eq] at hb
            exact hb.1.1
          split at h5
          · simp only [chkE] at h3
            split at h3
            · rename_i heq
              cases heq
              obtain ⟨rfl, l⟩ := lc_ok hG hx.xo (ME _) (ME _) (ME _) h3
              exact st_asgLc (b := false) hx l h1 hl (by rw [sw_eq hx.kind, hx.xo.sc, hb]) (ih _ h4)
            · cases h3
          · simp only [chkE] at h3
            split at h3
            · rename_i heq
              cases heq
              obtain ⟨rfl, l⟩ := lc_ok hG hx.xo (ME _) (ME _) (ME _) h3
              exact st_asgLc (b := true) hx l h1 hl (by rw [sw_eq hx.kind, hx.xo.sc, hb]) (ih _ h4)
            · cases h3
          · cases h5
      · exact st_asg hx h1 h2 (sw_no h5) (hXE h3) (ih _ h4)
    · cases h
  | asgT tg c k ih =>
    intro l h
    simp only [chkS] at h
    split at h
    · rename_i t e pos r
      simp only [Bool.and_eq_true] at h
      obtain ⟨⟨⟨⟨h1, h2⟩, h3⟩, h4⟩, h5⟩ := h
      have go : swappedStores [t] e X.env = pure none → (assignEach [t] X.env).map (·.2) = [assign t X.env] → PSs X (.Assign [t] e pos :: r) (rdS L Ex (callN T W n) W (.asgT tg c k)) := fun a b => st_asgT hx h1 (sws_no h2) a b (hXE h3) (ih _ h4)
      split at h5
      · exact go (swK_ok hx.kind (by rw [hx.xo.sc]; exact of_decide_eq_true h5)) (by rfl)
      · cases h5
      · rename_i n1 n2
        refine go ?_ (by rfl)
        cases e <;> first | rfl | exact (n1 _ _ _ rfl).elim | exact (n2 _ _ rfl).elim | trace_state
      · cases h5
    · cases h
  | par is es k ih =>
    intro l h
    simp only [chkS] at h
    split at h
    · simp only [Bool.and_eq_true] at h
      obtain ⟨⟨h1, h2⟩, h3⟩ := h
      split at h3
      · simp only [Bool.and_eq_true, decide_eq_true_eq] at h3
        obtain ⟨⟨⟨⟨⟨a1, a2⟩, a3⟩, a4⟩, a5⟩, a6⟩ := h3
        exact st_par2 hx a1 a2 a3 a4 a5 a6 (hXL h1) (ih _ h2)
      · simp only [Bool.and_eq_true, decide_eq_true_eq] at h3
        obtain ⟨⟨⟨⟨⟨⟨⟨⟨⟨a1, a2⟩, a3⟩, a4⟩, a5⟩, a6⟩, a7⟩, a8⟩, a9⟩, a10⟩ := h3
        exact st_par3 hx a1 a2 a3 a4 a5 a6 a7 a8 a9 a10 (hXL h1) (ih _ h2)
      · cases h3
    · cases h
  | sub a i c k ih =>
    intro l h
    simp only [chkS] at h
    split at h
    · simp only [Bool.and_eq_true] at h
      obtain ⟨⟨⟨⟨⟨h1, h2⟩, h3⟩, h4⟩, h5⟩, h6⟩ := h
      exact st_sub hx h1 h2 (hXE h3) (hXE h4) (hXE h5) (ih _ h6)
    · cases h
  | expr c k ih =>
    intro l h
    simp only [chkS] at h
    split at h
    · simp only [Bool.and_eq_true] at h
      exact st_expr h.1.1 (hXE h.1.2) (ih _ h.2)
    · cases h
  | ifs c t f k ih1 ih2 ih3 =>
    intro l h
    simp only [chkS] at h
    split at h
    · simp only [Bool.and_eq_true] at h
      obtain ⟨⟨⟨h1, h2⟩, h3⟩, h4⟩ := h
      exact st_if (hXT h1) (ih1 _ h2) (ih2 _ h3) (ih3 _ h4)
    · cases h
  | for_ tg ik it b k ih1 ih2 =>
    intro l h
    simp only [chkS] at h
    split at h
    · rename_i t e body pos r
      simp only [Bool.and_eq_true] at h
      obtain ⟨⟨⟨h1, h2⟩, h3⟩, h4⟩ := h
      cases ha : itArgs G ik sc t e with
      | none => rw [ha] at h2; cases h2
      | some l =>
        rw [ha] at h2
        obtain ⟨p1, p2⟩ := it_ok hG hx.xo (ME it) ha h2
        exact st_for hx h1 p1 p2 (ih1 _ h3) (ih2 _ h4)
    · cases h
  | whil c b k ih1 ih2 =>
    intro l h
    simp only [chkS] at h
    split at h
    · simp only [Bool.and_eq_true] at h
      obtain ⟨⟨h1, h2⟩, h3⟩ := h
      exact st_while hx (hXT h1) (ih1 _ h2) (ih2 _ h3)
    · cases h
  | ret c =>
    intro l h
    simp only [chkS] at h
    split at h
    · exact st_ret (hXE h)
    · cases h
  | retN =>
    intro l h
    simp only [chkS] at h
    split at h
    · exact st_retN
    · cases h
  | rais c =>
    intro l h
    simp only [chkS] at h
    split at h
    · simp only [Bool.and_eq_true, decide_eq_true_eq] at h
      obtain ⟨⟨h1, h2⟩, h3⟩ := h
      exact st_rais hx (hC _ _ h1).2 (hC _ _ h1).1 h2 h3
    · cases h
end
end Ev
end
section
set_option Elab.async false
set_option linter.all false
set_option maxRecDepth 100000
set_option maxHeartbeats 4000000
namespace Ev
open PySem PySem.Spec PyProof.Rows L2
section
variable {L : Lk} {Z Z' : Addr → Prop} {ι ι' : List Addr} {H H' : Hp} {st st' : Store}
mutual
theorem Rep.flat (hz : ∀ a, Z a → Z' a) : ∀ (v : PV) (V : V), v.flat = true → Rep L Z' ι' H V v → Rep L Z ι H V v
  | .non, _, _, h => by cases h; exact .non
  | .bl _, _, _, h => by cases h; exact .bl _
  | .int _, _, _, h => by cases h; exact .int _
  | .str _, _, _, h => by cases h; exact .str _
  | .fn _, _, _, h => by cases h with | fn _ q => exact .fn _ q
  | .ref _, _, f, _ => by simp [PV.flat] at f
  | .tup xs, _, f, h => by
    cases h with
    | tup hs hr => exact .tup hs (Reps.flat hz xs _ (by simpa [PV.flat] using f) hr)
  | .lst xs, _, f, h => by
    cases h with
    | lst n hs hr => exact .lst (fun z => n (hz _ z)) hs (Reps.flat hz xs _ (by simpa [PV.flat] using f) hr)
  | .frz xs, _, f, h => by
    cases h with
    | frz hs hr => exact .frz hs (Reps.flat hz xs _ (by simpa [PV.flat] using f) hr)
    | frzK hs hr => exact .frzK hs (Reps.flat hz xs _ (by simpa [PV.flat] using f) hr)
  | .ktp xs, _, f, h => by
    cases h with
    | ktp hs hc hd hr => exact .ktp hs hc hd (Reps.flat hz xs _ (by simpa [PV.flat] using f) hr)
theorem Reps.flat (hz : ∀ a, Z a → Z' a) : ∀ (xs : List PV) (vs : List V), flats xs = true → Reps L Z' ι' H vs xs → Reps L Z ι H vs xs
  | [], _, _, h => by cases h; exact .nil
  | x :: xs, _, f, h => by
    simp only [flats, Bool.and_eq_true] at f
    cases h with | cons a b => exact .cons (Rep.flat hz x _ f.1 a) (Reps.flat hz xs _ f.2 b)
end
theorem trunc_ok {st0 : Store} {v : PV} {V : V} (ss0 : SS L Z ι H st0) (p : Ps Z ι H Z' ι' H') (ss : SS L Z' ι' H' st') (r : Rep L Z' ι' H' V v) : ∃ Z2 ι2, Ps Z ι H Z2 ι2 H' ∧ SS L Z2 ι2 H' (trunc st0 v st') ∧ Rep L Z2 ι2 H' V v := by
  unfold trunc
  split
  · exact ⟨Z', ι', p, ss, r⟩
  · split
    · rename_i hf
      simp only [Bool.and_eq_true, List.all_eq_true] at hf
      obtain ⟨m, e, n1, z⟩ := p.ex
      have hz : ∀ a, Z a → Z' a := fun a h => (z a).mpr (.inl h)
      refine ⟨Z, ι, ⟨⟨[], by simp, by simp, by simp⟩, p.ext, p.trk⟩, ⟨?_, ss0.nd, ss0.sub, fun a h => ss.zin a (hz a h), fun n c hc => ?_, ss.tabs⟩, r.flat hz _ _ hf.1⟩
      · have h1 := ss.len
        have h2 := ss0.len
        rw [e] at h1
        simp only [List.length_append] at h1
        simp only [List.length_take]
        omega
      · have hn : n < st0.length := by
          have := (List.getElem?_eq_some_iff.mp hc).1
          simp only [List.length_take] at this
          omega
        rw [List.getElem?_take_of_lt hn] at hc
        obtain ⟨a, ea, cr⟩ := ss.cell n c hc
        rw [e, List.getElem?_append_left (by rw [ss0.len]; exact hn)] at ea
        have fl := hf.2 c (List.mem_of_getElem? hc)
        cases c with
        | l xs =>
          obtain ⟨vs, h1, h2⟩ := cr
          exact ⟨a, ea, vs, h1, h2.flat hz _ _ fl⟩
    · exact ⟨Z', ι', p, ss, r⟩
end
/-- what is known of the f-th def -/
structure FnK (L : Lk) (G : GN) (f : Nat) (d : Fd) : Prop where
  ex : ∃ (x qual : Str) (stm : Stmt) (fd : FuncData) (N ps : List Str), Fun L.K x qual stm (L.fa f) fd ∧ FnScope N ps (defScope stm) ∧ Binds L.K fd ps [] ∧ ps.length = d.np ∧ N.length = d.ns ∧ chkS G N (defScope stm) d.body (defBody stm) = true
theorem er_start {L : Lk} {Z : Addr → Prop} {ι : List Addr} {H : Hp} {N : List Str} {vs : List V} {pvs : List PV} {k : Nat} (r : Reps L Z ι H vs pvs) (hk : k = N.length - vs.length) : ER L Z ι H (L2.start N vs) (pvs.map some ++ List.replicate k none) := by
  subst hk
  refine ⟨by unfold L2.start; simp [r.len], fun i v h => ?_⟩
  by_cases hi : i < pvs.length
  · rw [List.getElem?_append_left (by simpa using hi)] at h
    rw [List.getElem?_map] at h
    obtain ⟨x, hx, e⟩ := Option.map_eq_some_iff.mp h
    cases e
    obtain ⟨V, hV, rV⟩ := r.get hx
    refine ⟨V, ?_, rV⟩
    unfold L2.start
    rw [List.getElem?_append_left (by simpa [r.len] using hi), List.getElem?_map, hV]
    rfl
  · rw [List.getElem?_append_right (by simpa using hi)] at h
    have := List.mem_of_getElem? h
    rw [List.mem_replicate] at this
    cases this.2
theorem fn_step {L : Lk} {G : GN} {T : List Fd} {W n f : Nat} {d : Fd} {x qual : Str} {stm : Stmt} {fd : FuncData} {N ps : List Str} (hG : GOk L G) (hC : ClsOk L G) (ih : FOk L T W n) (hd : T[f]? = some d)
    (F : Fun L.K x qual stm (L.fa f) fd) (S : FnScope N ps (defScope stm)) (e1 : ps.length = d.np) (e2 : N.length = d.ns) (chk : chkS G N (defScope stm) d.body (defBody stm) = true) : FnOk L.P L.w L.K L.mg L.base (L2.CX L.P L.w) (n + 1) (L.fa f) fd ps (spN L T W (n + 1) f) := by
  have step : ∀ {Z ι H st pvs} {Ex : Nat → Hp → Prop} {Q : VK}, SS L Z ι H st → Fin L (relV L) Ex Z ι H (callN T W (n + 1) f pvs st) Q → pvs.length = d.np ∧
      FinS L Ex Z ι H (evS (callN T W n) W d.body (pvs.map some ++ List.replicate (d.ns - d.np) none) st) { nx := fun _ H' => Q .non H', rt := Q } := by
    intro Z ι H st pvs Ex Q ss h
    unfold callN at h
    rw [hd] at h
    simp only at h
    split at h
    · rename_i hl
      refine ⟨hl, ?_⟩
      cases hr : evS (callN T W n) W d.body (pvs.map some ++ List.replicate (d.ns - d.np) none) st with
      | next ρ' st' =>
        rw [hr] at h
        intro σ' Z' ι' H' p ss' _
        obtain ⟨Z2, ι2, p2, s2, r2⟩ := trunc_ok (v := .non) (V := .non) ss p ss' .non
        exact h _ _ _ _ p2 s2 r2
      | ret v st' =>
        rw [hr] at h
        intro V Z' ι' H' p ss' r
        obtain ⟨Z2, ι2, p2, s2, r2⟩ := trunc_ok ss p ss' r
        exact h _ _ _ _ p2 s2 r2
      | exc c st' =>
        rw [hr] at h
        intro Z' ι' H' p ss'
        obtain ⟨Z2, ι2, p2, s2, r2⟩ := trunc_ok (v := .non) (V := .non) ss p ss' .non
        exact h _ _ _ p2 s2
      | stuck => rw [hr] at h; exact h
    · exact (show False from h).elim
  refine F.okX S (fun vs H Q E ⟨Z, ι, st, pvs, ss, r, h⟩ => by rw [r.len, (step ss h).1, e1]) (fun cdv A outer s H vs Q E hr ⟨Z, ι, st, pvs, ss, r, h⟩ => ?_)
  obtain ⟨hl, hfin⟩ := step ss h
  have hx : XSt L n N (defScope stm) (fun c H' => E (.ref (L.ca c)) none H') (cxOf (L2.CX L.P L.w) L.P L.w L.K L.mg L.base N qual (defScope stm) (L.fa f) cdv A outer s H E) :=
    ⟨⟨rfl, rfl, rfl, rfl, rfl, rfl, hr, rfl, S.nd, rfl, (takes_of rfl rfl rfl rfl).imp fun c d _ H h => by
      obtain ⟨c', rfl, rfl, h'⟩ := h
      exact h'⟩, fun _ => rfl, S.kind, passes_of rfl⟩
  refine ⟨_, main_S hG hC ih hx d.body _ chk, Z, ι, _, st, ss, er_start r (k := d.ns - d.np) ?_, hfin⟩
  rw [r.len, hl, e2]
theorem all_ok {L : Lk} {G : GN} {T : List Fd} {W : Nat} (hG : GOk L G) (hC : ClsOk L G) (hT : ∀ f, f < L.nf → ∃ d, T[f]? = some d ∧ FnK L G f d) : ∀ n, FOk L T W n := by
  intro n
  induction n with
  | zero =>
    intro f hf
    obtain ⟨d, hd, x, qual, stm, fd, N, ps, F, S, B, _⟩ := hT f hf
    refine ⟨fd, ps, ⟨fun vs H Q E ⟨_, _, _, _, _, _, h⟩ => (show False from h).elim, fun A outer s H args us vs Q E _ _ _ _ ⟨_, _, _, _, _, _, h⟩ => (show False from h).elim⟩, F.kp, B⟩
  | succ n ih =>
    intro f hf
    obtain ⟨d, hd, x, qual, stm, fd, N, ps, F, S, B, e1, e2, chk⟩ := hT f hf
    exact ⟨fd, ps, fn_step hG hC ih hd F S e1 e2 chk, F.kp, B⟩
end Ev
end
section
set_option Elab.async false
set_option linter.all false
set_option maxRecDepth 100000
set_option maxHeartbeats 4000000
namespace Ev
open PySem PySem.Spec PyProof.Rows L2
/-- a def of the text, and what it is here -/
structure Ent where
  x : Str
  st : Stmt
  N : List Str
  ps : List Str
  d : Fd
def Ent.df (e : Ent) : He.DefD := ⟨(e.x, none), e.x, e.x, defArgs e.st, defBody e.st, defScope e.st, [], []⟩
def scB (N P : List Str) (sc : Scope) : Bool :=
  decide (sc.kind = .function) && !sc.isCoroutine && !sc.isGenerator && decide N.Nodup && decide (N.take P.length = P) && P.all (fun x => decide (sc.names.lookup x = some .local) || decide (sc.names.lookup x = some .cell)) && sc.names.all (fun y => !decide (y.2 = .free))
theorem scB_ok {N P : List Str} {sc : Scope} (h : scB N P sc = true) : FnScope N P sc := by
  unfold scB at h
  simp only [Bool.and_eq_true, Bool.not_eq_true', decide_eq_true_eq, List.all_eq_true, Bool.or_eq_true, decide_eq_false_iff_not] at h
  obtain ⟨⟨⟨⟨⟨⟨h1, h2⟩, h3⟩, h4⟩, h5⟩, h6⟩, h7⟩ := h
  exact ⟨h1, h2, h3, h4, h5, h6, h7⟩
def Ent.ok (G : GN) (e : Ent) : Bool := scB e.N e.ps (defScope e.st) && decide (e.ps.length = e.d.np) && decide (e.N.length = e.d.ns) && chkS G e.N (defScope e.st) e.d.body (defBody e.st)
def Ent.Bd (e : Ent) : Prop := ∀ (kV doc pm : Value) (an : Option Addr) (cdv ct : Value) (us : List Value), us.length = e.ps.length → bindArgs (PySem.W.fnOf e.x e.x (defArgs e.st) (defBody e.st) (defScope e.st) .none kV doc pm an cdv ct) ⟨us, []⟩ = pure (e.ps.zip us)
def AllBd : List Ent → Prop
  | [] => True
  | e :: es => e.Bd ∧ AllBd es
theorem AllBd.mem {es : List Ent} (h : AllBd es) {e : Ent} (m : e ∈ es) : e.Bd := by
  induction es with
  | nil => cases m
  | cons x xs ih =>
    rcases List.mem_cons.mp m with rfl | m
    · exact h.1
    · exact ih h.2 m
def factsOf (es : List Ent) (G : GN) : List He.Fa := es.map (fun e => .glo e.x) ++ (G.cl.map .glo ++ (G.cl.map .exc ++ (G.bn.map .free ++ G.cn.map fun p => .int p.1 p.2)))
def nmAt (l : List Str) (i : Nat) : Str := l.getD i (Str.ofString "")
theorem nmAt_eq {l : List Str} {i : Nat} {x : Str} (h : l[i]? = some x) : nmAt l i = x := by
  unfold nmAt
  rw [List.getD_eq_getElem?_getD, h]
  rfl
def lkOf (P : Program) (w : World) (K : PySem.W.Frag) (mg : Str → Option Value) (base : Heap) (Tb : List (Addr × Str)) (es : List Ent) (G : GN) : Lk := ⟨P, w, K, mg, base, Tb, es.length, fun f => He.ga K (nmAt G.fn f), fun c => He.ga K (nmAt G.cl c)⟩
theorem link {es : List Ent} {G : GN} (hes : es.all (Ent.ok G) = true) (hfn : G.fn = es.map (·.x)) (hb : AllBd es) {P : Program} {w : World} {K : PySem.W.Frag} {mg : Str → Option Value} {base h : Heap} {Tb : List (Addr × Str)}
    (X : K.In h) (Gh : h.Ns mainGlobals mg) (c : He.SaysD (factsOf es G) (es.map Ent.df) K) (W : Nat) : ∀ n, FOk (lkOf P w K mg base Tb es G) (es.map (·.d)) W n ∧
      ∀ f e fd, es[f]? = some e → FunD K e.x e.x (defArgs e.st) (defBody e.st) (defScope e.st) [] [] (He.ga K e.x) fd → FnOk P w K mg base (L2.CX P w) (n + 1) (He.ga K e.x) fd e.ps (spN (lkOf P w K mg base Tb es G) (es.map (·.d)) W (n + 1) f) := by
  have fact : ∀ f, f ∈ factsOf es G → f.ok K = true := fun f hf => by
    obtain ⟨i, hi, e⟩ := List.getElem_of_mem hf
    exact c.fact i (f := f) (by rw [List.getElem?_eq_getElem hi, e])
  have mem : ∀ {f x}, G.fn[f]? = some x → ∃ e : Ent, es[f]? = some e ∧ e.x = x := fun {f x} h => by
    rw [hfn, List.getElem?_map] at h
    obtain ⟨e, h1, h2⟩ := Option.map_eq_some_iff.mp h
    exact ⟨e, h1, h2⟩
  have hG : GOk (lkOf P w K mg base Tb es G) G := by
    refine ⟨fun f x h => ?_, fun x h => ?_, fun x i h => ?_⟩
    · obtain ⟨e, h1, rfl⟩ := mem h
      refine ⟨?_, (List.getElem?_eq_some_iff.mp h1).1⟩
      show mg e.x = some (.ref (He.ga K (nmAt G.fn f)))
      rw [nmAt_eq h]
      exact He.glo_ok X Gh (fact _ (List.mem_append_left _ (List.mem_map.mpr ⟨e, List.mem_of_getElem? h1, rfl⟩)))
    · exact He.free_ok X Gh (fact _ (List.mem_append_right _ (List.mem_append_right _ (List.mem_append_right _ (List.mem_append_left _ (List.mem_map.mpr ⟨x, h, rfl⟩))))))
    · exact He.int_ok X Gh (fact _ (List.mem_append_right _ (List.mem_append_right _ (List.mem_append_right _ (List.mem_append_right _ (List.mem_map.mpr ⟨(x, i), h, rfl⟩))))))
  have hC : ClsOk (lkOf P w K mg base Tb es G) G := fun c x h => by
    have hm := List.mem_of_getElem? h
    show mg x = some (.ref (He.ga K (nmAt G.cl c))) ∧ ClOk _ (He.ga K (nmAt G.cl c))
    rw [nmAt_eq h]
    refine ⟨He.glo_ok X Gh (fact _ (List.mem_append_right _ (List.mem_append_left _ (List.mem_map.mpr ⟨x, hm, rfl⟩)))), ?_⟩
    obtain ⟨a, b, c, d⟩ := He.exc_ok (fact _ (List.mem_append_right _ (List.mem_append_right _ (List.mem_append_left _ (List.mem_map.mpr ⟨x, hm, rfl⟩)))))
    exact ⟨a, b, c, d⟩
  have toF : ∀ {e : Ent} {fd : FuncData}, FunD K e.x e.x (defArgs e.st) (defBody e.st) (defScope e.st) [] [] (He.ga K e.x) fd → Fun K e.x e.x e.st (He.ga K e.x) fd := fun {e fd} F => by
    obtain ⟨oc, od, dV, kV, doc, pm, an, cdv, ct, osl, e1, e2, e3, e4, e5⟩ := F.ex
    rcases e4 with ⟨_, rfl⟩ | ⟨e, _⟩
    · exact ⟨⟨oc, od, kV, doc, pm, an, cdv, ct, osl, e1, e2, e3⟩, F.kp⟩
    · exact absurd rfl e
  have oks : ∀ {e : Ent}, e ∈ es → FnScope e.N e.ps (defScope e.st) ∧ e.ps.length = e.d.np ∧ e.N.length = e.d.ns ∧ chkS G e.N (defScope e.st) e.d.body (defBody e.st) = true := fun {e} m => by
    have ok := List.all_eq_true.mp hes e m
    unfold Ent.ok at ok
    simp only [Bool.and_eq_true, decide_eq_true_eq] at ok
    obtain ⟨⟨⟨o1, o2⟩, o3⟩, o4⟩ := ok
    exact ⟨scB_ok o1, o2, o3, o4⟩
  have efa : ∀ {f e}, es[f]? = some e → (lkOf P w K mg base Tb es G).fa f = He.ga K e.x := fun {f e} h => by
    show He.ga K (nmAt G.fn f) = _
    rw [nmAt_eq (x := e.x) (by rw [hfn, List.getElem?_map, h]; rfl)]
  have A := all_ok (W := W) (T := es.map (·.d)) hG hC fun f hf => by
    have hf' : f < es.length := hf
    have hg := List.getElem?_eq_getElem hf'
    obtain ⟨fd, F⟩ := c.def_ f (d := es[f].df) (by rw [List.getElem?_map, hg]; rfl)
    refine ⟨es[f].d, by rw [List.getElem?_map, hg]; rfl, ?_⟩
    obtain ⟨o1, o2, o3, o4⟩ := oks (List.getElem_mem hf')
    have FF := toF F
    rw [← efa hg] at FF
    exact ⟨_, _, _, _, _, _, FF, o1, FF.binds (hb.mem (List.getElem_mem hf')), o2, o3, o4⟩
  intro n
  refine ⟨A n, fun f e fd he F => ?_⟩
  obtain ⟨o1, o2, o3, o4⟩ := oks (List.mem_of_getElem? he)
  have FF := toF F
  rw [← efa he] at FF
  have z := fn_step hG hC (A n) (f := f) (d := e.d) (by rw [List.getElem?_map, he]; rfl) FF o1 o2 o3 o4
  rw [efa he] at z
  exact z
/-- the end of a law without tables -/
theorem law_at {es : List Ent} {G : GN} (hes : es.all (Ent.ok G) = true) (hfn : G.fn = es.map (·.x)) (hb : AllBd es) {l : PySem.W.OpenLaw} {w : World} {K : PySem.W.Frag} {mg : Str → Option Value} {h : Heap} {fa : Addr} {k n f W : Nat} {e : Ent} {x : Str}
    (X : K.In h) (Gh : h.Ns mainGlobals mg) (c : He.SaysD (factsOf es G) (es.map Ent.df) K) (hf : es[f]? = some e) (hfa : mg e.x = some (.ref fa)) (hk : 0 < k) (hp : e.ps = [x])
    (hl : ∀ (ns : List Int) (v : PV), ns.length ≤ n → (∀ z ∈ ns, Builtin.Int.intBits z ≤ 1048576) → (v = .frz (ns.map .int) ∨ v = .lst (ns.map .int)) → ∃ st', callN (es.map (·.d)) W k f [v] [] = .ok (.bl true) st') :
    LamX.LawAtS l w K (L2.CX l.prog w) k n x mg fa h := by
  have hlen : f < es.length := (List.getElem?_eq_some_iff.mp hf).1
  obtain ⟨fd, F⟩ := c.def_ f (d := e.df) (by rw [List.getElem?_map, hf]; rfl)
  have he : e.x ∈ es.map (·.x) := List.mem_map.mpr ⟨e, List.mem_of_getElem? hf, rfl⟩
  have hga : mg e.x = some (.ref (He.ga K e.x)) := by
    refine He.glo_ok X Gh ?_
    obtain ⟨i, hi, e'⟩ := List.getElem_of_mem (show He.Fa.glo e.x ∈ factsOf es G from List.mem_append_left _ (List.mem_map.mpr ⟨e, List.mem_of_getElem? hf, rfl⟩))
    exact c.fact i (f := .glo e.x) (by rw [List.getElem?_eq_getElem hi, e'])
  have efa : fa = He.ga K e.x := by
    rw [hga] at hfa
    cases hfa
    rfl
  have hnm : nmAt G.fn f = e.x := nmAt_eq (by rw [hfn, List.getElem?_map, hf]; rfl)
  let S : Heap → Lk := fun base => lkOf l.prog w K mg base [] es G
  have HB := hb.mem (List.mem_of_getElem? hf)
  refine ⟨fd, [], fun vs H Q E => ∃ (a : Addr) (ns : List Int), vs = [.ref a] ∧ SqL K H a (ns.map V.int) ∧ ns.length ≤ n ∧ (∀ z ∈ ns, Builtin.Int.intBits z ≤ 1048576) ∧ ∀ H', Q (.bl true) H', by simp, by simp, by simp, fun s u => ?_, fun H a ns h1 h2 _ h4 => ⟨a, ns, rfl, h4, h1, h2, fun _ => rfl⟩, fun base X' Gh' _ => ?_⟩
  · have := F.bindsA (ps := e.ps) HB s [u] (by rw [hp]; rfl)
    rw [hp] at this
    exact this
  · obtain ⟨k, rfl⟩ : ∃ j, k = j + 1 := ⟨k - 1, by omega⟩
    have ok2 := (link (P := l.prog) (w := w) (base := base) (Tb := []) hes hfn hb X Gh c W k).2 f e fd hf F
    rw [← efa, hp] at ok2
    refine ok2.imp fun vs H Q E ⟨a, ns, e1, hS, h1, h2, hQ⟩ => ?_
    subst e1
    have go : ∀ v : PV, (v = .frz (ns.map .int) ∨ v = .lst (ns.map .int)) → Rep (lkOf l.prog w K mg base [] es G) (fun _ => False) [] H (.ref a) v → spN (lkOf l.prog w K mg base [] es G) (es.map (·.d)) W (k + 1) f [.ref a] H Q E := fun v hv r => by
      obtain ⟨st', e'⟩ := hl ns v h1 h2 hv
      refine ⟨fun _ => False, [], [], [v], ⟨rfl, by simp, by simp, by simp, by simp, by intro p hp; cases hp⟩, .cons r .nil, ?_⟩
      rw [e']
      intro V Z' ι' H' p ss' r'
      cases r'
      exact hQ H'
    rcases hS with (hS | ⟨o, hS⟩) | hS
    · exact go _ (.inr rfl) (.lst (by simp) hS (reps_ints ns))
    · exact go _ (.inl rfl) (.frz hS (reps_ints ns))
    · exact go _ (.inl rfl) (.frzK hS (reps_ints ns))
end Ev
end
section
set_option Elab.async false
set_option linter.all false
set_option maxRecDepth 100000
namespace Ev
open PySem L2
/-! ### weakest conditions of evaluations; simp goes from the left -/
/-- simp does not go into what the type leans on -/
@[reducible] def PropOf {β : Type} (_ : β) : Type := Prop
def Ok {α : Type} (r : R α) (Q : α → Store → Prop) : PropOf Q := match r with
  | .ok v st => Q v st
  | _ => False
def OkS (r : RS) (N : Env → Store → Prop) (Q : PV → Store → Prop) : PropOf (N, Q) := match r with
  | .next ρ st => N ρ st
  | .ret v st => Q v st
  | _ => False
def OkO {α : Type} (o : Option α) (Q : α → Prop) : PropOf Q := match o with
  | some a => Q a
  | none => False
theorem OkO_some {α : Type} {a : α} {Q : α → Prop} : @Eq Prop (OkO (some a) Q) (Q a) := rfl
def OkI {α : Type} (b : Bool) (x y : α) (Q : α → Prop) : PropOf (x, y, Q) := Q (bif b then x else y)
theorem OkI_t {α : Type} {x y : α} {Q : α → Prop} : @Eq Prop (OkI true x y Q) (Q x) := rfl
theorem OkI_f {α : Type} {x y : α} {Q : α → Prop} : @Eq Prop (OkI false x y Q) (Q y) := rfl
/-- the same, as a plain proposition -/
def Okp {α : Type} (r : R α) (Q : α → Store → Prop) : Prop := Ok r Q
theorem Ok.mono {α : Type} {r : R α} {P Q : α → Store → Prop} (h : Ok r P) (k : ∀ v st, P v st → Q v st) : Ok r Q := by
  cases r with
  | ok v st => exact k _ _ h
  | exc c st => exact h
  | stuck => exact h
theorem Okp.to {α : Type} {r : R α} {P Q : α → Store → Prop} (h : Okp r P) (k : ∀ v st, P v st → Q v st) : Ok r Q := Ok.mono h k
theorem OkS.mono {r : RS} {N N' : Env → Store → Prop} {Q Q' : PV → Store → Prop} (h : OkS r N Q) (k : ∀ v st, N v st → N' v st) (k2 : ∀ v st, Q v st → Q' v st) : OkS r N' Q' := by
  cases r with
  | next v st => exact k _ _ h
  | ret v st => exact k2 _ _ h
  | exc c st => exact h
  | stuck => exact h
theorem Ok.ex {α : Type} {r : R α} {Q : α → Store → Prop} (h : Ok r Q) : ∃ v st, r = .ok v st ∧ Q v st := by
  cases r with
  | ok v st => exact ⟨v, st, rfl, h⟩
  | exc c st => exact h.elim
  | stuck => exact h.elim
theorem eq_of_ok {α : Type} {r : R α} {x : α} {st : Store} (h : Ok r fun v st' => v = x ∧ st' = st) : r = .ok x st := by
  obtain ⟨v, st', e, rfl, rfl⟩ := h.ex
  exact e
theorem eq_of_okS {r : RS} {x : Env} {st : Store} (h : OkS r (fun v st' => v = x ∧ st' = st) fun _ _ => False) : r = .next x st := by
  cases r with
  | next ρ s => obtain ⟨rfl, rfl⟩ := (show ρ = x ∧ s = st from h); rfl
  | ret v s => exact (show False from h).elim
  | exc c s => exact (show False from h).elim
  | stuck => exact (show False from h).elim
theorem Ok_eq {α : Type} {r : R α} {v : α} {st : Store} (h : r = .ok v st) {Q : α → Store → Prop} (q : Q v st) : Ok r Q := by rw [h]; exact q
theorem Ok_ok {α : Type} {v : α} {st : Store} {Q : α → Store → Prop} : @Eq Prop (Ok (.ok v st) Q) (Q v st) := rfl
theorem Ok_bind {α β : Type} {r : R α} {f : α → Store → R β} {Q : β → Store → Prop} : @Eq Prop (Ok (r.bind f) Q) (Ok r (fun v st => Ok (f v st) Q)) := by
  cases r <;> rfl
theorem Ok_ofO {α : Type} {v : α} {st : Store} {Q : α → Store → Prop} : @Eq Prop (Ok (R.ofO (some v) st) Q) (Q v st) := rfl
theorem Ok_ofO' {α : Type} {o : Option α} {st : Store} {Q : α → Store → Prop} : @Eq Prop (Ok (R.ofO o st) Q) (OkO o fun v => Q v st) := by
  cases o <;> rfl
theorem OkS_next {ρ : Env} {st : Store} {N : Env → Store → Prop} {Q : PV → Store → Prop} : @Eq Prop (OkS (.next ρ st) N Q) (N ρ st) := rfl
theorem OkS_ret {v : PV} {st : Store} {N : Env → Store → Prop} {Q : PV → Store → Prop} : @Eq Prop (OkS (.ret v st) N Q) (Q v st) := rfl
theorem OkS_bindS {α : Type} {r : R α} {f : α → Store → RS} {N : Env → Store → Prop} {Q : PV → Store → Prop} : @Eq Prop (OkS (r.bindS f) N Q) (Ok r (fun v st => OkS (f v st) N Q)) := by
  cases r <;> rfl
section
variable {C : Calls} {W : Nat} {ρ : Env} {st : Store} {N : Env → Store → Prop} {Q : PV → Store → Prop}
theorem S_done : @Eq Prop (OkS (evS C W .done ρ st) N Q) (N ρ st) := rfl
theorem S_asg {i : Nat} {e : CE} {k : CS} : @Eq Prop (OkS (evS C W (.asg i e k) ρ st) N Q) (Ok (evE C e ρ st) (fun v st => OkS (evS C W k (ρ.set i (some v)) st) N Q)) := by
  simp only [evS]
  exact OkS_bindS
theorem S_asgT {tg : Tg} {e : CE} {k : CS} : @Eq Prop (OkS (evS C W (.asgT tg e k) ρ st) N Q) (Ok (evE C e ρ st) (fun v st => OkO (bindT tg v ρ) fun ρ' => OkS (evS C W k ρ' st) N Q)) := by
  simp only [evS]
  rw [OkS_bindS]
  congr
  funext v st
  cases bindT tg v ρ <;> rfl
theorem S_par {is : List Nat} {es : CE} {k : CS} : @Eq Prop (OkS (evS C W (.par is es k) ρ st) N Q) (Ok (evEs C es ρ st) (fun vs st => OkO (setAll ρ is vs) fun ρ' => OkS (evS C W k ρ' st) N Q)) := by
  simp only [evS]
  rw [OkS_bindS]
  congr
  funext v st
  cases setAll ρ is v <;> rfl
theorem S_sub {a i e : CE} {k : CS} : @Eq Prop (OkS (evS C W (.sub a i e k) ρ st) N Q) (Ok (evE C e ρ st) (fun v st => Ok (evE C a ρ st) fun x st => Ok (evE C i ρ st) fun y st => OkO (setAt st x y v) fun st' => OkS (evS C W k ρ st') N Q)) := by
  simp only [evS]
  rw [OkS_bindS]
  congr; funext v st
  rw [OkS_bindS]
  congr; funext x st
  rw [OkS_bindS]
  congr; funext y st
  cases setAt st x y v <;> rfl
theorem S_expr {e : CE} {k : CS} : @Eq Prop (OkS (evS C W (.expr e k) ρ st) N Q) (Ok (evE C e ρ st) (fun _ st => OkS (evS C W k ρ st) N Q)) := by
  simp only [evS]
  exact OkS_bindS
theorem S_if {c : CE} {t f k : CS} : @Eq Prop (OkS (evS C W (.ifs c t f k) ρ st) N Q) (Ok (evT C c ρ st) (fun b st => OkI b t f fun s => OkS (evS C W s ρ st) (fun ρ st => OkS (evS C W k ρ st) N Q) Q)) := by
  simp only [evS]
  rw [OkS_bindS]
  congr; funext b st
  cases b with
  | true =>
    rw [OkI_t]
    simp only [if_true]
    cases h : evS C W t ρ st <;> rfl
  | false =>
    rw [OkI_f]
    simp only [Bool.false_eq_true, if_false]
    cases h : evS C W f ρ st <;> rfl
def forB (C : Calls) (W : Nat) (tg : Tg) (b : CS) : PV → Env → Store → RS := fun x ρ st => match bindT tg x ρ with
        | some ρ1 => evS C W b ρ1 st
        | none => .stuck
theorem S_for {tg : Tg} {ik : IK} {it : CE} {b k : CS} : @Eq Prop (OkS (evS C W (.for_ tg ik it b k) ρ st) N Q) (Ok (evEs C it ρ st) (fun vs st => OkO (items ik vs) fun xs => OkS (forLoop (forB C W tg b) xs ρ st) (fun ρ st => OkS (evS C W k ρ st) N Q) Q)) := by
  simp only [evS]
  rw [OkS_bindS]
  congr; funext vs st
  cases items ik vs with
  | none => rfl
  | some xs =>
    simp only [R.ofO, R.bindS, OkO_some]
    unfold forB
    cases h : forLoop (fun x ρ st => match bindT tg x ρ with
        | some ρ1 => evS C W b ρ1 st
        | none => .stuck) xs ρ st <;> rfl
theorem S_forB {tg : Tg} {b : CS} {x : PV} : @Eq Prop (OkS (forB C W tg b x ρ st) N Q) (OkO (bindT tg x ρ) fun ρ1 => OkS (evS C W b ρ1 st) N Q) := by
  unfold forB
  cases bindT tg x ρ <;> rfl
theorem S_whil {c : CE} {b k : CS} : @Eq Prop (OkS (evS C W (.whil c b k) ρ st) N Q) (OkS (whileLoop (evT C c) (evS C W b) W ρ st) (fun ρ st => OkS (evS C W k ρ st) N Q) Q) := by
  simp only [evS]
  cases whileLoop (evT C c) (evS C W b) W ρ st <;> rfl
theorem S_ret {e : CE} : @Eq Prop (OkS (evS C W (.ret e) ρ st) N Q) (Ok (evE C e ρ st) Q) := by
  simp only [evS]
  rw [OkS_bindS]
  rfl
theorem S_retN : @Eq Prop (OkS (evS C W .retN ρ st) N Q) (Q .non st) := rfl
/-! expressions, from the left -/
section
variable {i : Nat} {o p : BOp} {q r : COp} {a b c e es : CE} {v : PV} {f : Nat} {Ql : List PV → Store → Prop} {Qb : Bool → Store → Prop}
theorem E_var : @Eq Prop (Ok (evE C (.var i) ρ st) Q) (OkO ρ[i]? fun z => OkO z fun v => Q v st) := by
  simp only [evE]
  cases h : ρ[i]? with
  | none => rfl
  | some z => cases z <;> rfl
theorem E_cst : @Eq Prop (Ok (evE C (.cst v) ρ st) Q) (Q v st) := by simp only [evE]; rfl
theorem E_gl : @Eq Prop (Ok (evE C (.gl v) ρ st) Q) (Q v st) := by simp only [evE]; rfl
theorem E_yes : @Eq Prop (Ok (evE C .yes ρ st) Q) (Q (.bl true) st) := by simp only [evE]; rfl
theorem E_tup : @Eq Prop (Ok (evE C (.tup es) ρ st) Q) (Ok (evEs C es ρ st) fun vs st => OkO (if vs.length ≤ lim then some (.tup vs) else none) fun v => Q v st) := by
  simp only [evE]
  rw [Ok_bind]
  congr; funext vs st; split <;> rfl
theorem E_lst : @Eq Prop (Ok (evE C (.lst es) ρ st) Q) (Ok (evEs C es ρ st) fun vs st => OkO (if vs.length ≤ lim then some (.lst vs) else none) fun v => Q v st) := by
  simp only [evE]
  rw [Ok_bind]
  congr; funext vs st; split <;> rfl
theorem E_mkl : @Eq Prop (Ok (evE C (.mkl es) ρ st) Q) (Ok (evEs C es ρ st) fun vs st => OkO (if vs.length ≤ lim then some (.lst vs) else none) fun v => Ok (alloc st v) Q) := by
  simp only [evE]
  rw [Ok_bind]
  congr; funext vs st; split <;> rfl
theorem E_bin : @Eq Prop (Ok (evE C (.bin o a b) ρ st) Q) (Ok (evE C a ρ st) fun x st => Ok (evE C b ρ st) fun y st => OkO (pyBin o (deref st x) (deref st y)) fun v => Q v st) := by
  simp only [evE]
  rw [Ok_bind]
  congr; funext x st
  rw [Ok_bind]
  congr; funext y st
  exact Ok_ofO'
theorem E_mkb : @Eq Prop (Ok (evE C (.mkb o a b) ρ st) Q) (Ok (evE C a ρ st) fun x st => Ok (evE C b ρ st) fun y st => OkO (pyBin o (deref st x) (deref st y)) fun v => Ok (alloc st v) Q) := by
  simp only [evE]
  rw [Ok_bind]
  congr; funext x st
  rw [Ok_bind]
  congr; funext y st
  rw [Ok_bind, Ok_ofO']
def negO : PV → Option PV
  | .int i => some (.int (-i))
  | _ => none
theorem E_neg : @Eq Prop (Ok (evE C (.neg a) ρ st) Q) (Ok (evE C a ρ st) fun x st => OkO (negO x) fun v => Q v st) := by
  simp only [evE]
  rw [Ok_bind]
  congr; funext x st
  cases x <;> rfl
theorem E_not : @Eq Prop (Ok (evE C (.not a) ρ st) Q) (Ok (evE C a ρ st) fun x st => OkO (truth (deref st x)) fun b => Q (.bl (!b)) st) := by
  simp only [evE]
  rw [Ok_bind]
  congr; funext x st
  rw [Ok_bind, Ok_ofO']
  rfl
theorem E_cmp : @Eq Prop (Ok (evE C (.cmp q a b) ρ st) Q) (Ok (evE C a ρ st) fun x st => Ok (evE C b ρ st) fun y st => OkO (pyCmp q (deref st x) (deref st y)) fun b => Q (.bl b) st) := by
  simp only [evE]
  rw [Ok_bind]
  congr; funext x st
  rw [Ok_bind]
  congr; funext y st
  rw [Ok_bind, Ok_ofO']
  rfl
theorem E_chain : @Eq Prop (Ok (evE C (.chain q r a b c) ρ st) Q) (Ok (evE C a ρ st) fun x st => Ok (evE C b ρ st) fun y st => OkO (pyCmp q (deref st x) (deref st y)) fun k => OkI k true false fun k =>
    if k = true then Ok (evE C c ρ st) fun z st => OkO (pyCmp r (deref st y) (deref st z)) fun b => Q (.bl b) st else Q (.bl false) st) := by
  simp only [evE]
  rw [Ok_bind]
  congr; funext x st
  rw [Ok_bind]
  congr; funext y st
  rw [Ok_bind, Ok_ofO']
  congr; funext k
  cases k with
  | true =>
    rw [OkI_t]
    simp only [if_true]
    rw [Ok_bind]
    congr; funext z st
    rw [Ok_bind, Ok_ofO']
    rfl
  | false => rfl
def isNo : PV → Bool → Bool
  | .non, g => g
  | _, g => !g
theorem E_isN {g : Bool} : @Eq Prop (Ok (evE C (.isN a g) ρ st) Q) (Ok (evE C a ρ st) fun x st => Q (.bl (isNo x g)) st) := by
  simp only [evE]
  rw [Ok_bind]
  congr; funext x st
  cases x <;> rfl
def isBo : PV → Bool → Bool → Option Bool
  | .bl c, b, g => some (if c = b then g else !g)
  | _, _, _ => none
theorem E_isB {g h : Bool} : @Eq Prop (Ok (evE C (.isB a h g) ρ st) Q) (Ok (evE C a ρ st) fun x st => OkO (isBo x h g) fun b => Q (.bl b) st) := by
  simp only [evE]
  rw [Ok_bind]
  congr; funext x st
  cases x <;> rfl
theorem E_and : @Eq Prop (Ok (evE C (.and a b) ρ st) Q) (Ok (evE C a ρ st) fun x st => OkO (truth (deref st x)) fun k => OkI k (some b) none fun z => Ok (match z with | some b => evE C b ρ st | none => .ok x st) Q) := by
  simp only [evE]
  rw [Ok_bind]
  congr; funext x st
  rw [Ok_bind, Ok_ofO']
  congr; funext k
  cases k <;> rfl
theorem E_or : @Eq Prop (Ok (evE C (.or a b) ρ st) Q) (Ok (evE C a ρ st) fun x st => OkO (truth (deref st x)) fun k => OkI k none (some b) fun z => Ok (match z with | some b => evE C b ρ st | none => .ok x st) Q) := by
  simp only [evE]
  rw [Ok_bind]
  congr; funext x st
  rw [Ok_bind, Ok_ofO']
  congr; funext k
  cases k <;> rfl
theorem E_ite : @Eq Prop (Ok (evE C (.ite c a b) ρ st) Q) (Ok (evE C c ρ st) fun x st => OkO (truth (deref st x)) fun k => OkI k a b fun e => Ok (evE C e ρ st) Q) := by
  simp only [evE]
  rw [Ok_bind]
  congr; funext x st
  rw [Ok_bind, Ok_ofO']
  congr; funext k
  cases k <;> rfl
theorem E_idx : @Eq Prop (Ok (evE C (.idx a b) ρ st) Q) (Ok (evE C a ρ st) fun x st => Ok (evE C b ρ st) fun y st => OkO (pyIdx (deref st x) y) fun v => Q v st) := by
  simp only [evE]
  rw [Ok_bind]
  congr; funext x st
  rw [Ok_bind]
  congr; funext y st
  exact Ok_ofO'
theorem E_rev : @Eq Prop (Ok (evE C (.rev a) ρ st) Q) (Ok (evE C a ρ st) fun x st => OkO (pyRev (deref st x)) fun v => Q v st) := by
  simp only [evE]
  rw [Ok_bind]
  congr; funext x st
  exact Ok_ofO'
theorem E_slc {lo hi : CE} : @Eq Prop (Ok (evE C (.slc a lo hi) ρ st) Q) (Ok (evE C a ρ st) fun x st => Ok (partR lo.isNon (evE C lo ρ st) st) fun l st => Ok (partR hi.isNon (evE C hi ρ st) st) fun h st => OkO (cutP (deref st x) l h) fun v => Q v st) := by
  simp only [evE]
  rw [Ok_bind]
  congr; funext x st
  rw [Ok_bind]
  congr; funext y st
  rw [Ok_bind]
  congr; funext z st
  exact Ok_ofO'
theorem E_sst : @Eq Prop (Ok (evE C (.sst a) ρ st) Q) (Ok (evE C a ρ st) fun x st => OkO (pySS (deref st x)) fun v => Q v st) := by
  simp only [evE]
  rw [Ok_bind]
  congr; funext x st
  exact Ok_ofO'
theorem E_ktp : @Eq Prop (Ok (evE C (.ktp a) ρ st) Q) (Ok (evE C a ρ st) fun x st => OkO (pyKt (deref st x)) fun v => Q v st) := by
  simp only [evE]
  rw [Ok_bind]
  congr; funext x st
  exact Ok_ofO'
theorem E_cnt : @Eq Prop (Ok (evE C (.cnt a b) ρ st) Q) (Ok (evE C a ρ st) fun x st => OkO x.ktpL fun xs => Ok (evE C b ρ st) fun y st => OkO (pyCnt xs y) fun v => Q v st) := by
  simp only [evE]
  rw [Ok_bind]
  congr; funext x st
  rw [Ok_bind, Ok_ofO']
  congr; funext xs
  rw [Ok_bind]
  congr; funext y st
  exact Ok_ofO'
theorem E_lrg {t : Bool} : @Eq Prop (Ok (evE C (.lrg t a) ρ st) Q) (Ok (evE C a ρ st) fun x st => OkO (pyRg t x) fun v => Q v st) := by
  simp only [evE]
  rw [Ok_bind]
  congr; funext x st
  exact Ok_ofO'
theorem P_non {r : R PV} {Q : Option Int → Store → Prop} : @Eq Prop (Ok (partR (CE.isNon (.cst .non)) r st) Q) (Q none st) := rfl
def intO : PV → Option Int
  | .int i => some i
  | _ => none
theorem P_some {r : R PV} {Q : Option Int → Store → Prop} {e : CE} (h : e.isNon = false) : @Eq Prop (Ok (partR e.isNon r st) Q) (Ok r fun v st => OkO (intO v) fun i => Q (some i) st) := by
  unfold partR
  rw [h]
  simp only [Bool.false_eq_true, if_false]
  rw [Ok_bind]
  congr; funext v st
  cases v <;> rfl
theorem P_cst {r : R PV} {Q : Option Int → Store → Prop} {i : Int} : @Eq Prop (Ok (partR (CE.isNon (.cst (.int i))) r st) Q) (Ok r fun v st => OkO (intO v) fun i => Q (some i) st) := P_some rfl
theorem P_var {r : R PV} {Q : Option Int → Store → Prop} : @Eq Prop (Ok (partR (CE.isNon (.var i)) r st) Q) (Ok r fun v st => OkO (intO v) fun i => Q (some i) st) := P_some rfl
theorem P_bin {r : R PV} {Q : Option Int → Store → Prop} : @Eq Prop (Ok (partR (CE.isNon (.bin o a b)) r st) Q) (Ok r fun v st => OkO (intO v) fun i => Q (some i) st) := P_some rfl
theorem P_neg {r : R PV} {Q : Option Int → Store → Prop} : @Eq Prop (Ok (partR (CE.isNon (.neg a)) r st) Q) (Ok r fun v st => OkO (intO v) fun i => Q (some i) st) := P_some rfl
theorem P_call {r : R PV} {Q : Option Int → Store → Prop} : @Eq Prop (Ok (partR (CE.isNon (.call f es)) r st) Q) (Ok r fun v st => OkO (intO v) fun i => Q (some i) st) := P_some rfl
theorem P_blt {r : R PV} {Q : Option Int → Store → Prop} {t : Blt} : @Eq Prop (Ok (partR (CE.isNon (.blt t es)) r st) Q) (Ok r fun v st => OkO (intO v) fun i => Q (some i) st) := P_some rfl
theorem E_call : @Eq Prop (Ok (evE C (.call f es) ρ st) Q) (Ok (evEs C es ρ st) fun vs st => Ok (C f vs st) Q) := by
  simp only [evE]
  exact Ok_bind
theorem E_blt {t : Blt} : @Eq Prop (Ok (evE C (.blt t es) ρ st) Q) (Ok (evEs C es ρ st) fun vs st => OkO (pyBlt t (vs.map (deref st))) fun v => Q v st) := by
  simp only [evE]
  rw [Ok_bind]
  congr; funext x st
  exact Ok_ofO'
theorem E_mkt {t : Blt} : @Eq Prop (Ok (evE C (.mkt t es) ρ st) Q) (Ok (evEs C es ρ st) fun vs st => OkO (pyBlt t (vs.map (deref st))) fun v => Ok (alloc st v) Q) := by
  simp only [evE]
  rw [Ok_bind]
  congr; funext x st
  rw [Ok_bind, Ok_ofO']
theorem E_isi {t : Ty} : @Eq Prop (Ok (evE C (.isi a t) ρ st) Q) (Ok (evE C a ρ st) fun x st => OkO (if tyOk (deref st x) = true then some (isTy t (deref st x)) else none) fun b => Q (.bl b) st) := by
  simp only [evE]
  rw [Ok_bind]
  congr; funext x st
  split <;> rfl
theorem E_app : @Eq Prop (Ok (evE C (.app a e) ρ st) Q) (Ok (evE C a ρ st) fun x st => OkI x.isRef true false fun k => if k = true then Ok (evE C e ρ st) fun y st => Ok (appTo st x y) Q else False) := by
  simp only [evE]
  rw [Ok_bind]
  congr; funext x st
  cases h : x.isRef with
  | true =>
    show Ok ((evE C e ρ st).bind _) Q = _
    rw [Ok_bind]
    rfl
  | false => rfl
theorem Es_nil : @Eq Prop (Ok (evEs C .nil ρ st) Ql) (Ql [] st) := by simp only [evEs]; rfl
theorem Es_cons : @Eq Prop (Ok (evEs C (.cons e es) ρ st) Ql) (Ok (evE C e ρ st) fun v st => Ok (evEs C es ρ st) fun vs st => Ql (v :: vs) st) := by
  simp only [evEs]
  rw [Ok_bind]
  congr; funext x st
  rw [Ok_bind]
  rfl
theorem E_T : @Eq Prop (Ok (evT C e ρ st) Qb) (Ok (evE C e ρ st) fun x st => OkO (truth (deref st x)) fun b => Qb b st) := by
  unfold evT
  rw [Ok_bind]
  congr; funext x st
  exact Ok_ofO'
theorem E_alloc {xs : List PV} : @Eq Prop (Ok (alloc st (.lst xs)) Q) (Q (.ref st.length) (st ++ [.l xs])) := rfl
end
/-! loops -/
theorem forLoop_nil {f : PV → Env → Store → RS} : forLoop f [] ρ st = .next ρ st := rfl
theorem OkS_for_nil {f : PV → Env → Store → RS} : @Eq Prop (OkS (forLoop f [] ρ st) N Q) (N ρ st) := rfl
theorem OkS_for_cons {f : PV → Env → Store → RS} {v : PV} {vs : List PV} : @Eq Prop (OkS (forLoop f (v :: vs) ρ st) N Q) (OkS (f v ρ st) (fun ρ st => OkS (forLoop f vs ρ st) N Q) Q) := by
  simp only [forLoop]
  cases f v ρ st <;> rfl
/-- a for loop by an invariant -/
theorem for_inv {f : PV → Env → Store → RS} (I : Env → Store → Prop) : ∀ (xs : List PV) (ρ : Env) (st : Store), I ρ st → (∀ x ∈ xs, ∀ ρ st, I ρ st → OkS (f x ρ st) I Q) → (∀ ρ st, I ρ st → N ρ st) → OkS (forLoop f xs ρ st) N Q
  | [], _, _, h, _, k => k _ _ h
  | x :: xs, _, _, h, b, k => by
    rw [OkS_for_cons]
    exact (b x (List.mem_cons_self ..) _ _ h).mono (fun ρ st i => for_inv I xs ρ st i (fun y hy => b y (List.mem_cons_of_mem _ hy)) k) fun _ _ h => h
/-- a comprehension's loop whose function is known -/
theorem lc_map {f : PV → Store → R (Option PV)} {g : PV → Option PV} : ∀ (xs acc : List PV) (st : Store), acc.length + xs.length ≤ lim → (∀ x ∈ xs, f x st = .ok (g x) st) → lcLoop f xs acc st = .ok (acc ++ xs.filterMap g) st
  | [], acc, st, hl, _ => by
    simp only [lcLoop, List.filterMap_nil, List.append_nil]
    rw [if_pos (by simpa using hl)]
  | x :: xs, acc, st, hl, h => by
    simp only [lcLoop, h x (List.mem_cons_self ..)]
    simp only [List.length_cons] at hl
    cases e : g x with
    | none =>
      simp only [List.filterMap_cons, e]
      exact lc_map xs acc st (by omega) fun y hy => h y (List.mem_cons_of_mem _ hy)
    | some v =>
      simp only [List.filterMap_cons, e]
      rw [lc_map xs (acc ++ [v]) st (by simp; omega) fun y hy => h y (List.mem_cons_of_mem _ hy)]
      simp
def lcB (C : Calls) (tg : Tg) (own : List Nat) (cd elt : CE) (ρ : Env) : PV → Store → R (Option PV) := fun x st => match bindT tg x (wipeE ρ own) with
        | some ρ1 => (evE C cd ρ1 st).bind fun c st => (R.ofO (truth (deref st c)) st).bind fun k st => if k = true then (evE C elt ρ1 st).bind fun v st => .ok (some v) st else .ok none st
        | none => .stuck
/-- a comprehension: each element's part is asked for -/
theorem E_lc {C : Calls} {k : IK} {it : CE} {tg : Tg} {own : List Nat} {cd elt : CE} : @Eq Prop (Ok (evE C (.lc k it tg own cd elt) ρ st) Q) (Ok (evEs C it ρ st) fun vs st => OkO (items k vs) fun xs => Ok (lcLoop (lcB C tg own cd elt ρ) xs [] st) fun acc st => Q (.lst acc) st) := by
  simp only [evE]
  rw [Ok_bind]
  congr; funext vs st
  rw [Ok_bind, Ok_ofO']
  congr; funext xs
  rw [Ok_bind]
  rfl
theorem E_mkc {C : Calls} {k : IK} {it : CE} {tg : Tg} {own : List Nat} {cd elt : CE} : @Eq Prop (Ok (evE C (.mkc k it tg own cd elt) ρ st) Q) (Ok (evEs C it ρ st) fun vs st => OkO (items k vs) fun xs => Ok (lcLoop (lcB C tg own cd elt ρ) xs [] st) fun acc st => Ok (alloc st (.lst acc)) Q) := by
  simp only [evE]
  rw [Ok_bind]
  congr; funext vs st
  rw [Ok_bind, Ok_ofO']
  congr; funext xs
  rw [Ok_bind]
  rfl
theorem LC_nil {f : PV → Store → R (Option PV)} {acc : List PV} {Q : List PV → Store → Prop} : @Eq Prop (Ok (lcLoop f [] acc st) Q) (OkO (if acc.length ≤ lim then some acc else none) fun acc => Q acc st) := by
  simp only [lcLoop]
  split <;> rfl
def accO (acc : List PV) : Option PV → List PV
  | some v => acc ++ [v]
  | none => acc
theorem LC_cons {f : PV → Store → R (Option PV)} {acc xs : List PV} {x : PV} {Q : List PV → Store → Prop} : @Eq Prop (Ok (lcLoop f (x :: xs) acc st) Q) (Ok (f x st) fun z st => Ok (lcLoop f xs (accO acc z) st) Q) := by
  simp only [lcLoop]
  cases f x st with
  | ok z st => cases z <;> rfl
  | _ => rfl
def lcQ (C : Calls) (ρ : Env) (st : Store) (Q : Option PV → Store → Prop) : Option CE → Prop
  | some e => Ok (evE C e ρ st) fun v st => Q (some v) st
  | none => Q none st
theorem LC_B {C : Calls} {tg : Tg} {own : List Nat} {cd elt : CE} {x : PV} {Q : Option PV → Store → Prop} : @Eq Prop (Ok (lcB C tg own cd elt ρ x st) Q) (OkO (bindT tg x (wipeE ρ own)) fun ρ1 => Ok (evE C cd ρ1 st) fun c st => OkO (truth (deref st c)) fun k => OkI k (some elt) none (lcQ C ρ1 st Q)) := by
  unfold lcB
  cases bindT tg x (wipeE ρ own) with
  | none => rfl
  | some ρ1 =>
    simp only
    rw [Ok_bind, OkO_some]
    congr; funext c st
    rw [Ok_bind, Ok_ofO']
    congr; funext k
    cases k with
    | true =>
      rw [OkI_t]
      simp only [if_true]
      rw [Ok_bind]
      rfl
    | false => rfl
/-- one element's part -/
theorem lcB_ok {C : Calls} {tg : Tg} {own : List Nat} {cd elt : CE} {x : PV} {z : Option PV} {st : Store} (h : OkO (bindT tg x (wipeE ρ own)) fun ρ1 => Ok (evE C cd ρ1 st) fun c st1 => OkO (truth (deref st1 c)) fun k => OkI k true false fun k => if k = true then Ok (evE C elt ρ1 st1) (fun v st2 => z = some v ∧ st2 = st) else z = none ∧ st1 = st) : lcB C tg own cd elt ρ x st = .ok z st := by
  unfold lcB
  cases hb : bindT tg x (wipeE ρ own) with
  | none => rw [hb] at h; exact h.elim
  | some ρ1 =>
    rw [hb] at h
    simp only
    obtain ⟨c, st1, e1, h1⟩ := Ok.ex (show Ok (evE C cd ρ1 st) _ from h)
    rw [e1]
    simp only [R.bind]
    cases ht : truth (deref st1 c) with
    | none => rw [ht] at h1; exact h1.elim
    | some k =>
      rw [ht] at h1
      simp only [R.ofO]
      cases k with
      | true =>
        obtain ⟨v, st2, e2, rfl, rfl⟩ := Ok.ex (show Ok (evE C elt ρ1 st1) _ from h1)
        simp [e2]
      | false =>
        obtain ⟨rfl, rfl⟩ := (show z = none ∧ st1 = st from h1)
        simp
end
/-! calls -/
theorem trunc_self {st : Store} {v : PV} : trunc st v st = st := by
  unfold trunc
  rw [if_pos (Nat.le_refl _)]
theorem trunc_same {st st' : Store} {v : PV} (h : st'.length ≤ st.length) : trunc st v st' = st' := by
  unfold trunc
  rw [if_pos h]
theorem call_ok {T : List Fd} {W n f : Nat} {d : Fd} {vs : List PV} {st : Store} {Q : PV → Store → Prop} (hd : T[f]? = some d) (hl : vs.length = d.np)
    (h : OkS (evS (callN T W n) W d.body (vs.map some ++ List.replicate (d.ns - d.np) none) st) (fun _ st' => Q .non (trunc st .non st')) (fun v st' => Q v (trunc st v st'))) : Ok (callN T W (n + 1) f vs st) Q := by
  unfold callN
  rw [hd]
  simp only
  rw [if_pos hl]
  cases hr : evS (callN T W n) W d.body (vs.map some ++ List.replicate (d.ns - d.np) none) st <;> rw [hr] at h <;> first | exact h | exact h.elim
theorem call_eq {T : List Fd} {W n f : Nat} {d : Fd} {vs : List PV} {st : Store} {v : PV} (hd : T[f]? = some d) (hl : vs.length = d.np)
    (h : OkS (evS (callN T W n) W d.body (vs.map some ++ List.replicate (d.ns - d.np) none) st) (fun _ st' => v = .non ∧ st' = st) (fun v' st' => v' = v ∧ st' = st)) : callN T W (n + 1) f vs st = .ok v st := by
  have z : Ok (callN T W (n + 1) f vs st) fun v' st' => v' = v ∧ st' = st := call_ok hd hl (h.mono (fun _ _ ⟨a, b⟩ => by subst b; exact ⟨a.symm, trunc_self⟩) fun _ _ ⟨a, b⟩ => by subst b; exact ⟨a, trunc_self⟩)
  obtain ⟨v', st', e, rfl, rfl⟩ := z.ex
  exact e
/-! small evaluations -/
section
variable {st : Store} {xs ys zs : List PV}
theorem deref_int {i : Int} : deref st (.int i) = .int i := rfl
theorem deref_bl {i : Bool} : deref st (.bl i) = .bl i := rfl
theorem deref_str {i : Str} : deref st (.str i) = .str i := rfl
theorem deref_non : deref st .non = .non := rfl
theorem deref_tup : deref st (.tup xs) = .tup xs := rfl
theorem deref_lst : deref st (.lst xs) = .lst xs := rfl
theorem deref_fn {i : Nat} : deref st (.fn i) = .fn i := rfl
theorem deref_frz : deref st (.frz xs) = .frz xs := rfl
theorem deref_r0 : deref (.l xs :: st) (.ref 0) = .lst xs := rfl
theorem deref_r1 {c : Cell} : deref (c :: .l ys :: st) (.ref 1) = .lst ys := rfl
theorem deref_r2 {c d : Cell} : deref (c :: d :: .l ys :: st) (.ref 2) = .lst ys := rfl
theorem T_bl {b : Bool} : truth (.bl b) = some b := rfl
theorem T_int {i : Int} : truth (.int i) = some (i != 0) := rfl
theorem T_tup : truth (.tup xs) = some (!xs.isEmpty) := rfl
theorem T_lst : truth (.lst xs) = some (!xs.isEmpty) := rfl
theorem T_non : truth .non = some false := rfl
theorem B_addI {i j : Int} : pyBin .add (.int i) (.int j) = some (.int (i + j)) := rfl
theorem B_addL : pyBin .add (.lst xs) (.lst ys) = if xs.length + ys.length ≤ lim then some (.lst (xs ++ ys)) else none := rfl
theorem B_addT : pyBin .add (.tup xs) (.tup ys) = if xs.length + ys.length ≤ lim then some (.tup (xs ++ ys)) else none := rfl
theorem B_subI {i j : Int} : pyBin .sub (.int i) (.int j) = some (.int (i - j)) := rfl
theorem B_mulI {i j : Int} : pyBin .mul (.int i) (.int j) = if mulOk i j = true then some (.int (i * j)) else none := rfl
theorem B_divI {i j : Int} : pyBin .fdiv (.int i) (.int j) = if divOk j = true then some (.int (i / j)) else none := rfl
theorem B_modI {i j : Int} : pyBin .mod (.int i) (.int j) = if 0 < j then some (.int (i % j)) else none := by
  show (if decide (0 < j) = true then _ else _) = _
  by_cases h : 0 < j <;> simp [h]
theorem B_powI {i j : Int} : pyBin .pow (.int i) (.int j) = if powOk i j = true then some (.int (i ^ j.toNat)) else none := rfl
theorem C_ltI {i j : Int} : pyCmp .lt (.int i) (.int j) = some (decide (i < j)) := rfl
theorem C_leI {i j : Int} : pyCmp .le (.int i) (.int j) = some (decide (i ≤ j)) := rfl
theorem C_gtI {i j : Int} : pyCmp .gt (.int i) (.int j) = some (decide (j < i)) := rfl
theorem C_geI {i j : Int} : pyCmp .ge (.int i) (.int j) = some (decide (j ≤ i)) := rfl
theorem C_eqI {i j : Int} : pyCmp .eq (.int i) (.int j) = some (decide (i = j)) := by
  show some (PyData.eqv (.int i) (.int j)) = _
  simp only [PyData.eqv]
  congr 1
theorem C_eqB {i j : Bool} : pyCmp .eq (.bl i) (.bl j) = some (i == j) := rfl
theorem C_neB {i j : Bool} : pyCmp .ne (.bl i) (.bl j) = some (i != j) := rfl
theorem C_neI {i j : Int} : pyCmp .ne (.int i) (.int j) = some (!decide (i = j)) := by
  have := C_eqI (i := i) (j := j)
  show (pyEq (.int i) (.int j)).map _ = _
  rw [show pyEq (.int i) (.int j) = some (decide (i = j)) from this]
  rfl
theorem I_tup {i : Int} : pyIdx (.tup xs) (.int i) = atI xs i := rfl
theorem I_lst {i : Int} : pyIdx (.lst xs) (.int i) = atI xs i := rfl
theorem L_tup : pyBlt .len [.tup xs] = some (.int xs.length) := rfl
theorem L_lst : pyBlt .len [.lst xs] = some (.int xs.length) := rfl
theorem L_abs {i : Int} : pyBlt .abs [.int i] = some (.int (if i < 0 then -i else i)) := rfl
theorem L_max {i j : Int} : pyBlt .max [.int i, .int j] = some (.int (if j > i then j else i)) := rfl
theorem L_min {i j : Int} : pyBlt .min [.int i, .int j] = some (.int (if j < i then j else i)) := rfl
theorem L_int {i : Int} : pyBlt .int [.int i] = some (.int i) := rfl
theorem L_tupL : pyBlt .tuple [.lst xs] = some (.tup xs) := rfl
theorem L_tupT : pyBlt .tuple [.tup xs] = some (.tup xs) := rfl
theorem L_listT : pyBlt .list [.tup xs] = some (.lst xs) := rfl
theorem L_listL : pyBlt .list [.lst xs] = some (.lst xs) := rfl
theorem L_listF : pyBlt .list [.frz xs] = some (.lst xs) := rfl
theorem L_all : pyBlt .all [.lst xs] = (bls xs).map fun bs => .bl (bs.all id) := rfl
theorem L_any : pyBlt .any [.lst xs] = (bls xs).map fun bs => .bl (bs.any id) := rfl
theorem Rg_l {n : Int} : pyRg false (.int n) = if rgOk 0 n then some (.lst (rgV' 0 n.toNat)) else none := rfl
theorem Rg_t {n : Int} : pyRg true (.int n) = if rgOk 0 n then some (.tup (rgV' 0 n.toNat)) else none := rfl
theorem L_sum : pyBlt .sum [.lst xs] = (inl xs).map fun is => .int is.sum := rfl
theorem It_L : items .plain [.lst xs] = some xs := rfl
theorem It_T : items .plain [.tup xs] = some xs := rfl
theorem It_r1 {n : Int} : items .range1 [.int n] = if rgOk 0 n then some (rgV' 0 n.toNat) else none := rfl
theorem It_r2 {a b : Int} : items .range2 [.int a, .int b] = if rgOk a b then some (rgV' a (b - a).toNat) else none := rfl
theorem negO_int {i : Int} : negO (.int i) = some (.int (-i)) := rfl
theorem intO_int {i : Int} : intO (.int i) = some i := rfl
end
theorem some_beq {a : PV} {P : PV → Prop} : (∃ v, some a = some v ∧ P v) = P a := by simp
theorem atI_n {α : Type} (xs : List α) (k : Nat) : atI xs (k : Int) = xs[k]? := by
  unfold atI ixN
  rw [if_pos (by omega)]
  by_cases h : k < xs.length
  · rw [if_pos (by omega)]
    rfl
  · rw [if_neg (by omega), List.getElem?_eq_none (by omega)]
    rfl
theorem atI_0 {α : Type} {x : α} {xs : List α} : atI (x :: xs) 0 = some x := atI_n _ 0
theorem atI_1 {α : Type} {x y : α} {xs : List α} : atI (x :: y :: xs) 1 = some y := atI_n _ 1
theorem atI_2 {α : Type} {x y z : α} {xs : List α} : atI (x :: y :: z :: xs) 2 = some z := atI_n _ 2
theorem atI_3 {α : Type} {x y z u : α} {xs : List α} : atI (x :: y :: z :: u :: xs) 3 = some u := atI_n _ 3
theorem atI_4 {α : Type} {x y z u v : α} {xs : List α} : atI (x :: y :: z :: u :: v :: xs) 4 = some v := atI_n _ 4
theorem get_0 {α : Type} {x0 : α} {xs : List α} : (x0 :: xs)[0]? = some x0 := rfl
theorem set_0 {α : Type} {x0 v : α} {xs : List α} : (x0 :: xs).set 0 v = v :: xs := rfl
theorem get_1 {α : Type} {x0 x1 : α} {xs : List α} : (x0 :: x1 :: xs)[1]? = some x1 := rfl
theorem set_1 {α : Type} {x0 x1 v : α} {xs : List α} : (x0 :: x1 :: xs).set 1 v = x0 :: v :: xs := rfl
theorem get_2 {α : Type} {x0 x1 x2 : α} {xs : List α} : (x0 :: x1 :: x2 :: xs)[2]? = some x2 := rfl
theorem set_2 {α : Type} {x0 x1 x2 v : α} {xs : List α} : (x0 :: x1 :: x2 :: xs).set 2 v = x0 :: x1 :: v :: xs := rfl
theorem get_3 {α : Type} {x0 x1 x2 x3 : α} {xs : List α} : (x0 :: x1 :: x2 :: x3 :: xs)[3]? = some x3 := rfl
theorem set_3 {α : Type} {x0 x1 x2 x3 v : α} {xs : List α} : (x0 :: x1 :: x2 :: x3 :: xs).set 3 v = x0 :: x1 :: x2 :: v :: xs := rfl
theorem get_4 {α : Type} {x0 x1 x2 x3 x4 : α} {xs : List α} : (x0 :: x1 :: x2 :: x3 :: x4 :: xs)[4]? = some x4 := rfl
theorem set_4 {α : Type} {x0 x1 x2 x3 x4 v : α} {xs : List α} : (x0 :: x1 :: x2 :: x3 :: x4 :: xs).set 4 v = x0 :: x1 :: x2 :: x3 :: v :: xs := rfl
theorem get_5 {α : Type} {x0 x1 x2 x3 x4 x5 : α} {xs : List α} : (x0 :: x1 :: x2 :: x3 :: x4 :: x5 :: xs)[5]? = some x5 := rfl
theorem set_5 {α : Type} {x0 x1 x2 x3 x4 x5 v : α} {xs : List α} : (x0 :: x1 :: x2 :: x3 :: x4 :: x5 :: xs).set 5 v = x0 :: x1 :: x2 :: x3 :: x4 :: v :: xs := rfl
theorem get_6 {α : Type} {x0 x1 x2 x3 x4 x5 x6 : α} {xs : List α} : (x0 :: x1 :: x2 :: x3 :: x4 :: x5 :: x6 :: xs)[6]? = some x6 := rfl
theorem set_6 {α : Type} {x0 x1 x2 x3 x4 x5 x6 v : α} {xs : List α} : (x0 :: x1 :: x2 :: x3 :: x4 :: x5 :: x6 :: xs).set 6 v = x0 :: x1 :: x2 :: x3 :: x4 :: x5 :: v :: xs := rfl
theorem get_7 {α : Type} {x0 x1 x2 x3 x4 x5 x6 x7 : α} {xs : List α} : (x0 :: x1 :: x2 :: x3 :: x4 :: x5 :: x6 :: x7 :: xs)[7]? = some x7 := rfl
theorem set_7 {α : Type} {x0 x1 x2 x3 x4 x5 x6 x7 v : α} {xs : List α} : (x0 :: x1 :: x2 :: x3 :: x4 :: x5 :: x6 :: x7 :: xs).set 7 v = x0 :: x1 :: x2 :: x3 :: x4 :: x5 :: x6 :: v :: xs := rfl
theorem get_8 {α : Type} {x0 x1 x2 x3 x4 x5 x6 x7 x8 : α} {xs : List α} : (x0 :: x1 :: x2 :: x3 :: x4 :: x5 :: x6 :: x7 :: x8 :: xs)[8]? = some x8 := rfl
theorem set_8 {α : Type} {x0 x1 x2 x3 x4 x5 x6 x7 x8 v : α} {xs : List α} : (x0 :: x1 :: x2 :: x3 :: x4 :: x5 :: x6 :: x7 :: x8 :: xs).set 8 v = x0 :: x1 :: x2 :: x3 :: x4 :: x5 :: x6 :: x7 :: v :: xs := rfl
theorem get_9 {α : Type} {x0 x1 x2 x3 x4 x5 x6 x7 x8 x9 : α} {xs : List α} : (x0 :: x1 :: x2 :: x3 :: x4 :: x5 :: x6 :: x7 :: x8 :: x9 :: xs)[9]? = some x9 := rfl
theorem set_9 {α : Type} {x0 x1 x2 x3 x4 x5 x6 x7 x8 x9 v : α} {xs : List α} : (x0 :: x1 :: x2 :: x3 :: x4 :: x5 :: x6 :: x7 :: x8 :: x9 :: xs).set 9 v = x0 :: x1 :: x2 :: x3 :: x4 :: x5 :: x6 :: x7 :: x8 :: v :: xs := rfl
theorem get_10 {α : Type} {x0 x1 x2 x3 x4 x5 x6 x7 x8 x9 x10 : α} {xs : List α} : (x0 :: x1 :: x2 :: x3 :: x4 :: x5 :: x6 :: x7 :: x8 :: x9 :: x10 :: xs)[10]? = some x10 := rfl
theorem set_10 {α : Type} {x0 x1 x2 x3 x4 x5 x6 x7 x8 x9 x10 v : α} {xs : List α} : (x0 :: x1 :: x2 :: x3 :: x4 :: x5 :: x6 :: x7 :: x8 :: x9 :: x10 :: xs).set 10 v = x0 :: x1 :: x2 :: x3 :: x4 :: x5 :: x6 :: x7 :: x8 :: x9 :: v :: xs := rfl
theorem get_11 {α : Type} {x0 x1 x2 x3 x4 x5 x6 x7 x8 x9 x10 x11 : α} {xs : List α} : (x0 :: x1 :: x2 :: x3 :: x4 :: x5 :: x6 :: x7 :: x8 :: x9 :: x10 :: x11 :: xs)[11]? = some x11 := rfl
theorem set_11 {α : Type} {x0 x1 x2 x3 x4 x5 x6 x7 x8 x9 x10 x11 v : α} {xs : List α} : (x0 :: x1 :: x2 :: x3 :: x4 :: x5 :: x6 :: x7 :: x8 :: x9 :: x10 :: x11 :: xs).set 11 v = x0 :: x1 :: x2 :: x3 :: x4 :: x5 :: x6 :: x7 :: x8 :: x9 :: x10 :: v :: xs := rfl
theorem get_12 {α : Type} {x0 x1 x2 x3 x4 x5 x6 x7 x8 x9 x10 x11 x12 : α} {xs : List α} : (x0 :: x1 :: x2 :: x3 :: x4 :: x5 :: x6 :: x7 :: x8 :: x9 :: x10 :: x11 :: x12 :: xs)[12]? = some x12 := rfl
theorem set_12 {α : Type} {x0 x1 x2 x3 x4 x5 x6 x7 x8 x9 x10 x11 x12 v : α} {xs : List α} : (x0 :: x1 :: x2 :: x3 :: x4 :: x5 :: x6 :: x7 :: x8 :: x9 :: x10 :: x11 :: x12 :: xs).set 12 v = x0 :: x1 :: x2 :: x3 :: x4 :: x5 :: x6 :: x7 :: x8 :: x9 :: x10 :: x11 :: v :: xs := rfl
theorem get_13 {α : Type} {x0 x1 x2 x3 x4 x5 x6 x7 x8 x9 x10 x11 x12 x13 : α} {xs : List α} : (x0 :: x1 :: x2 :: x3 :: x4 :: x5 :: x6 :: x7 :: x8 :: x9 :: x10 :: x11 :: x12 :: x13 :: xs)[13]? = some x13 := rfl
theorem set_13 {α : Type} {x0 x1 x2 x3 x4 x5 x6 x7 x8 x9 x10 x11 x12 x13 v : α} {xs : List α} : (x0 :: x1 :: x2 :: x3 :: x4 :: x5 :: x6 :: x7 :: x8 :: x9 :: x10 :: x11 :: x12 :: x13 :: xs).set 13 v = x0 :: x1 :: x2 :: x3 :: x4 :: x5 :: x6 :: x7 :: x8 :: x9 :: x10 :: x11 :: x12 :: v :: xs := rfl
theorem get_14 {α : Type} {x0 x1 x2 x3 x4 x5 x6 x7 x8 x9 x10 x11 x12 x13 x14 : α} {xs : List α} : (x0 :: x1 :: x2 :: x3 :: x4 :: x5 :: x6 :: x7 :: x8 :: x9 :: x10 :: x11 :: x12 :: x13 :: x14 :: xs)[14]? = some x14 := rfl
theorem set_14 {α : Type} {x0 x1 x2 x3 x4 x5 x6 x7 x8 x9 x10 x11 x12 x13 x14 v : α} {xs : List α} : (x0 :: x1 :: x2 :: x3 :: x4 :: x5 :: x6 :: x7 :: x8 :: x9 :: x10 :: x11 :: x12 :: x13 :: x14 :: xs).set 14 v = x0 :: x1 :: x2 :: x3 :: x4 :: x5 :: x6 :: x7 :: x8 :: x9 :: x10 :: x11 :: x12 :: x13 :: v :: xs := rfl
theorem get_15 {α : Type} {x0 x1 x2 x3 x4 x5 x6 x7 x8 x9 x10 x11 x12 x13 x14 x15 : α} {xs : List α} : (x0 :: x1 :: x2 :: x3 :: x4 :: x5 :: x6 :: x7 :: x8 :: x9 :: x10 :: x11 :: x12 :: x13 :: x14 :: x15 :: xs)[15]? = some x15 := rfl
theorem set_15 {α : Type} {x0 x1 x2 x3 x4 x5 x6 x7 x8 x9 x10 x11 x12 x13 x14 x15 v : α} {xs : List α} : (x0 :: x1 :: x2 :: x3 :: x4 :: x5 :: x6 :: x7 :: x8 :: x9 :: x10 :: x11 :: x12 :: x13 :: x14 :: x15 :: xs).set 15 v = x0 :: x1 :: x2 :: x3 :: x4 :: x5 :: x6 :: x7 :: x8 :: x9 :: x10 :: x11 :: x12 :: x13 :: x14 :: v :: xs := rfl
theorem get_16 {α : Type} {x0 x1 x2 x3 x4 x5 x6 x7 x8 x9 x10 x11 x12 x13 x14 x15 x16 : α} {xs : List α} : (x0 :: x1 :: x2 :: x3 :: x4 :: x5 :: x6 :: x7 :: x8 :: x9 :: x10 :: x11 :: x12 :: x13 :: x14 :: x15 :: x16 :: xs)[16]? = some x16 := rfl
theorem set_16 {α : Type} {x0 x1 x2 x3 x4 x5 x6 x7 x8 x9 x10 x11 x12 x13 x14 x15 x16 v : α} {xs : List α} : (x0 :: x1 :: x2 :: x3 :: x4 :: x5 :: x6 :: x7 :: x8 :: x9 :: x10 :: x11 :: x12 :: x13 :: x14 :: x15 :: x16 :: xs).set 16 v = x0 :: x1 :: x2 :: x3 :: x4 :: x5 :: x6 :: x7 :: x8 :: x9 :: x10 :: x11 :: x12 :: x13 :: x14 :: x15 :: v :: xs := rfl
theorem get_17 {α : Type} {x0 x1 x2 x3 x4 x5 x6 x7 x8 x9 x10 x11 x12 x13 x14 x15 x16 x17 : α} {xs : List α} : (x0 :: x1 :: x2 :: x3 :: x4 :: x5 :: x6 :: x7 :: x8 :: x9 :: x10 :: x11 :: x12 :: x13 :: x14 :: x15 :: x16 :: x17 :: xs)[17]? = some x17 := rfl
theorem set_17 {α : Type} {x0 x1 x2 x3 x4 x5 x6 x7 x8 x9 x10 x11 x12 x13 x14 x15 x16 x17 v : α} {xs : List α} : (x0 :: x1 :: x2 :: x3 :: x4 :: x5 :: x6 :: x7 :: x8 :: x9 :: x10 :: x11 :: x12 :: x13 :: x14 :: x15 :: x16 :: x17 :: xs).set 17 v = x0 :: x1 :: x2 :: x3 :: x4 :: x5 :: x6 :: x7 :: x8 :: x9 :: x10 :: x11 :: x12 :: x13 :: x14 :: x15 :: x16 :: v :: xs := rfl
theorem get_18 {α : Type} {x0 x1 x2 x3 x4 x5 x6 x7 x8 x9 x10 x11 x12 x13 x14 x15 x16 x17 x18 : α} {xs : List α} : (x0 :: x1 :: x2 :: x3 :: x4 :: x5 :: x6 :: x7 :: x8 :: x9 :: x10 :: x11 :: x12 :: x13 :: x14 :: x15 :: x16 :: x17 :: x18 :: xs)[18]? = some x18 := rfl
theorem set_18 {α : Type} {x0 x1 x2 x3 x4 x5 x6 x7 x8 x9 x10 x11 x12 x13 x14 x15 x16 x17 x18 v : α} {xs : List α} : (x0 :: x1 :: x2 :: x3 :: x4 :: x5 :: x6 :: x7 :: x8 :: x9 :: x10 :: x11 :: x12 :: x13 :: x14 :: x15 :: x16 :: x17 :: x18 :: xs).set 18 v = x0 :: x1 :: x2 :: x3 :: x4 :: x5 :: x6 :: x7 :: x8 :: x9 :: x10 :: x11 :: x12 :: x13 :: x14 :: x15 :: x16 :: x17 :: v :: xs := rfl
theorem get_19 {α : Type} {x0 x1 x2 x3 x4 x5 x6 x7 x8 x9 x10 x11 x12 x13 x14 x15 x16 x17 x18 x19 : α} {xs : List α} : (x0 :: x1 :: x2 :: x3 :: x4 :: x5 :: x6 :: x7 :: x8 :: x9 :: x10 :: x11 :: x12 :: x13 :: x14 :: x15 :: x16 :: x17 :: x18 :: x19 :: xs)[19]? = some x19 := rfl
theorem set_19 {α : Type} {x0 x1 x2 x3 x4 x5 x6 x7 x8 x9 x10 x11 x12 x13 x14 x15 x16 x17 x18 x19 v : α} {xs : List α} : (x0 :: x1 :: x2 :: x3 :: x4 :: x5 :: x6 :: x7 :: x8 :: x9 :: x10 :: x11 :: x12 :: x13 :: x14 :: x15 :: x16 :: x17 :: x18 :: x19 :: xs).set 19 v = x0 :: x1 :: x2 :: x3 :: x4 :: x5 :: x6 :: x7 :: x8 :: x9 :: x10 :: x11 :: x12 :: x13 :: x14 :: x15 :: x16 :: x17 :: x18 :: v :: xs := rfl
theorem get_20 {α : Type} {x0 x1 x2 x3 x4 x5 x6 x7 x8 x9 x10 x11 x12 x13 x14 x15 x16 x17 x18 x19 x20 : α} {xs : List α} : (x0 :: x1 :: x2 :: x3 :: x4 :: x5 :: x6 :: x7 :: x8 :: x9 :: x10 :: x11 :: x12 :: x13 :: x14 :: x15 :: x16 :: x17 :: x18 :: x19 :: x20 :: xs)[20]? = some x20 := rfl
theorem set_20 {α : Type} {x0 x1 x2 x3 x4 x5 x6 x7 x8 x9 x10 x11 x12 x13 x14 x15 x16 x17 x18 x19 x20 v : α} {xs : List α} : (x0 :: x1 :: x2 :: x3 :: x4 :: x5 :: x6 :: x7 :: x8 :: x9 :: x10 :: x11 :: x12 :: x13 :: x14 :: x15 :: x16 :: x17 :: x18 :: x19 :: x20 :: xs).set 20 v = x0 :: x1 :: x2 :: x3 :: x4 :: x5 :: x6 :: x7 :: x8 :: x9 :: x10 :: x11 :: x12 :: x13 :: x14 :: x15 :: x16 :: x17 :: x18 :: x19 :: v :: xs := rfl
theorem mulOk_of {i j : Int} {a b : Nat} (hi : i.natAbs < 2 ^ a) (hj : j.natAbs < 2 ^ b) (h : a + b < 60000000 := by omega) : mulOk i j = true := by
  have key : ∀ {n k : Nat}, n < 2 ^ k → n.log2 ≤ k := fun {n k} h => by
    rcases Nat.eq_zero_or_pos n with rfl | hn
    · rw [show Nat.log2 0 = 0 from rfl]; exact Nat.zero_le _
    · exact Nat.le_of_lt ((Nat.log2_lt (by omega)).mpr h)
  unfold mulOk
  have := key hi
  have := key hj
  exact decide_eq_true (by omega)
end Ev
end
section
set_option Elab.async false
set_option linter.all false
set_option maxRecDepth 100000
namespace Ev
open PySem L2
/-! ### Euclid's loop -/
theorem euclid {c : Env → Store → R Bool} {b : Env → Store → RS} {st : Store} {F : Nat → Nat → Env} (M : Nat) (hc : ∀ x y, c (F x y) st = .ok (decide (0 < y)) st) (hb : ∀ x y, 0 < y → y < 2 ^ M → b (F x y) st = .next (F y (x % y)) st) :
    ∀ (k : Nat), k ≤ M → ∀ (x y n : Nat), y < 2 ^ k → 2 * k + 1 ≤ n → whileLoop c b n (F x y) st = .next (F (Nat.gcd x y) 0) st := by
  have step : ∀ x y n, 0 < y → y < 2 ^ M → whileLoop c b (n + 1) (F x y) st = whileLoop c b n (F y (x % y)) st := fun x y n h hM => by
    simp only [whileLoop, hc, R.bindS, decide_eq_true h, if_true, hb x y h hM]
  have stop : ∀ x n, whileLoop c b (n + 1) (F x 0) st = .next (F x 0) st := fun x n => by
    simp [whileLoop, hc, R.bindS]
  intro k
  induction k with
  | zero =>
    intro hk x y n hy hn
    obtain rfl : y = 0 := by simpa using hy
    obtain ⟨m, rfl⟩ : ∃ m, n = m + 1 := ⟨n - 1, by omega⟩
    rw [stop, Nat.gcd_zero_right]
  | succ k ih =>
    intro hk x y n hy hn
    have hM : ∀ {z : Nat}, z < 2 ^ (k + 1) → z < 2 ^ M := fun {z} h => Nat.lt_of_lt_of_le h (Nat.pow_le_pow_right (by omega) hk)
    by_cases h1 : y < 2 ^ k
    · exact ih (by omega) x y n h1 (by omega)
    have hy0 : 0 < y := by have := Nat.two_pow_pos k; omega
    obtain ⟨m, rfl⟩ : ∃ m, n = m + 1 := ⟨n - 1, by omega⟩
    rw [step x y m hy0 (hM hy)]
    have hr : x % y < y := Nat.mod_lt _ hy0
    have g1 : Nat.gcd x y = Nat.gcd y (x % y) := by rw [Nat.gcd_comm x y, Nat.gcd_rec y x, Nat.gcd_comm]
    rw [g1]
    by_cases h2 : x % y < 2 ^ k
    · exact ih (by omega) _ _ _ h2 (by omega)
    have hr0 : 0 < x % y := by have := Nat.two_pow_pos k; omega
    obtain ⟨m, rfl⟩ : ∃ j, m = j + 1 := ⟨m - 1, by omega⟩
    rw [step y _ m hr0 (hM (by omega))]
    have h3 : y % (x % y) < 2 ^ k := by
      have e : y % (x % y) = y - x % y := by
        rw [Nat.mod_eq_sub_mod (by omega), Nat.mod_eq_of_lt]
        rw [Nat.pow_succ] at hy
        omega
      rw [Nat.pow_succ] at hy
      omega
    have g2 : Nat.gcd y (x % y) = Nat.gcd (x % y) (y % (x % y)) := by rw [Nat.gcd_comm y, Nat.gcd_rec (x % y) y, Nat.gcd_comm]
    rw [g2]
    exact ih (by omega) _ _ _ h3 (by omega)
/-! ### sizes -/
def Sz (k : Nat) (i : Int) : Prop := i.natAbs < 2 ^ k
theorem Sz.mono {j k : Nat} {i : Int} (h : Sz j i) (e : j ≤ k := by omega) : Sz k i := Nat.lt_of_lt_of_le h (Nat.pow_le_pow_right (by omega) e)
theorem Sz.mul {j k : Nat} {a b : Int} (h : Sz j a) (g : Sz k b) : Sz (j + k) (a * b) := by
  unfold Sz at *
  rw [Int.natAbs_mul, Nat.pow_add]
  exact Nat.mul_lt_mul'' h g
theorem Sz.neg {j : Nat} {a : Int} (h : Sz j a) : Sz j (-a) := by
  unfold Sz at *
  rw [Int.natAbs_neg]; exact h
theorem Sz.add {j : Nat} {a b : Int} (h : Sz j a) (g : Sz j b) : Sz (j + 1) (a + b) := by
  unfold Sz at *
  rw [Nat.pow_succ]
  omega
theorem Sz.sub {j : Nat} {a b : Int} (h : Sz j a) (g : Sz j b) : Sz (j + 1) (a - b) := by
  unfold Sz at *
  rw [Nat.pow_succ]
  omega
theorem Sz.of {k : Nat} {i : Int} {m : Nat} (h : i.natAbs ≤ m) (e : m < 2 ^ k) : Sz k i := Nat.lt_of_le_of_lt h e
theorem Sz.mulOk {j k : Nat} {a b : Int} (h : Sz j a) (g : Sz k b) (e : j + k < 60000000 := by omega) : mulOk a b = true := mulOk_of h g e
theorem Sz.divOk {k : Nat} {j : Int} (h : Sz k j) (p : 0 < j) (e : k ≤ 9000 := by omega) : divOk j = true := by
  unfold Ev.divOk
  have h2 : j.natAbs.log2 < 9000 := by
    have : j.natAbs ≠ 0 := by omega
    have := (Nat.log2_lt this).mpr h
    omega
  simp [p, h2]
/-! ### shares -/
def shr (r : Rat) : PV := .tup [.int r.num, .int r.den]
def B (k : Nat) (r : Rat) : Prop := Sz k r.num ∧ Sz k r.den
theorem B.mono {j k : Nat} {r : Rat} (h : B j r) (e : j ≤ k := by omega) : B k r := ⟨h.1.mono e, h.2.mono e⟩
theorem den_pos' (r : Rat) : (0 : Int) < r.den := by have := r.den_pos; omega
theorem divInt_form {a b : Int} (h : 0 < b) : (Rat.divInt a b).num = a / (Int.gcd a b : Int) ∧ ((Rat.divInt a b).den : Int) = b / (Int.gcd a b : Int) := by
  rw [Rat.num_divInt, Rat.den_divInt, if_neg (by omega), Int.gcd_comm b a, Int.sign_eq_one_of_pos h, Int.one_mul]
  refine ⟨rfl, ?_⟩
  rw [Int.natCast_ediv, Int.natAbs_of_nonneg (by omega)]
theorem Sz.div {k : Nat} {a : Int} (h : Sz k a) (c : Int) : Sz k (a / c) := by
  unfold Sz at *
  exact Nat.lt_of_le_of_lt (Int.natAbs_ediv_le_natAbs a c) h
theorem B.divInt {k : Nat} {a b : Int} (ha : Sz k a) (hb : Sz k b) (h : 0 < b) : B k (Rat.divInt a b) := by
  obtain ⟨e1, e2⟩ := divInt_form (a := a) h
  exact ⟨by rw [e1]; exact ha.div _, by rw [e2]; exact hb.div _⟩
theorem add_form (r s : Rat) : r + s = Rat.divInt (r.num * s.den + s.num * r.den) (r.den * s.den) := by
  rw [Rat.add_def, Rat.normalize_eq_mkRat, ← Rat.divInt_ofNat]
  simp
theorem sub_form (r s : Rat) : r - s = Rat.divInt (r.num * s.den - s.num * r.den) (r.den * s.den) := by
  rw [Rat.sub_eq_add_neg, add_form]
  simp [Int.sub_eq_add_neg, Int.neg_mul]
theorem mul_form (r s : Rat) : r * s = Rat.divInt (r.num * s.num) (r.den * s.den) := by
  rw [Rat.mul_def, Rat.normalize_eq_mkRat, ← Rat.divInt_ofNat]
  simp
theorem B.mul {j k : Nat} {r s : Rat} (h : B j r) (g : B k s) : B (j + k) (r * s) := by
  rw [mul_form]
  exact .divInt (h.1.mul g.1) (h.2.mul g.2) (Int.mul_pos (den_pos' _) (den_pos' _))
theorem B.add {j k : Nat} {r s : Rat} (h : B j r) (g : B k s) : B (j + k + 1) (r + s) := by
  rw [add_form]
  exact .divInt (((h.1.mul g.2).add ((g.1.mul h.2).mono))) ((h.2.mul g.2).mono) (Int.mul_pos (den_pos' _) (den_pos' _))
theorem B.sub {j k : Nat} {r s : Rat} (h : B j r) (g : B k s) : B (j + k + 1) (r - s) := by
  rw [sub_form]
  exact .divInt (((h.1.mul g.2).sub ((g.1.mul h.2).mono))) ((h.2.mul g.2).mono) (Int.mul_pos (den_pos' _) (den_pos' _))
theorem B.neg {k : Nat} {r : Rat} (h : B k r) : B k (-r) := ⟨by rw [Rat.neg_num]; exact h.1.neg, by rw [Rat.neg_den]; exact h.2⟩
theorem shr_inv {s : Rat} (h : 0 < s.num) : (.tup [.int s.den, .int s.num] : PV) = shr s⁻¹ := by
  unfold shr
  rw [Rat.num_inv, Rat.den_inv, Int.sign_eq_one_of_pos h, if_neg (by omega)]
  simp only [Int.one_mul]
  rw [Int.natAbs_of_nonneg (by omega)]
theorem B.inv {k : Nat} {s : Rat} (h : B k s) (p : 0 < s.num) : B k s⁻¹ := by
  refine ⟨?_, ?_⟩
  · rw [Rat.num_inv, Int.sign_eq_one_of_pos p, Int.one_mul]; exact h.2
  · rw [Rat.den_inv, if_neg (by omega), Int.natAbs_of_nonneg (by omega)]; exact h.1

/-! ### the law's cup -/
def CupI (st : Store) : Prop := ∃ a b : Int, st = [.l [.int a, .int b]] ∧ 0 ≤ a ∧ Sz 1200000 a ∧ 0 ≤ b ∧ b < 2147483587
theorem Sz.mod {k : Nat} {a b : Int} (h0 : 0 ≤ a) (h : Sz k a) : Sz k (a % b) := by
  unfold Sz at *
  obtain ⟨x, rfl⟩ := Int.eq_ofNat_of_zero_le h0
  have e : ((x : Int) % b) = ((x % b.natAbs : Nat) : Int) := by
    rcases Int.natAbs_eq b with e | e
    · conv => lhs; rw [e]
      rfl
    · conv => lhs; rw [e, Int.emod_neg]
      rfl
  rw [e]
  simp only [Int.natAbs_natCast] at *
  exact Nat.lt_of_le_of_lt (Nat.mod_le _ _) h
theorem Sz.bits {z : Int} (h : PySem.Builtin.Int.intBits z ≤ 1048576) : Sz 1048576 z := by
  unfold Sz
  unfold PySem.Builtin.Int.intBits at h
  split at h
  · rename_i hz
    have : z = 0 := by simpa using hz
    subst this
    exact Nat.two_pow_pos _
  · rename_i hz
    have hz' : z ≠ 0 := by simpa using hz
    exact (Nat.log2_lt (by omega)).mp (by omega)
theorem Sz.ofLt {k : Nat} {a m : Int} (h0 : 0 ≤ a) (h : a < m) (e : m.natAbs < 2 ^ k := by decide) : Sz k a := by
  unfold Sz
  omega
/-- a share between whole numbers -/
theorem share_bounds {a b lo hi : Int} (hb : 0 < b) (h1 : lo * b ≤ a) (h2 : a ≤ hi * b) : lo * ((Rat.divInt a b).den : Int) ≤ (Rat.divInt a b).num ∧ (Rat.divInt a b).num ≤ hi * ((Rat.divInt a b).den : Int) ∧ ((Rat.divInt a b).den : Int) ≤ b := by
  obtain ⟨e1, e2⟩ := divInt_form (a := a) hb
  have hg : 0 < Int.gcd a b := Int.gcd_pos_of_ne_zero_right a (by omega)
  have hg' : (0 : Int) < (Int.gcd a b : Int) := by omega
  obtain ⟨p, hp⟩ := Int.gcd_dvd_left a b
  obtain ⟨q, hq⟩ := Int.gcd_dvd_right a b
  have f1 : a / (Int.gcd a b : Int) = p := by
    conv => lhs; lhs; rw [hp]
    exact Int.mul_ediv_cancel_left _ (by omega)
  have f2 : b / (Int.gcd a b : Int) = q := by
    conv => lhs; lhs; rw [hq]
    exact Int.mul_ediv_cancel_left _ (by omega)
  rw [e1, e2, f1, f2]
  generalize (Int.gcd a b : Int) = g at *
  rw [hp, hq] at h1 h2
  have k1 : g * (lo * q) ≤ g * p := by rw [Int.mul_left_comm] at h1; exact h1
  have k2 : g * p ≤ g * (hi * q) := by rw [Int.mul_left_comm hi] at h2; exact h2
  refine ⟨Int.le_of_mul_le_mul_left k1 hg', Int.le_of_mul_le_mul_left k2 hg', ?_⟩
  rw [hq]
  have hq0 : 0 < q := by
    rw [hq] at hb
    exact Int.pos_of_mul_pos_right hb hg'
  calc q = 1 * q := (Int.one_mul q).symm
    _ ≤ g * q := Int.mul_le_mul_of_nonneg_right (by omega) (by omega)
theorem ixN_0 {k : Nat} : ixN (k + 1) 0 = some 0 := by unfold ixN; simp
theorem ixN_1 {k : Nat} : ixN (k + 1 + 1) 1 = some 1 := by
  unfold ixN
  rw [if_pos (by omega), if_pos (by omega)]
  rfl
theorem CupI.trunc {st st' : Store} {v : PV} (h : CupI st) (h' : CupI st') : CupI (Ev.trunc st v st') := by
  obtain ⟨a, b, e, _⟩ := h
  rw [trunc_same]
  · exact h'
  · obtain ⟨a', b', e', _⟩ := h'
    rw [e, e']
    simp
theorem rgOk_nat {k : Nat} (h : k ≤ 1000000) : rgOk 0 (k : Int) = true := by
  unfold rgOk
  unfold lim
  simp only [Bool.and_eq_true, Nat.ble_eq]
  omega
theorem mem_rgV {k : Nat} {x : PV} (h : x ∈ rgV' 0 k) : ∃ i : Nat, i < k ∧ x = .int i := by
  unfold rgV' at h
  simp only [List.mem_map, List.mem_range] at h
  obtain ⟨i, hi, rfl⟩ := h
  exact ⟨i, hi, by simp⟩
theorem C_eqNil : pyCmp .eq (.lst []) (.lst []) = some true := rfl
theorem C_neNil : pyCmp .ne (.lst []) (.lst []) = some false := rfl
theorem C_neCons {x : PV} {xs : List PV} {d : PyData} {ds : List PyData} (h1 : x.toD = some d) (h2 : toDs xs = some ds) (h3 : SeqAt.shaped (.list (d :: ds)) = true) : pyCmp .ne (.lst (x :: xs)) (.lst []) = some true := by
  show (pyEq _ _).map _ = _
  unfold pyEq
  simp only [PV.toD, toDs, h1, h2]
  rw [Option.map_some]
  simp only [h3, show SeqAt.shaped (.list []) = true from rfl, Bool.and_self, if_true, Option.map_some, PyData.eqv, PyData.eqvAll]
  rfl
theorem C_eqD {a b : PV} {d e : PyData} (h1 : a.toD = some d) (h2 : b.toD = some e) (h3 : SeqAt.shaped d = true) (h4 : SeqAt.shaped e = true) : pyCmp .eq a b = some (PyData.eqv d e) := by
  show pyEq a b = _
  unfold pyEq
  rw [h1, h2]
  simp only [h3, h4, Bool.and_self, if_true]
theorem C_neD {a b : PV} {d e : PyData} (h1 : a.toD = some d) (h2 : b.toD = some e) (h3 : SeqAt.shaped d = true) (h4 : SeqAt.shaped e = true) : pyCmp .ne a b = some (!PyData.eqv d e) := by
  show (pyEq a b).map _ = _
  rw [show pyEq a b = some (PyData.eqv d e) from C_eqD h1 h2 h3 h4]
  rfl
/-- values that a law compares -/
def nice : Nat → PV → Prop
  | 0, _ => False
  | d + 1, .tup xs => xs.length ≤ 1000 ∧ ∀ x ∈ xs, nice d x
  | d + 1, .lst xs => xs.length ≤ 1000 ∧ ∀ x ∈ xs, nice d x
  | _ + 1, .int _ => True
  | _ + 1, .bl _ => True
  | _ + 1, .non => True
  | _ + 1, _ => False
theorem nice_shr {d : Nat} {r : Rat} : nice (d + 2) (shr r) := ⟨by simp, by simp [nice]⟩
theorem nice_spot {d : Nat} {x y : Rat} : nice (d + 3) (.tup [shr x, shr y]) := ⟨by simp, by
  intro v hv
  simp only [List.mem_cons, List.not_mem_nil, or_false] at hv
  rcases hv with rfl | rfl <;> exact nice_shr⟩
/-! ### turned, drawn -/
/-- turned by quarters -/
def rot : Nat → Rat × Rat → Rat × Rat
  | 0, p => p
  | n + 1, p => rot n (-p.2, p.1)
def rotI : Nat → Int × Int → Int × Int
  | 0, p => p
  | n + 1, p => rotI n (-p.2, p.1)
theorem rotI_eq {x y m : Rat} : ∀ (q : Nat) (a c : Int), (a : Rat) = x * m → (c : Rat) = y * m → ((rotI q (a, c)).1 : Rat) = (rot q (x, y)).1 * m ∧ ((rotI q (a, c)).2 : Rat) = (rot q (x, y)).2 * m := by
  intro q
  induction q generalizing x y with
  | zero => exact fun a c h g => ⟨h, g⟩
  | succ q ih =>
    intro a c h g
    exact ih (-c) a (by rw [Rat.intCast_neg, g]; grind) h
theorem rotI_sz {k : Nat} : ∀ (q : Nat) (a c : Int), Sz k a → Sz k c → Sz k (rotI q (a, c)).1 ∧ Sz k (rotI q (a, c)).2
  | 0, _, _, h, g => ⟨h, g⟩
  | q + 1, _, _, h, g => rotI_sz q _ _ g.neg h
theorem rat_form (x : Rat) : (x.num : Rat) = x * (x.den : Int) ∧ ((x.den : Int) : Rat) ≠ 0 := by
  have h : ((x.den : Int) : Rat) ≠ 0 := by
    intro e
    have := (Rat.intCast_inj (a := (x.den : Int)) (b := 0)).mp (by simpa using e)
    have := x.den_pos
    omega
  refine ⟨?_, h⟩
  have e := Rat.num_divInt_den x
  rw [Rat.divInt_eq_div] at e
  conv => rhs; lhs; rw [← e]
  grind
theorem divInt_of {a b : Int} {r : Rat} (hb : (b : Rat) ≠ 0) (h : (a : Rat) = r * b) : Rat.divInt a b = r := by
  rw [Rat.divInt_eq_div, h]
  grind
theorem rgV_len {k : Nat} {a : Int} : (rgV' a k).length = k := by simp [rgV']
theorem lim_le {k : Nat} (h : k ≤ 1000000) : k ≤ lim := h
theorem filterMap_no {α β : Type} : ∀ xs : List α, xs.filterMap (fun _ => (none : Option β)) = []
  | [] => rfl
  | _ :: xs => filterMap_no xs
end Ev
end
section
set_option Elab.async false
set_option linter.all false
set_option maxRecDepth 100000
set_option exponentiation.threshold 5000
namespace Ev
open PySem L2
/-! sizes, backwards -/
theorem Sz.mul2 {k : Nat} {a b : Int} (h : Sz (k / 2) a) (g : Sz (k / 2) b) : Sz k (a * b) := (h.mul g).mono
theorem Sz.add2 {k : Nat} {a b : Int} (h : Sz (k - 1) a) (g : Sz (k - 1) b) (p : 1 ≤ k) : Sz k (a + b) := (h.add g).mono
theorem Sz.sub2 {k : Nat} {a b : Int} (h : Sz (k - 1) a) (g : Sz (k - 1) b) (p : 1 ≤ k) : Sz k (a - b) := (h.sub g).mono
theorem B.n {k : Nat} {r : Rat} (h : B k r) : Sz k r.num := h.1
theorem B.d {k : Nat} {r : Rat} (h : B k r) : Sz k r.den := h.2
theorem B.mul2 {k : Nat} {r s : Rat} (h : B (k / 2) r) (g : B (k / 2) s) : B k (r * s) := (h.mul g).mono
theorem B.add2 {k : Nat} {r s : Rat} (h : B ((k - 1) / 2) r) (g : B ((k - 1) / 2) s) (p : 1 ≤ k) : B k (r + s) := (h.add g).mono
theorem B.sub2 {k : Nat} {r s : Rat} (h : B ((k - 1) / 2) r) (g : B ((k - 1) / 2) s) (p : 1 ≤ k) : B k (r - s) := (h.sub g).mono
theorem mulOk_sz {a b : Int} (h : Sz 3000 a) (g : Sz 3000 b) : mulOk a b = true := h.mulOk g
theorem divOk_sz {a : Int} (h : Sz 3000 a) (g : 0 < a) : divOk a = true := h.divOk g
theorem B_mulI' {i j : Int} (h : mulOk i j = true) : pyBin .mul (.int i) (.int j) = some (.int (i * j)) := by
  rw [B_mulI, if_pos h]
theorem B_divI' {i j : Int} (h : divOk j = true) : pyBin .fdiv (.int i) (.int j) = some (.int (i / j)) := by
  rw [B_divI, if_pos h]
theorem B_modI' {i j : Int} (h : 0 < j) : pyBin .mod (.int i) (.int j) = some (.int (i % j)) := by
  rw [B_modI, if_pos h]
/-! environments -/
def Keeps : List (Option PV) → Env → Prop
  | [], ρ => ρ = []
  | none :: fx, ρ => ∃ x ρ', ρ = x :: ρ' ∧ Keeps fx ρ'
  | some v :: fx, ρ => ∃ ρ', ρ = some v :: ρ' ∧ Keeps fx ρ'
def KI (fx : List (Option PV)) (P : Store → Prop) : Env → Store → Prop := fun ρ st => P st ∧ Keeps fx ρ
def OkSp (r : RS) (N : Env → Store → Prop) (Q : PV → Store → Prop) : Prop := OkS r N Q
theorem OkSp.of {r : RS} {N : Env → Store → Prop} {Q : PV → Store → Prop} (h : OkS r N Q) : OkSp r N Q := h
theorem OkSp.un {r : RS} {N : Env → Store → Prop} {Q : PV → Store → Prop} (h : OkSp r N Q) : OkS r N Q := h
theorem OkSp.to {r : RS} {N N' : Env → Store → Prop} {Q Q' : PV → Store → Prop} (h : OkSp r N Q) (k : ∀ v st, N v st → N' v st) (k2 : ∀ v st, Q v st → Q' v st) : OkS r N' Q' := OkS.mono h k k2
theorem Okp.of {α : Type} {r : R α} {Q : α → Store → Prop} (h : Ok r Q) : Okp r Q := h
/-- a for loop by what its environment keeps -/
theorem for_KI {f : PV → Env → Store → RS} {N : Env → Store → Prop} {Q : PV → Store → Prop} (fx : List (Option PV)) (P : Store → Prop) {xs : List PV} {ρ : Env} {st : Store} (h : KI fx P ρ st) (b : ∀ x ∈ xs, ∀ ρ st, P st → Keeps fx ρ → OkSp (f x ρ st) (KI fx P) Q) (k : ∀ ρ st, P st → Keeps fx ρ → OkSp (.next ρ st) N Q) : OkS (forLoop f xs ρ st) N Q :=
  for_inv (KI fx P) xs ρ st h (fun x hx ρ st hI => b x hx ρ st hI.1 hI.2) fun ρ st hI => k ρ st hI.1 hI.2
/-! small lists of numbers -/
theorem rgV_0 {a : Int} : rgV' a 0 = [] := rfl
theorem rgV_s {a : Int} {n : Nat} : rgV' a (n + 1) = .int a :: rgV' (a + 1) n := by
  unfold rgV'
  rw [List.range_succ_eq_map, List.map_cons, List.map_map]
  congr 1
  · simp
  · refine List.map_congr_left fun i _ => ?_
    simp only [Function.comp]
    congr 1
    omega
theorem I_shr0 {r : Rat} : pyIdx (shr r) (.int 0) = some (.int r.num) := rfl
theorem I_shr1 {r : Rat} : pyIdx (shr r) (.int 1) = some (.int r.den) := rfl
theorem D_shr {st : Store} {r : Rat} : deref st (shr r) = shr r := rfl
/-- a fact for omega -/
def OM (p : Prop) : Prop := p
theorem OM.mk {p : Prop} (h : p) : OM p := h
theorem decT {p : Prop} [Decidable p] (h : OM p) : decide p = true := decide_eq_true h
theorem decF {p : Prop} [Decidable p] (h : OM (¬ p)) : decide p = false := decide_eq_false h
theorem ty_int {i : Int} : tyOk (.int i) = true := rfl
theorem ty_bl {i : Bool} : tyOk (.bl i) = true := rfl
theorem ty_str {i : Str} : tyOk (.str i) = true := rfl
theorem ty_non : tyOk .non = true := rfl
theorem ty_tup {i : List PV} : tyOk (.tup i) = true := rfl
theorem ty_lst {i : List PV} : tyOk (.lst i) = true := rfl
theorem ty_shr {r : Rat} : tyOk (shr r) = true := rfl
def niceP (d : Nat) (v : PV) : Prop := nice d v
theorem nice_ok {d : Nat} {v : PV} (h : nice d v) : niceP d v := h
def nicel (d : Nat) (xs : List PV) : Prop := ∀ x ∈ xs, nice d x
theorem nicel_nil {d : Nat} : nicel d [] := fun x h => by simp at h
theorem nicel_cons {d : Nat} {x : PV} {xs : List PV} (h : nice d x) (g : nicel d xs) : nicel d (x :: xs) := fun y hy => by
  rcases List.mem_cons.mp hy with rfl | hy
  · exact h
  · exact g y hy
theorem nice_tup {d : Nat} {xs : List PV} (h : xs.length ≤ 1000) (g : nicel d xs) : nice (d + 1) (.tup xs) := ⟨h, g⟩
theorem nice_lst {d : Nat} {xs : List PV} (h : xs.length ≤ 1000) (g : nicel d xs) : nice (d + 1) (.lst xs) := ⟨h, g⟩
theorem nice_int {d : Nat} {i : Int} : nice (d + 1) (.int i) := trivial
theorem nice_bl {d : Nat} {i : Bool} : nice (d + 1) (.bl i) := trivial
theorem nice_non {d : Nat} : nice (d + 1) .non := trivial
theorem eqv_shr {x y : Rat} : PyData.eqv (.tuple [.int x.num, .int x.den]) (.tuple [.int y.num, .int y.den]) = decide (x = y) := by
  rw [Bool.eq_iff_iff]
  simp only [PyData.eqv, PyData.eqvAll, Bool.and_true, Bool.and_eq_true, beq_iff_eq, decide_eq_true_eq]
  constructor
  · rintro ⟨h1, h2⟩
    exact Rat.ext h1 (by omega)
  · rintro rfl
    exact ⟨rfl, rfl⟩
theorem C_eqR {x y : Rat} : pyCmp .eq (shr x) (shr y) = some (decide (x = y)) := by
  rw [C_eqD (d := .tuple [.int x.num, .int x.den]) (e := .tuple [.int y.num, .int y.den]) rfl rfl rfl rfl, eqv_shr]
theorem C_neR {x y : Rat} : pyCmp .ne (shr x) (shr y) = some (!decide (x = y)) := by
  rw [C_neD (d := .tuple [.int x.num, .int x.den]) (e := .tuple [.int y.num, .int y.den]) rfl rfl rfl rfl, eqv_shr]
theorem C_eqCons {x : PV} {xs : List PV} {d : PyData} {ds : List PyData} (h1 : x.toD = some d) (h2 : toDs xs = some ds) (h3 : SeqAt.shaped (.list (d :: ds)) = true) : pyCmp .eq (.lst (x :: xs)) (.lst []) = some false := by
  rw [C_eqD (d := .list (d :: ds)) (e := .list []) (by simp [PV.toD, toDs, h1, h2]) rfl h3 rfl]
  simp [PyData.eqv, PyData.eqvAll]
theorem C_eqI1 {i : Int} : pyCmp .eq (.lst [.int i]) (.lst []) = some false := C_eqCons rfl rfl rfl
theorem C_eqI2 {i j : Int} : pyCmp .eq (.lst [.int i, .int j]) (.lst []) = some false := C_eqCons rfl rfl rfl
theorem C_eqB1 {b : Bool} : pyCmp .eq (.lst [.bl b]) (.lst []) = some false := C_eqCons rfl rfl rfl
theorem shr_whole {i : Int} : (.tup [.int i, .int 1] : PV) = shr (i : Rat) := by
  unfold shr
  simp
theorem shr_int {i : Int} : shr (i : Rat) = .tup [.int i, .int 1] := shr_whole.symm
theorem Rv_tup {xs : List PV} : pyRev (.tup xs) = some (.tup xs.reverse) := rfl
theorem Rv_lst {xs : List PV} : pyRev (.lst xs) = some (.lst xs.reverse) := rfl
theorem isNo_shr {r : Rat} {g : Bool} : isNo (shr r) g = !g := rfl
theorem isNo_tup {xs : List PV} {g : Bool} : isNo (.tup xs) g = !g := rfl
theorem divInt_le {a b : Int} (hb : b ≠ 0) : (Rat.divInt a b).num.natAbs ≤ a.natAbs ∧ (Rat.divInt a b).den ≤ b.natAbs := by
  have key : ∀ x y : Int, 0 < y → (Rat.divInt x y).num.natAbs ≤ x.natAbs ∧ (Rat.divInt x y).den ≤ y.natAbs := by
    intro x y hy
    obtain ⟨e1, e2⟩ := divInt_form (a := x) hy
    constructor
    · rw [e1, Int.natAbs_ediv_of_dvd (Int.gcd_dvd_left _ _)]
      exact Nat.div_le_self _ _
    · have h := Int.ediv_le_self (Int.gcd x y : Int) (Int.le_of_lt hy)
      have : ((Rat.divInt x y).den : Int) ≤ y := by
        rw [e2]
        exact Int.ediv_le_self _ (Int.le_of_lt hy)
      omega
  by_cases h : b < 0
  · have := key (-a) (-b) (by omega)
    rw [Rat.neg_divInt_neg] at this
    omega
  · exact key a b (by omega)
theorem share_self (x : Rat) : Rat.divInt x.num x.den = x := by
  obtain ⟨e, n⟩ := rat_form x
  exact divInt_of n e
theorem share_mul {t : Int} (x : Rat) : Rat.divInt (t * x.num) x.den = (t : Rat) * x := by
  obtain ⟨e, n⟩ := rat_form x
  refine divInt_of n ?_
  rw [Rat.intCast_mul, e]
  grind
theorem isNo_non {g : Bool} : isNo .non g = g := rfl
theorem isNo_int {i : Int} {g : Bool} : isNo (.int i) g = !g := rfl
theorem isNo_bl {i : Bool} {g : Bool} : isNo (.bl i) g = !g := rfl
theorem isNo_str {i : Str} {g : Bool} : isNo (.str i) g = !g := rfl
theorem isNo_lst {i : List PV} {g : Bool} : isNo (.lst i) g = !g := rfl
theorem isNo_ref {i : Nat} {g : Bool} : isNo (.ref i) g = !g := rfl
theorem bindT_nm {i : Nat} {v : PV} {ρ : Env} : bindT (.nm i) v ρ = some (ρ.set i (some v)) := by simp only [bindT]
theorem bindT_tp {ts : Tg} {xs : List PV} {ρ : Env} : bindT (.tp ts) (.tup xs) ρ = bindTs ts xs ρ := by simp only [bindT]
theorem bindT_shr {ts : Tg} {r : Rat} {ρ : Env} : bindT (.tp ts) (shr r) ρ = bindTs ts [.int r.num, .int r.den] ρ := by simp only [bindT, shr]
theorem bindTs_nil {ρ : Env} : bindTs .nil [] ρ = some ρ := by simp only [bindTs]
theorem bindTs_cons {t ts : Tg} {x : PV} {xs : List PV} {ρ : Env} : bindTs (.cons t ts) (x :: xs) ρ = (bindT t x ρ).bind fun ρ' => bindTs ts xs ρ' := by
  simp only [bindTs]
  cases bindT t x ρ <;> rfl
theorem get_21 {α : Type} {x0 x1 x2 x3 x4 x5 x6 x7 x8 x9 x10 x11 x12 x13 x14 x15 x16 x17 x18 x19 x20 x21 : α} {xs : List α} : (x0 :: x1 :: x2 :: x3 :: x4 :: x5 :: x6 :: x7 :: x8 :: x9 :: x10 :: x11 :: x12 :: x13 :: x14 :: x15 :: x16 :: x17 :: x18 :: x19 :: x20 :: x21 :: xs)[21]? = some x21 := rfl
theorem set_21 {α : Type} {x0 x1 x2 x3 x4 x5 x6 x7 x8 x9 x10 x11 x12 x13 x14 x15 x16 x17 x18 x19 x20 x21 v : α} {xs : List α} : (x0 :: x1 :: x2 :: x3 :: x4 :: x5 :: x6 :: x7 :: x8 :: x9 :: x10 :: x11 :: x12 :: x13 :: x14 :: x15 :: x16 :: x17 :: x18 :: x19 :: x20 :: x21 :: xs).set 21 v = x0 :: x1 :: x2 :: x3 :: x4 :: x5 :: x6 :: x7 :: x8 :: x9 :: x10 :: x11 :: x12 :: x13 :: x14 :: x15 :: x16 :: x17 :: x18 :: x19 :: x20 :: v :: xs := rfl
theorem get_22 {α : Type} {x0 x1 x2 x3 x4 x5 x6 x7 x8 x9 x10 x11 x12 x13 x14 x15 x16 x17 x18 x19 x20 x21 x22 : α} {xs : List α} : (x0 :: x1 :: x2 :: x3 :: x4 :: x5 :: x6 :: x7 :: x8 :: x9 :: x10 :: x11 :: x12 :: x13 :: x14 :: x15 :: x16 :: x17 :: x18 :: x19 :: x20 :: x21 :: x22 :: xs)[22]? = some x22 := rfl
theorem set_22 {α : Type} {x0 x1 x2 x3 x4 x5 x6 x7 x8 x9 x10 x11 x12 x13 x14 x15 x16 x17 x18 x19 x20 x21 x22 v : α} {xs : List α} : (x0 :: x1 :: x2 :: x3 :: x4 :: x5 :: x6 :: x7 :: x8 :: x9 :: x10 :: x11 :: x12 :: x13 :: x14 :: x15 :: x16 :: x17 :: x18 :: x19 :: x20 :: x21 :: x22 :: xs).set 22 v = x0 :: x1 :: x2 :: x3 :: x4 :: x5 :: x6 :: x7 :: x8 :: x9 :: x10 :: x11 :: x12 :: x13 :: x14 :: x15 :: x16 :: x17 :: x18 :: x19 :: x20 :: x21 :: v :: xs := rfl
theorem get_23 {α : Type} {x0 x1 x2 x3 x4 x5 x6 x7 x8 x9 x10 x11 x12 x13 x14 x15 x16 x17 x18 x19 x20 x21 x22 x23 : α} {xs : List α} : (x0 :: x1 :: x2 :: x3 :: x4 :: x5 :: x6 :: x7 :: x8 :: x9 :: x10 :: x11 :: x12 :: x13 :: x14 :: x15 :: x16 :: x17 :: x18 :: x19 :: x20 :: x21 :: x22 :: x23 :: xs)[23]? = some x23 := rfl
theorem set_23 {α : Type} {x0 x1 x2 x3 x4 x5 x6 x7 x8 x9 x10 x11 x12 x13 x14 x15 x16 x17 x18 x19 x20 x21 x22 x23 v : α} {xs : List α} : (x0 :: x1 :: x2 :: x3 :: x4 :: x5 :: x6 :: x7 :: x8 :: x9 :: x10 :: x11 :: x12 :: x13 :: x14 :: x15 :: x16 :: x17 :: x18 :: x19 :: x20 :: x21 :: x22 :: x23 :: xs).set 23 v = x0 :: x1 :: x2 :: x3 :: x4 :: x5 :: x6 :: x7 :: x8 :: x9 :: x10 :: x11 :: x12 :: x13 :: x14 :: x15 :: x16 :: x17 :: x18 :: x19 :: x20 :: x21 :: x22 :: v :: xs := rfl
theorem get_24 {α : Type} {x0 x1 x2 x3 x4 x5 x6 x7 x8 x9 x10 x11 x12 x13 x14 x15 x16 x17 x18 x19 x20 x21 x22 x23 x24 : α} {xs : List α} : (x0 :: x1 :: x2 :: x3 :: x4 :: x5 :: x6 :: x7 :: x8 :: x9 :: x10 :: x11 :: x12 :: x13 :: x14 :: x15 :: x16 :: x17 :: x18 :: x19 :: x20 :: x21 :: x22 :: x23 :: x24 :: xs)[24]? = some x24 := rfl
theorem set_24 {α : Type} {x0 x1 x2 x3 x4 x5 x6 x7 x8 x9 x10 x11 x12 x13 x14 x15 x16 x17 x18 x19 x20 x21 x22 x23 x24 v : α} {xs : List α} : (x0 :: x1 :: x2 :: x3 :: x4 :: x5 :: x6 :: x7 :: x8 :: x9 :: x10 :: x11 :: x12 :: x13 :: x14 :: x15 :: x16 :: x17 :: x18 :: x19 :: x20 :: x21 :: x22 :: x23 :: x24 :: xs).set 24 v = x0 :: x1 :: x2 :: x3 :: x4 :: x5 :: x6 :: x7 :: x8 :: x9 :: x10 :: x11 :: x12 :: x13 :: x14 :: x15 :: x16 :: x17 :: x18 :: x19 :: x20 :: x21 :: x22 :: x23 :: v :: xs := rfl
theorem get_25 {α : Type} {x0 x1 x2 x3 x4 x5 x6 x7 x8 x9 x10 x11 x12 x13 x14 x15 x16 x17 x18 x19 x20 x21 x22 x23 x24 x25 : α} {xs : List α} : (x0 :: x1 :: x2 :: x3 :: x4 :: x5 :: x6 :: x7 :: x8 :: x9 :: x10 :: x11 :: x12 :: x13 :: x14 :: x15 :: x16 :: x17 :: x18 :: x19 :: x20 :: x21 :: x22 :: x23 :: x24 :: x25 :: xs)[25]? = some x25 := rfl
theorem set_25 {α : Type} {x0 x1 x2 x3 x4 x5 x6 x7 x8 x9 x10 x11 x12 x13 x14 x15 x16 x17 x18 x19 x20 x21 x22 x23 x24 x25 v : α} {xs : List α} : (x0 :: x1 :: x2 :: x3 :: x4 :: x5 :: x6 :: x7 :: x8 :: x9 :: x10 :: x11 :: x12 :: x13 :: x14 :: x15 :: x16 :: x17 :: x18 :: x19 :: x20 :: x21 :: x22 :: x23 :: x24 :: x25 :: xs).set 25 v = x0 :: x1 :: x2 :: x3 :: x4 :: x5 :: x6 :: x7 :: x8 :: x9 :: x10 :: x11 :: x12 :: x13 :: x14 :: x15 :: x16 :: x17 :: x18 :: x19 :: x20 :: x21 :: x22 :: x23 :: x24 :: v :: xs := rfl
theorem get_26 {α : Type} {x0 x1 x2 x3 x4 x5 x6 x7 x8 x9 x10 x11 x12 x13 x14 x15 x16 x17 x18 x19 x20 x21 x22 x23 x24 x25 x26 : α} {xs : List α} : (x0 :: x1 :: x2 :: x3 :: x4 :: x5 :: x6 :: x7 :: x8 :: x9 :: x10 :: x11 :: x12 :: x13 :: x14 :: x15 :: x16 :: x17 :: x18 :: x19 :: x20 :: x21 :: x22 :: x23 :: x24 :: x25 :: x26 :: xs)[26]? = some x26 := rfl
theorem set_26 {α : Type} {x0 x1 x2 x3 x4 x5 x6 x7 x8 x9 x10 x11 x12 x13 x14 x15 x16 x17 x18 x19 x20 x21 x22 x23 x24 x25 x26 v : α} {xs : List α} : (x0 :: x1 :: x2 :: x3 :: x4 :: x5 :: x6 :: x7 :: x8 :: x9 :: x10 :: x11 :: x12 :: x13 :: x14 :: x15 :: x16 :: x17 :: x18 :: x19 :: x20 :: x21 :: x22 :: x23 :: x24 :: x25 :: x26 :: xs).set 26 v = x0 :: x1 :: x2 :: x3 :: x4 :: x5 :: x6 :: x7 :: x8 :: x9 :: x10 :: x11 :: x12 :: x13 :: x14 :: x15 :: x16 :: x17 :: x18 :: x19 :: x20 :: x21 :: x22 :: x23 :: x24 :: x25 :: v :: xs := rfl
theorem get_27 {α : Type} {x0 x1 x2 x3 x4 x5 x6 x7 x8 x9 x10 x11 x12 x13 x14 x15 x16 x17 x18 x19 x20 x21 x22 x23 x24 x25 x26 x27 : α} {xs : List α} : (x0 :: x1 :: x2 :: x3 :: x4 :: x5 :: x6 :: x7 :: x8 :: x9 :: x10 :: x11 :: x12 :: x13 :: x14 :: x15 :: x16 :: x17 :: x18 :: x19 :: x20 :: x21 :: x22 :: x23 :: x24 :: x25 :: x26 :: x27 :: xs)[27]? = some x27 := rfl
theorem set_27 {α : Type} {x0 x1 x2 x3 x4 x5 x6 x7 x8 x9 x10 x11 x12 x13 x14 x15 x16 x17 x18 x19 x20 x21 x22 x23 x24 x25 x26 x27 v : α} {xs : List α} : (x0 :: x1 :: x2 :: x3 :: x4 :: x5 :: x6 :: x7 :: x8 :: x9 :: x10 :: x11 :: x12 :: x13 :: x14 :: x15 :: x16 :: x17 :: x18 :: x19 :: x20 :: x21 :: x22 :: x23 :: x24 :: x25 :: x26 :: x27 :: xs).set 27 v = x0 :: x1 :: x2 :: x3 :: x4 :: x5 :: x6 :: x7 :: x8 :: x9 :: x10 :: x11 :: x12 :: x13 :: x14 :: x15 :: x16 :: x17 :: x18 :: x19 :: x20 :: x21 :: x22 :: x23 :: x24 :: x25 :: x26 :: v :: xs := rfl
theorem get_28 {α : Type} {x0 x1 x2 x3 x4 x5 x6 x7 x8 x9 x10 x11 x12 x13 x14 x15 x16 x17 x18 x19 x20 x21 x22 x23 x24 x25 x26 x27 x28 : α} {xs : List α} : (x0 :: x1 :: x2 :: x3 :: x4 :: x5 :: x6 :: x7 :: x8 :: x9 :: x10 :: x11 :: x12 :: x13 :: x14 :: x15 :: x16 :: x17 :: x18 :: x19 :: x20 :: x21 :: x22 :: x23 :: x24 :: x25 :: x26 :: x27 :: x28 :: xs)[28]? = some x28 := rfl
theorem set_28 {α : Type} {x0 x1 x2 x3 x4 x5 x6 x7 x8 x9 x10 x11 x12 x13 x14 x15 x16 x17 x18 x19 x20 x21 x22 x23 x24 x25 x26 x27 x28 v : α} {xs : List α} : (x0 :: x1 :: x2 :: x3 :: x4 :: x5 :: x6 :: x7 :: x8 :: x9 :: x10 :: x11 :: x12 :: x13 :: x14 :: x15 :: x16 :: x17 :: x18 :: x19 :: x20 :: x21 :: x22 :: x23 :: x24 :: x25 :: x26 :: x27 :: x28 :: xs).set 28 v = x0 :: x1 :: x2 :: x3 :: x4 :: x5 :: x6 :: x7 :: x8 :: x9 :: x10 :: x11 :: x12 :: x13 :: x14 :: x15 :: x16 :: x17 :: x18 :: x19 :: x20 :: x21 :: x22 :: x23 :: x24 :: x25 :: x26 :: x27 :: v :: xs := rfl
theorem get_29 {α : Type} {x0 x1 x2 x3 x4 x5 x6 x7 x8 x9 x10 x11 x12 x13 x14 x15 x16 x17 x18 x19 x20 x21 x22 x23 x24 x25 x26 x27 x28 x29 : α} {xs : List α} : (x0 :: x1 :: x2 :: x3 :: x4 :: x5 :: x6 :: x7 :: x8 :: x9 :: x10 :: x11 :: x12 :: x13 :: x14 :: x15 :: x16 :: x17 :: x18 :: x19 :: x20 :: x21 :: x22 :: x23 :: x24 :: x25 :: x26 :: x27 :: x28 :: x29 :: xs)[29]? = some x29 := rfl
theorem set_29 {α : Type} {x0 x1 x2 x3 x4 x5 x6 x7 x8 x9 x10 x11 x12 x13 x14 x15 x16 x17 x18 x19 x20 x21 x22 x23 x24 x25 x26 x27 x28 x29 v : α} {xs : List α} : (x0 :: x1 :: x2 :: x3 :: x4 :: x5 :: x6 :: x7 :: x8 :: x9 :: x10 :: x11 :: x12 :: x13 :: x14 :: x15 :: x16 :: x17 :: x18 :: x19 :: x20 :: x21 :: x22 :: x23 :: x24 :: x25 :: x26 :: x27 :: x28 :: x29 :: xs).set 29 v = x0 :: x1 :: x2 :: x3 :: x4 :: x5 :: x6 :: x7 :: x8 :: x9 :: x10 :: x11 :: x12 :: x13 :: x14 :: x15 :: x16 :: x17 :: x18 :: x19 :: x20 :: x21 :: x22 :: x23 :: x24 :: x25 :: x26 :: x27 :: x28 :: v :: xs := rfl
theorem get_30 {α : Type} {x0 x1 x2 x3 x4 x5 x6 x7 x8 x9 x10 x11 x12 x13 x14 x15 x16 x17 x18 x19 x20 x21 x22 x23 x24 x25 x26 x27 x28 x29 x30 : α} {xs : List α} : (x0 :: x1 :: x2 :: x3 :: x4 :: x5 :: x6 :: x7 :: x8 :: x9 :: x10 :: x11 :: x12 :: x13 :: x14 :: x15 :: x16 :: x17 :: x18 :: x19 :: x20 :: x21 :: x22 :: x23 :: x24 :: x25 :: x26 :: x27 :: x28 :: x29 :: x30 :: xs)[30]? = some x30 := rfl
theorem set_30 {α : Type} {x0 x1 x2 x3 x4 x5 x6 x7 x8 x9 x10 x11 x12 x13 x14 x15 x16 x17 x18 x19 x20 x21 x22 x23 x24 x25 x26 x27 x28 x29 x30 v : α} {xs : List α} : (x0 :: x1 :: x2 :: x3 :: x4 :: x5 :: x6 :: x7 :: x8 :: x9 :: x10 :: x11 :: x12 :: x13 :: x14 :: x15 :: x16 :: x17 :: x18 :: x19 :: x20 :: x21 :: x22 :: x23 :: x24 :: x25 :: x26 :: x27 :: x28 :: x29 :: x30 :: xs).set 30 v = x0 :: x1 :: x2 :: x3 :: x4 :: x5 :: x6 :: x7 :: x8 :: x9 :: x10 :: x11 :: x12 :: x13 :: x14 :: x15 :: x16 :: x17 :: x18 :: x19 :: x20 :: x21 :: x22 :: x23 :: x24 :: x25 :: x26 :: x27 :: x28 :: x29 :: v :: xs := rfl
theorem get_31 {α : Type} {x0 x1 x2 x3 x4 x5 x6 x7 x8 x9 x10 x11 x12 x13 x14 x15 x16 x17 x18 x19 x20 x21 x22 x23 x24 x25 x26 x27 x28 x29 x30 x31 : α} {xs : List α} : (x0 :: x1 :: x2 :: x3 :: x4 :: x5 :: x6 :: x7 :: x8 :: x9 :: x10 :: x11 :: x12 :: x13 :: x14 :: x15 :: x16 :: x17 :: x18 :: x19 :: x20 :: x21 :: x22 :: x23 :: x24 :: x25 :: x26 :: x27 :: x28 :: x29 :: x30 :: x31 :: xs)[31]? = some x31 := rfl
theorem set_31 {α : Type} {x0 x1 x2 x3 x4 x5 x6 x7 x8 x9 x10 x11 x12 x13 x14 x15 x16 x17 x18 x19 x20 x21 x22 x23 x24 x25 x26 x27 x28 x29 x30 x31 v : α} {xs : List α} : (x0 :: x1 :: x2 :: x3 :: x4 :: x5 :: x6 :: x7 :: x8 :: x9 :: x10 :: x11 :: x12 :: x13 :: x14 :: x15 :: x16 :: x17 :: x18 :: x19 :: x20 :: x21 :: x22 :: x23 :: x24 :: x25 :: x26 :: x27 :: x28 :: x29 :: x30 :: x31 :: xs).set 31 v = x0 :: x1 :: x2 :: x3 :: x4 :: x5 :: x6 :: x7 :: x8 :: x9 :: x10 :: x11 :: x12 :: x13 :: x14 :: x15 :: x16 :: x17 :: x18 :: x19 :: x20 :: x21 :: x22 :: x23 :: x24 :: x25 :: x26 :: x27 :: x28 :: x29 :: x30 :: v :: xs := rfl
theorem get_32 {α : Type} {x0 x1 x2 x3 x4 x5 x6 x7 x8 x9 x10 x11 x12 x13 x14 x15 x16 x17 x18 x19 x20 x21 x22 x23 x24 x25 x26 x27 x28 x29 x30 x31 x32 : α} {xs : List α} : (x0 :: x1 :: x2 :: x3 :: x4 :: x5 :: x6 :: x7 :: x8 :: x9 :: x10 :: x11 :: x12 :: x13 :: x14 :: x15 :: x16 :: x17 :: x18 :: x19 :: x20 :: x21 :: x22 :: x23 :: x24 :: x25 :: x26 :: x27 :: x28 :: x29 :: x30 :: x31 :: x32 :: xs)[32]? = some x32 := rfl
theorem set_32 {α : Type} {x0 x1 x2 x3 x4 x5 x6 x7 x8 x9 x10 x11 x12 x13 x14 x15 x16 x17 x18 x19 x20 x21 x22 x23 x24 x25 x26 x27 x28 x29 x30 x31 x32 v : α} {xs : List α} : (x0 :: x1 :: x2 :: x3 :: x4 :: x5 :: x6 :: x7 :: x8 :: x9 :: x10 :: x11 :: x12 :: x13 :: x14 :: x15 :: x16 :: x17 :: x18 :: x19 :: x20 :: x21 :: x22 :: x23 :: x24 :: x25 :: x26 :: x27 :: x28 :: x29 :: x30 :: x31 :: x32 :: xs).set 32 v = x0 :: x1 :: x2 :: x3 :: x4 :: x5 :: x6 :: x7 :: x8 :: x9 :: x10 :: x11 :: x12 :: x13 :: x14 :: x15 :: x16 :: x17 :: x18 :: x19 :: x20 :: x21 :: x22 :: x23 :: x24 :: x25 :: x26 :: x27 :: x28 :: x29 :: x30 :: x31 :: v :: xs := rfl
theorem get_33 {α : Type} {x0 x1 x2 x3 x4 x5 x6 x7 x8 x9 x10 x11 x12 x13 x14 x15 x16 x17 x18 x19 x20 x21 x22 x23 x24 x25 x26 x27 x28 x29 x30 x31 x32 x33 : α} {xs : List α} : (x0 :: x1 :: x2 :: x3 :: x4 :: x5 :: x6 :: x7 :: x8 :: x9 :: x10 :: x11 :: x12 :: x13 :: x14 :: x15 :: x16 :: x17 :: x18 :: x19 :: x20 :: x21 :: x22 :: x23 :: x24 :: x25 :: x26 :: x27 :: x28 :: x29 :: x30 :: x31 :: x32 :: x33 :: xs)[33]? = some x33 := rfl
theorem set_33 {α : Type} {x0 x1 x2 x3 x4 x5 x6 x7 x8 x9 x10 x11 x12 x13 x14 x15 x16 x17 x18 x19 x20 x21 x22 x23 x24 x25 x26 x27 x28 x29 x30 x31 x32 x33 v : α} {xs : List α} : (x0 :: x1 :: x2 :: x3 :: x4 :: x5 :: x6 :: x7 :: x8 :: x9 :: x10 :: x11 :: x12 :: x13 :: x14 :: x15 :: x16 :: x17 :: x18 :: x19 :: x20 :: x21 :: x22 :: x23 :: x24 :: x25 :: x26 :: x27 :: x28 :: x29 :: x30 :: x31 :: x32 :: x33 :: xs).set 33 v = x0 :: x1 :: x2 :: x3 :: x4 :: x5 :: x6 :: x7 :: x8 :: x9 :: x10 :: x11 :: x12 :: x13 :: x14 :: x15 :: x16 :: x17 :: x18 :: x19 :: x20 :: x21 :: x22 :: x23 :: x24 :: x25 :: x26 :: x27 :: x28 :: x29 :: x30 :: x31 :: x32 :: v :: xs := rfl
theorem get_34 {α : Type} {x0 x1 x2 x3 x4 x5 x6 x7 x8 x9 x10 x11 x12 x13 x14 x15 x16 x17 x18 x19 x20 x21 x22 x23 x24 x25 x26 x27 x28 x29 x30 x31 x32 x33 x34 : α} {xs : List α} : (x0 :: x1 :: x2 :: x3 :: x4 :: x5 :: x6 :: x7 :: x8 :: x9 :: x10 :: x11 :: x12 :: x13 :: x14 :: x15 :: x16 :: x17 :: x18 :: x19 :: x20 :: x21 :: x22 :: x23 :: x24 :: x25 :: x26 :: x27 :: x28 :: x29 :: x30 :: x31 :: x32 :: x33 :: x34 :: xs)[34]? = some x34 := rfl
theorem set_34 {α : Type} {x0 x1 x2 x3 x4 x5 x6 x7 x8 x9 x10 x11 x12 x13 x14 x15 x16 x17 x18 x19 x20 x21 x22 x23 x24 x25 x26 x27 x28 x29 x30 x31 x32 x33 x34 v : α} {xs : List α} : (x0 :: x1 :: x2 :: x3 :: x4 :: x5 :: x6 :: x7 :: x8 :: x9 :: x10 :: x11 :: x12 :: x13 :: x14 :: x15 :: x16 :: x17 :: x18 :: x19 :: x20 :: x21 :: x22 :: x23 :: x24 :: x25 :: x26 :: x27 :: x28 :: x29 :: x30 :: x31 :: x32 :: x33 :: x34 :: xs).set 34 v = x0 :: x1 :: x2 :: x3 :: x4 :: x5 :: x6 :: x7 :: x8 :: x9 :: x10 :: x11 :: x12 :: x13 :: x14 :: x15 :: x16 :: x17 :: x18 :: x19 :: x20 :: x21 :: x22 :: x23 :: x24 :: x25 :: x26 :: x27 :: x28 :: x29 :: x30 :: x31 :: x32 :: x33 :: v :: xs := rfl
theorem get_35 {α : Type} {x0 x1 x2 x3 x4 x5 x6 x7 x8 x9 x10 x11 x12 x13 x14 x15 x16 x17 x18 x19 x20 x21 x22 x23 x24 x25 x26 x27 x28 x29 x30 x31 x32 x33 x34 x35 : α} {xs : List α} : (x0 :: x1 :: x2 :: x3 :: x4 :: x5 :: x6 :: x7 :: x8 :: x9 :: x10 :: x11 :: x12 :: x13 :: x14 :: x15 :: x16 :: x17 :: x18 :: x19 :: x20 :: x21 :: x22 :: x23 :: x24 :: x25 :: x26 :: x27 :: x28 :: x29 :: x30 :: x31 :: x32 :: x33 :: x34 :: x35 :: xs)[35]? = some x35 := rfl
theorem set_35 {α : Type} {x0 x1 x2 x3 x4 x5 x6 x7 x8 x9 x10 x11 x12 x13 x14 x15 x16 x17 x18 x19 x20 x21 x22 x23 x24 x25 x26 x27 x28 x29 x30 x31 x32 x33 x34 x35 v : α} {xs : List α} : (x0 :: x1 :: x2 :: x3 :: x4 :: x5 :: x6 :: x7 :: x8 :: x9 :: x10 :: x11 :: x12 :: x13 :: x14 :: x15 :: x16 :: x17 :: x18 :: x19 :: x20 :: x21 :: x22 :: x23 :: x24 :: x25 :: x26 :: x27 :: x28 :: x29 :: x30 :: x31 :: x32 :: x33 :: x34 :: x35 :: xs).set 35 v = x0 :: x1 :: x2 :: x3 :: x4 :: x5 :: x6 :: x7 :: x8 :: x9 :: x10 :: x11 :: x12 :: x13 :: x14 :: x15 :: x16 :: x17 :: x18 :: x19 :: x20 :: x21 :: x22 :: x23 :: x24 :: x25 :: x26 :: x27 :: x28 :: x29 :: x30 :: x31 :: x32 :: x33 :: x34 :: v :: xs := rfl
theorem get_36 {α : Type} {x0 x1 x2 x3 x4 x5 x6 x7 x8 x9 x10 x11 x12 x13 x14 x15 x16 x17 x18 x19 x20 x21 x22 x23 x24 x25 x26 x27 x28 x29 x30 x31 x32 x33 x34 x35 x36 : α} {xs : List α} : (x0 :: x1 :: x2 :: x3 :: x4 :: x5 :: x6 :: x7 :: x8 :: x9 :: x10 :: x11 :: x12 :: x13 :: x14 :: x15 :: x16 :: x17 :: x18 :: x19 :: x20 :: x21 :: x22 :: x23 :: x24 :: x25 :: x26 :: x27 :: x28 :: x29 :: x30 :: x31 :: x32 :: x33 :: x34 :: x35 :: x36 :: xs)[36]? = some x36 := rfl
theorem set_36 {α : Type} {x0 x1 x2 x3 x4 x5 x6 x7 x8 x9 x10 x11 x12 x13 x14 x15 x16 x17 x18 x19 x20 x21 x22 x23 x24 x25 x26 x27 x28 x29 x30 x31 x32 x33 x34 x35 x36 v : α} {xs : List α} : (x0 :: x1 :: x2 :: x3 :: x4 :: x5 :: x6 :: x7 :: x8 :: x9 :: x10 :: x11 :: x12 :: x13 :: x14 :: x15 :: x16 :: x17 :: x18 :: x19 :: x20 :: x21 :: x22 :: x23 :: x24 :: x25 :: x26 :: x27 :: x28 :: x29 :: x30 :: x31 :: x32 :: x33 :: x34 :: x35 :: x36 :: xs).set 36 v = x0 :: x1 :: x2 :: x3 :: x4 :: x5 :: x6 :: x7 :: x8 :: x9 :: x10 :: x11 :: x12 :: x13 :: x14 :: x15 :: x16 :: x17 :: x18 :: x19 :: x20 :: x21 :: x22 :: x23 :: x24 :: x25 :: x26 :: x27 :: x28 :: x29 :: x30 :: x31 :: x32 :: x33 :: x34 :: x35 :: v :: xs := rfl
theorem get_37 {α : Type} {x0 x1 x2 x3 x4 x5 x6 x7 x8 x9 x10 x11 x12 x13 x14 x15 x16 x17 x18 x19 x20 x21 x22 x23 x24 x25 x26 x27 x28 x29 x30 x31 x32 x33 x34 x35 x36 x37 : α} {xs : List α} : (x0 :: x1 :: x2 :: x3 :: x4 :: x5 :: x6 :: x7 :: x8 :: x9 :: x10 :: x11 :: x12 :: x13 :: x14 :: x15 :: x16 :: x17 :: x18 :: x19 :: x20 :: x21 :: x22 :: x23 :: x24 :: x25 :: x26 :: x27 :: x28 :: x29 :: x30 :: x31 :: x32 :: x33 :: x34 :: x35 :: x36 :: x37 :: xs)[37]? = some x37 := rfl
theorem set_37 {α : Type} {x0 x1 x2 x3 x4 x5 x6 x7 x8 x9 x10 x11 x12 x13 x14 x15 x16 x17 x18 x19 x20 x21 x22 x23 x24 x25 x26 x27 x28 x29 x30 x31 x32 x33 x34 x35 x36 x37 v : α} {xs : List α} : (x0 :: x1 :: x2 :: x3 :: x4 :: x5 :: x6 :: x7 :: x8 :: x9 :: x10 :: x11 :: x12 :: x13 :: x14 :: x15 :: x16 :: x17 :: x18 :: x19 :: x20 :: x21 :: x22 :: x23 :: x24 :: x25 :: x26 :: x27 :: x28 :: x29 :: x30 :: x31 :: x32 :: x33 :: x34 :: x35 :: x36 :: x37 :: xs).set 37 v = x0 :: x1 :: x2 :: x3 :: x4 :: x5 :: x6 :: x7 :: x8 :: x9 :: x10 :: x11 :: x12 :: x13 :: x14 :: x15 :: x16 :: x17 :: x18 :: x19 :: x20 :: x21 :: x22 :: x23 :: x24 :: x25 :: x26 :: x27 :: x28 :: x29 :: x30 :: x31 :: x32 :: x33 :: x34 :: x35 :: x36 :: v :: xs := rfl
theorem get_38 {α : Type} {x0 x1 x2 x3 x4 x5 x6 x7 x8 x9 x10 x11 x12 x13 x14 x15 x16 x17 x18 x19 x20 x21 x22 x23 x24 x25 x26 x27 x28 x29 x30 x31 x32 x33 x34 x35 x36 x37 x38 : α} {xs : List α} : (x0 :: x1 :: x2 :: x3 :: x4 :: x5 :: x6 :: x7 :: x8 :: x9 :: x10 :: x11 :: x12 :: x13 :: x14 :: x15 :: x16 :: x17 :: x18 :: x19 :: x20 :: x21 :: x22 :: x23 :: x24 :: x25 :: x26 :: x27 :: x28 :: x29 :: x30 :: x31 :: x32 :: x33 :: x34 :: x35 :: x36 :: x37 :: x38 :: xs)[38]? = some x38 := rfl
theorem set_38 {α : Type} {x0 x1 x2 x3 x4 x5 x6 x7 x8 x9 x10 x11 x12 x13 x14 x15 x16 x17 x18 x19 x20 x21 x22 x23 x24 x25 x26 x27 x28 x29 x30 x31 x32 x33 x34 x35 x36 x37 x38 v : α} {xs : List α} : (x0 :: x1 :: x2 :: x3 :: x4 :: x5 :: x6 :: x7 :: x8 :: x9 :: x10 :: x11 :: x12 :: x13 :: x14 :: x15 :: x16 :: x17 :: x18 :: x19 :: x20 :: x21 :: x22 :: x23 :: x24 :: x25 :: x26 :: x27 :: x28 :: x29 :: x30 :: x31 :: x32 :: x33 :: x34 :: x35 :: x36 :: x37 :: x38 :: xs).set 38 v = x0 :: x1 :: x2 :: x3 :: x4 :: x5 :: x6 :: x7 :: x8 :: x9 :: x10 :: x11 :: x12 :: x13 :: x14 :: x15 :: x16 :: x17 :: x18 :: x19 :: x20 :: x21 :: x22 :: x23 :: x24 :: x25 :: x26 :: x27 :: x28 :: x29 :: x30 :: x31 :: x32 :: x33 :: x34 :: x35 :: x36 :: x37 :: v :: xs := rfl
theorem get_39 {α : Type} {x0 x1 x2 x3 x4 x5 x6 x7 x8 x9 x10 x11 x12 x13 x14 x15 x16 x17 x18 x19 x20 x21 x22 x23 x24 x25 x26 x27 x28 x29 x30 x31 x32 x33 x34 x35 x36 x37 x38 x39 : α} {xs : List α} : (x0 :: x1 :: x2 :: x3 :: x4 :: x5 :: x6 :: x7 :: x8 :: x9 :: x10 :: x11 :: x12 :: x13 :: x14 :: x15 :: x16 :: x17 :: x18 :: x19 :: x20 :: x21 :: x22 :: x23 :: x24 :: x25 :: x26 :: x27 :: x28 :: x29 :: x30 :: x31 :: x32 :: x33 :: x34 :: x35 :: x36 :: x37 :: x38 :: x39 :: xs)[39]? = some x39 := rfl
theorem set_39 {α : Type} {x0 x1 x2 x3 x4 x5 x6 x7 x8 x9 x10 x11 x12 x13 x14 x15 x16 x17 x18 x19 x20 x21 x22 x23 x24 x25 x26 x27 x28 x29 x30 x31 x32 x33 x34 x35 x36 x37 x38 x39 v : α} {xs : List α} : (x0 :: x1 :: x2 :: x3 :: x4 :: x5 :: x6 :: x7 :: x8 :: x9 :: x10 :: x11 :: x12 :: x13 :: x14 :: x15 :: x16 :: x17 :: x18 :: x19 :: x20 :: x21 :: x22 :: x23 :: x24 :: x25 :: x26 :: x27 :: x28 :: x29 :: x30 :: x31 :: x32 :: x33 :: x34 :: x35 :: x36 :: x37 :: x38 :: x39 :: xs).set 39 v = x0 :: x1 :: x2 :: x3 :: x4 :: x5 :: x6 :: x7 :: x8 :: x9 :: x10 :: x11 :: x12 :: x13 :: x14 :: x15 :: x16 :: x17 :: x18 :: x19 :: x20 :: x21 :: x22 :: x23 :: x24 :: x25 :: x26 :: x27 :: x28 :: x29 :: x30 :: x31 :: x32 :: x33 :: x34 :: x35 :: x36 :: x37 :: x38 :: v :: xs := rfl
theorem get_40 {α : Type} {x0 x1 x2 x3 x4 x5 x6 x7 x8 x9 x10 x11 x12 x13 x14 x15 x16 x17 x18 x19 x20 x21 x22 x23 x24 x25 x26 x27 x28 x29 x30 x31 x32 x33 x34 x35 x36 x37 x38 x39 x40 : α} {xs : List α} : (x0 :: x1 :: x2 :: x3 :: x4 :: x5 :: x6 :: x7 :: x8 :: x9 :: x10 :: x11 :: x12 :: x13 :: x14 :: x15 :: x16 :: x17 :: x18 :: x19 :: x20 :: x21 :: x22 :: x23 :: x24 :: x25 :: x26 :: x27 :: x28 :: x29 :: x30 :: x31 :: x32 :: x33 :: x34 :: x35 :: x36 :: x37 :: x38 :: x39 :: x40 :: xs)[40]? = some x40 := rfl
theorem set_40 {α : Type} {x0 x1 x2 x3 x4 x5 x6 x7 x8 x9 x10 x11 x12 x13 x14 x15 x16 x17 x18 x19 x20 x21 x22 x23 x24 x25 x26 x27 x28 x29 x30 x31 x32 x33 x34 x35 x36 x37 x38 x39 x40 v : α} {xs : List α} : (x0 :: x1 :: x2 :: x3 :: x4 :: x5 :: x6 :: x7 :: x8 :: x9 :: x10 :: x11 :: x12 :: x13 :: x14 :: x15 :: x16 :: x17 :: x18 :: x19 :: x20 :: x21 :: x22 :: x23 :: x24 :: x25 :: x26 :: x27 :: x28 :: x29 :: x30 :: x31 :: x32 :: x33 :: x34 :: x35 :: x36 :: x37 :: x38 :: x39 :: x40 :: xs).set 40 v = x0 :: x1 :: x2 :: x3 :: x4 :: x5 :: x6 :: x7 :: x8 :: x9 :: x10 :: x11 :: x12 :: x13 :: x14 :: x15 :: x16 :: x17 :: x18 :: x19 :: x20 :: x21 :: x22 :: x23 :: x24 :: x25 :: x26 :: x27 :: x28 :: x29 :: x30 :: x31 :: x32 :: x33 :: x34 :: x35 :: x36 :: x37 :: x38 :: x39 :: v :: xs := rfl
theorem get_41 {α : Type} {x0 x1 x2 x3 x4 x5 x6 x7 x8 x9 x10 x11 x12 x13 x14 x15 x16 x17 x18 x19 x20 x21 x22 x23 x24 x25 x26 x27 x28 x29 x30 x31 x32 x33 x34 x35 x36 x37 x38 x39 x40 x41 : α} {xs : List α} : (x0 :: x1 :: x2 :: x3 :: x4 :: x5 :: x6 :: x7 :: x8 :: x9 :: x10 :: x11 :: x12 :: x13 :: x14 :: x15 :: x16 :: x17 :: x18 :: x19 :: x20 :: x21 :: x22 :: x23 :: x24 :: x25 :: x26 :: x27 :: x28 :: x29 :: x30 :: x31 :: x32 :: x33 :: x34 :: x35 :: x36 :: x37 :: x38 :: x39 :: x40 :: x41 :: xs)[41]? = some x41 := rfl
theorem set_41 {α : Type} {x0 x1 x2 x3 x4 x5 x6 x7 x8 x9 x10 x11 x12 x13 x14 x15 x16 x17 x18 x19 x20 x21 x22 x23 x24 x25 x26 x27 x28 x29 x30 x31 x32 x33 x34 x35 x36 x37 x38 x39 x40 x41 v : α} {xs : List α} : (x0 :: x1 :: x2 :: x3 :: x4 :: x5 :: x6 :: x7 :: x8 :: x9 :: x10 :: x11 :: x12 :: x13 :: x14 :: x15 :: x16 :: x17 :: x18 :: x19 :: x20 :: x21 :: x22 :: x23 :: x24 :: x25 :: x26 :: x27 :: x28 :: x29 :: x30 :: x31 :: x32 :: x33 :: x34 :: x35 :: x36 :: x37 :: x38 :: x39 :: x40 :: x41 :: xs).set 41 v = x0 :: x1 :: x2 :: x3 :: x4 :: x5 :: x6 :: x7 :: x8 :: x9 :: x10 :: x11 :: x12 :: x13 :: x14 :: x15 :: x16 :: x17 :: x18 :: x19 :: x20 :: x21 :: x22 :: x23 :: x24 :: x25 :: x26 :: x27 :: x28 :: x29 :: x30 :: x31 :: x32 :: x33 :: x34 :: x35 :: x36 :: x37 :: x38 :: x39 :: x40 :: v :: xs := rfl
theorem get_42 {α : Type} {x0 x1 x2 x3 x4 x5 x6 x7 x8 x9 x10 x11 x12 x13 x14 x15 x16 x17 x18 x19 x20 x21 x22 x23 x24 x25 x26 x27 x28 x29 x30 x31 x32 x33 x34 x35 x36 x37 x38 x39 x40 x41 x42 : α} {xs : List α} : (x0 :: x1 :: x2 :: x3 :: x4 :: x5 :: x6 :: x7 :: x8 :: x9 :: x10 :: x11 :: x12 :: x13 :: x14 :: x15 :: x16 :: x17 :: x18 :: x19 :: x20 :: x21 :: x22 :: x23 :: x24 :: x25 :: x26 :: x27 :: x28 :: x29 :: x30 :: x31 :: x32 :: x33 :: x34 :: x35 :: x36 :: x37 :: x38 :: x39 :: x40 :: x41 :: x42 :: xs)[42]? = some x42 := rfl
theorem set_42 {α : Type} {x0 x1 x2 x3 x4 x5 x6 x7 x8 x9 x10 x11 x12 x13 x14 x15 x16 x17 x18 x19 x20 x21 x22 x23 x24 x25 x26 x27 x28 x29 x30 x31 x32 x33 x34 x35 x36 x37 x38 x39 x40 x41 x42 v : α} {xs : List α} : (x0 :: x1 :: x2 :: x3 :: x4 :: x5 :: x6 :: x7 :: x8 :: x9 :: x10 :: x11 :: x12 :: x13 :: x14 :: x15 :: x16 :: x17 :: x18 :: x19 :: x20 :: x21 :: x22 :: x23 :: x24 :: x25 :: x26 :: x27 :: x28 :: x29 :: x30 :: x31 :: x32 :: x33 :: x34 :: x35 :: x36 :: x37 :: x38 :: x39 :: x40 :: x41 :: x42 :: xs).set 42 v = x0 :: x1 :: x2 :: x3 :: x4 :: x5 :: x6 :: x7 :: x8 :: x9 :: x10 :: x11 :: x12 :: x13 :: x14 :: x15 :: x16 :: x17 :: x18 :: x19 :: x20 :: x21 :: x22 :: x23 :: x24 :: x25 :: x26 :: x27 :: x28 :: x29 :: x30 :: x31 :: x32 :: x33 :: x34 :: x35 :: x36 :: x37 :: x38 :: x39 :: x40 :: x41 :: v :: xs := rfl
theorem get_43 {α : Type} {x0 x1 x2 x3 x4 x5 x6 x7 x8 x9 x10 x11 x12 x13 x14 x15 x16 x17 x18 x19 x20 x21 x22 x23 x24 x25 x26 x27 x28 x29 x30 x31 x32 x33 x34 x35 x36 x37 x38 x39 x40 x41 x42 x43 : α} {xs : List α} : (x0 :: x1 :: x2 :: x3 :: x4 :: x5 :: x6 :: x7 :: x8 :: x9 :: x10 :: x11 :: x12 :: x13 :: x14 :: x15 :: x16 :: x17 :: x18 :: x19 :: x20 :: x21 :: x22 :: x23 :: x24 :: x25 :: x26 :: x27 :: x28 :: x29 :: x30 :: x31 :: x32 :: x33 :: x34 :: x35 :: x36 :: x37 :: x38 :: x39 :: x40 :: x41 :: x42 :: x43 :: xs)[43]? = some x43 := rfl
theorem set_43 {α : Type} {x0 x1 x2 x3 x4 x5 x6 x7 x8 x9 x10 x11 x12 x13 x14 x15 x16 x17 x18 x19 x20 x21 x22 x23 x24 x25 x26 x27 x28 x29 x30 x31 x32 x33 x34 x35 x36 x37 x38 x39 x40 x41 x42 x43 v : α} {xs : List α} : (x0 :: x1 :: x2 :: x3 :: x4 :: x5 :: x6 :: x7 :: x8 :: x9 :: x10 :: x11 :: x12 :: x13 :: x14 :: x15 :: x16 :: x17 :: x18 :: x19 :: x20 :: x21 :: x22 :: x23 :: x24 :: x25 :: x26 :: x27 :: x28 :: x29 :: x30 :: x31 :: x32 :: x33 :: x34 :: x35 :: x36 :: x37 :: x38 :: x39 :: x40 :: x41 :: x42 :: x43 :: xs).set 43 v = x0 :: x1 :: x2 :: x3 :: x4 :: x5 :: x6 :: x7 :: x8 :: x9 :: x10 :: x11 :: x12 :: x13 :: x14 :: x15 :: x16 :: x17 :: x18 :: x19 :: x20 :: x21 :: x22 :: x23 :: x24 :: x25 :: x26 :: x27 :: x28 :: x29 :: x30 :: x31 :: x32 :: x33 :: x34 :: x35 :: x36 :: x37 :: x38 :: x39 :: x40 :: x41 :: x42 :: v :: xs := rfl
theorem get_44 {α : Type} {x0 x1 x2 x3 x4 x5 x6 x7 x8 x9 x10 x11 x12 x13 x14 x15 x16 x17 x18 x19 x20 x21 x22 x23 x24 x25 x26 x27 x28 x29 x30 x31 x32 x33 x34 x35 x36 x37 x38 x39 x40 x41 x42 x43 x44 : α} {xs : List α} : (x0 :: x1 :: x2 :: x3 :: x4 :: x5 :: x6 :: x7 :: x8 :: x9 :: x10 :: x11 :: x12 :: x13 :: x14 :: x15 :: x16 :: x17 :: x18 :: x19 :: x20 :: x21 :: x22 :: x23 :: x24 :: x25 :: x26 :: x27 :: x28 :: x29 :: x30 :: x31 :: x32 :: x33 :: x34 :: x35 :: x36 :: x37 :: x38 :: x39 :: x40 :: x41 :: x42 :: x43 :: x44 :: xs)[44]? = some x44 := rfl
theorem set_44 {α : Type} {x0 x1 x2 x3 x4 x5 x6 x7 x8 x9 x10 x11 x12 x13 x14 x15 x16 x17 x18 x19 x20 x21 x22 x23 x24 x25 x26 x27 x28 x29 x30 x31 x32 x33 x34 x35 x36 x37 x38 x39 x40 x41 x42 x43 x44 v : α} {xs : List α} : (x0 :: x1 :: x2 :: x3 :: x4 :: x5 :: x6 :: x7 :: x8 :: x9 :: x10 :: x11 :: x12 :: x13 :: x14 :: x15 :: x16 :: x17 :: x18 :: x19 :: x20 :: x21 :: x22 :: x23 :: x24 :: x25 :: x26 :: x27 :: x28 :: x29 :: x30 :: x31 :: x32 :: x33 :: x34 :: x35 :: x36 :: x37 :: x38 :: x39 :: x40 :: x41 :: x42 :: x43 :: x44 :: xs).set 44 v = x0 :: x1 :: x2 :: x3 :: x4 :: x5 :: x6 :: x7 :: x8 :: x9 :: x10 :: x11 :: x12 :: x13 :: x14 :: x15 :: x16 :: x17 :: x18 :: x19 :: x20 :: x21 :: x22 :: x23 :: x24 :: x25 :: x26 :: x27 :: x28 :: x29 :: x30 :: x31 :: x32 :: x33 :: x34 :: x35 :: x36 :: x37 :: x38 :: x39 :: x40 :: x41 :: x42 :: x43 :: v :: xs := rfl
theorem get_45 {α : Type} {x0 x1 x2 x3 x4 x5 x6 x7 x8 x9 x10 x11 x12 x13 x14 x15 x16 x17 x18 x19 x20 x21 x22 x23 x24 x25 x26 x27 x28 x29 x30 x31 x32 x33 x34 x35 x36 x37 x38 x39 x40 x41 x42 x43 x44 x45 : α} {xs : List α} : (x0 :: x1 :: x2 :: x3 :: x4 :: x5 :: x6 :: x7 :: x8 :: x9 :: x10 :: x11 :: x12 :: x13 :: x14 :: x15 :: x16 :: x17 :: x18 :: x19 :: x20 :: x21 :: x22 :: x23 :: x24 :: x25 :: x26 :: x27 :: x28 :: x29 :: x30 :: x31 :: x32 :: x33 :: x34 :: x35 :: x36 :: x37 :: x38 :: x39 :: x40 :: x41 :: x42 :: x43 :: x44 :: x45 :: xs)[45]? = some x45 := rfl
theorem set_45 {α : Type} {x0 x1 x2 x3 x4 x5 x6 x7 x8 x9 x10 x11 x12 x13 x14 x15 x16 x17 x18 x19 x20 x21 x22 x23 x24 x25 x26 x27 x28 x29 x30 x31 x32 x33 x34 x35 x36 x37 x38 x39 x40 x41 x42 x43 x44 x45 v : α} {xs : List α} : (x0 :: x1 :: x2 :: x3 :: x4 :: x5 :: x6 :: x7 :: x8 :: x9 :: x10 :: x11 :: x12 :: x13 :: x14 :: x15 :: x16 :: x17 :: x18 :: x19 :: x20 :: x21 :: x22 :: x23 :: x24 :: x25 :: x26 :: x27 :: x28 :: x29 :: x30 :: x31 :: x32 :: x33 :: x34 :: x35 :: x36 :: x37 :: x38 :: x39 :: x40 :: x41 :: x42 :: x43 :: x44 :: x45 :: xs).set 45 v = x0 :: x1 :: x2 :: x3 :: x4 :: x5 :: x6 :: x7 :: x8 :: x9 :: x10 :: x11 :: x12 :: x13 :: x14 :: x15 :: x16 :: x17 :: x18 :: x19 :: x20 :: x21 :: x22 :: x23 :: x24 :: x25 :: x26 :: x27 :: x28 :: x29 :: x30 :: x31 :: x32 :: x33 :: x34 :: x35 :: x36 :: x37 :: x38 :: x39 :: x40 :: x41 :: x42 :: x43 :: x44 :: v :: xs := rfl
end Ev
end
section
set_option Elab.async false
set_option linter.all false
set_option maxRecDepth 100000
set_option maxHeartbeats 4000000
set_option exponentiation.threshold 5000
namespace Ev
open PySem L2
/-! ### bounds of shares -/
def bd (n d : Nat) (r : Rat) : Prop := r.num.natAbs ≤ n ∧ r.den ≤ d
theorem bd.mono {n d n' d' : Nat} {r : Rat} (h : bd n d r) (a : n ≤ n' := by decide) (b : d ≤ d' := by decide) : bd n' d' r := ⟨Nat.le_trans h.1 a, Nat.le_trans h.2 b⟩
theorem bd.B {n d k : Nat} {r : Rat} (h : bd n d r) (a : n < 2 ^ k := by decide) (b : d < 2 ^ k := by decide) : B k r := ⟨Nat.lt_of_le_of_lt h.1 a, Nat.lt_of_le_of_lt (by simpa using h.2) b⟩
theorem bd.neg {n d : Nat} {r : Rat} (h : bd n d r) : bd n d (-r) := ⟨by rw [Rat.neg_num, Int.natAbs_neg]; exact h.1, by rw [Rat.neg_den]; exact h.2⟩
theorem bd.divInt {a b : Int} {n d : Nat} (h : a.natAbs ≤ n) (g : b.natAbs ≤ d) (p : b ≠ 0) : bd n d (Rat.divInt a b) := ⟨Nat.le_trans (divInt_le p).1 h, Nat.le_trans (divInt_le p).2 g⟩
theorem bd.mul {n d n' d' : Nat} {r s : Rat} (h : bd n d r) (g : bd n' d' s) : bd (n * n') (d * d') (r * s) := by
  rw [mul_form]
  have := Int.mul_pos (den_pos' r) (den_pos' s)
  refine bd.divInt ?_ ?_ (by omega)
  · rw [Int.natAbs_mul]; exact Nat.mul_le_mul h.1 g.1
  · rw [Int.natAbs_mul]; exact Nat.mul_le_mul (by simpa using h.2) (by simpa using g.2)
theorem bd.add {n d n' d' : Nat} {r s : Rat} (h : bd n d r) (g : bd n' d' s) : bd (n * d' + n' * d) (d * d') (r + s) := by
  rw [add_form]
  have := Int.mul_pos (den_pos' r) (den_pos' s)
  refine bd.divInt ?_ ?_ (by omega)
  · refine Nat.le_trans (Int.natAbs_add_le _ _) (Nat.add_le_add ?_ ?_)
    · rw [Int.natAbs_mul]; exact Nat.mul_le_mul h.1 (by simpa using g.2)
    · rw [Int.natAbs_mul]; exact Nat.mul_le_mul g.1 (by simpa using h.2)
  · rw [Int.natAbs_mul]; exact Nat.mul_le_mul (by simpa using h.2) (by simpa using g.2)
theorem bd.sub {n d n' d' : Nat} {r s : Rat} (h : bd n d r) (g : bd n' d' s) : bd (n * d' + n' * d) (d * d') (r - s) := by
  rw [Rat.sub_eq_add_neg]; exact h.add g.neg
theorem bd.inv {n d : Nat} {r : Rat} (h : bd n d r) (p : 0 < r.num) : bd d n r⁻¹ := by
  have e := shr_inv p
  unfold shr at e
  simp only [PV.tup.injEq, List.cons.injEq, PV.int.injEq, and_true] at e
  obtain ⟨e1, e2⟩ := e
  have h1 := h.1
  have h2 := h.2
  exact ⟨by omega, by omega⟩
theorem pos_of_num {r : Rat} (h : 0 < r.num) : 0 < r := Rat.lt_of_le_of_ne (Rat.num_nonneg.mp (by omega)) fun e => by
  rw [← e] at h
  exact absurd h (by decide)
theorem num_of_pos {r : Rat} (h : 0 < r) : 0 < r.num := by
  have h1 := Rat.num_nonneg.mpr (Rat.le_of_lt h)
  have h2 : r.num ≠ 0 := fun e => by
    rw [Rat.num_eq_zero.mp e] at h
    exact absurd h (by decide)
  omega
theorem num_pos_mul {r s : Rat} (h : 0 < r.num) (g : 0 < s.num) : 0 < (r * s).num := num_of_pos (Rat.mul_pos (pos_of_num h) (pos_of_num g))
theorem num_pos_inv {r : Rat} (h : 0 < r.num) : 0 < (r⁻¹).num := by
  have e := shr_inv h
  unfold shr at e
  simp only [PV.tup.injEq, List.cons.injEq, PV.int.injEq, and_true] at e
  have := r.den_pos
  omega
/-! ### spots and maps -/
structure Mp where
  q : Int
  s : Rat
  u : Rat
  v : Rat
  deriving DecidableEq
def spt (p : Rat × Rat) : PV := .tup [shr p.1, shr p.2]
def mpv (M : Mp) : PV := .tup [.int M.q, shr M.s, spt (M.u, M.v)]
def act (M : Mp) (p : Rat × Rat) : Rat × Rat := (M.s * (rot M.q.toNat p).1 + M.u, M.s * (rot M.q.toNat p).2 + M.v)
def comp (M N : Mp) : Mp := ⟨(M.q + N.q) % 4, M.s * N.s, (act N (M.u, M.v)).1, (act N (M.u, M.v)).2⟩
def unact (M : Mp) (p : Rat × Rat) : Rat × Rat := rot ((4 - M.q) % 4).toNat (M.s⁻¹ * (p.1 - M.u), M.s⁻¹ * (p.2 - M.v))
def ident : Mp := ⟨0, 1, 0, 0⟩
def minv (M : Mp) : Mp := ⟨(4 - M.q) % 4, M.s⁻¹, (unact M (0, 0)).1, (unact M (0, 0)).2⟩
structure okM (M : Mp) : Prop where
  q0 : 0 ≤ M.q
  q3 : M.q ≤ 3
  p : 0 < M.s.num
theorem okM.s0 {M : Mp} (h : okM M) : M.s ≠ 0 := fun e => by
  have := h.p
  rw [e] at this
  exact absurd this (by decide)
theorem okM.qs {M : Mp} (h : okM M) : M.q = 0 ∨ M.q = 1 ∨ M.q = 2 ∨ M.q = 3 := by
  have := h.q0; have := h.q3
  omega
theorem ok_comp {M N : Mp} (h : okM M) (g : okM N) : okM (comp M N) := ⟨Int.emod_nonneg _ (by decide), by have := Int.emod_lt_of_pos (M.q + N.q) (b := 4) (by decide); show (M.q + N.q) % 4 ≤ 3; omega, num_pos_mul h.p g.p⟩
theorem ok_inv {M : Mp} (h : okM M) : okM (minv M) := ⟨Int.emod_nonneg _ (by decide), by have := Int.emod_lt_of_pos (4 - M.q) (b := 4) (by decide); show (4 - M.q) % 4 ≤ 3; omega, num_pos_inv h.p⟩
theorem ok_ident : okM ident := ⟨by decide, by decide, by decide⟩
theorem Mp.ext' {M N : Mp} (a : M.q = N.q) (b : M.s = N.s) (c : M.u = N.u) (d : M.v = N.v) : M = N := by
  cases M; cases N; simp_all
theorem act_comp {M N : Mp} (h : okM M) (g : okM N) (p : Rat × Rat) : act (comp M N) p = act N (act M p) := by
  obtain ⟨x, y⟩ := p
  obtain ⟨q, s, u, v⟩ := M
  obtain ⟨q', s', u', v'⟩ := N
  rcases h.qs with e | e | e | e <;> rcases g.qs with e' | e' | e' | e' <;> simp only at e e' <;> subst e e' <;> simp [act, comp, rot] <;> constructor <;> grind
theorem comp_assoc {A B C : Mp} (h : okM A) (g : okM B) (k : okM C) : comp (comp A B) C = comp A (comp B C) := by
  have e := act_comp g k (A.u, A.v)
  refine Mp.ext' ?_ ?_ ?_ ?_
  · show ((A.q + B.q) % 4 + C.q) % 4 = (A.q + (B.q + C.q) % 4) % 4
    omega
  · show A.s * B.s * C.s = A.s * (B.s * C.s)
    grind
  · show (act C ((act B (A.u, A.v)).1, (act B (A.u, A.v)).2)).1 = (act (comp B C) (A.u, A.v)).1
    rw [e]
  · show (act C ((act B (A.u, A.v)).1, (act B (A.u, A.v)).2)).2 = (act (comp B C) (A.u, A.v)).2
    rw [e]
theorem unact_act {M : Mp} (h : okM M) (p : Rat × Rat) : unact M (act M p) = p := by
  obtain ⟨x, y⟩ := p
  have hs := h.s0
  obtain ⟨q, s, u, v⟩ := M
  simp only at hs
  rcases h.qs with e | e | e | e <;> simp only at e <;> subst e <;> simp [act, unact, rot] <;> constructor <;> grind
theorem act_unact {M : Mp} (h : okM M) (p : Rat × Rat) : act M (unact M p) = p := by
  obtain ⟨x, y⟩ := p
  have hs := h.s0
  obtain ⟨q, s, u, v⟩ := M
  simp only at hs
  rcases h.qs with e | e | e | e <;> simp only at e <;> subst e <;> simp [act, unact, rot] <;> constructor <;> grind
theorem act_minv {M : Mp} (h : okM M) (p : Rat × Rat) : act (minv M) p = unact M p := by
  obtain ⟨x, y⟩ := p
  have hs := h.s0
  obtain ⟨q, s, u, v⟩ := M
  simp only at hs
  rcases h.qs with e | e | e | e <;> simp only at e <;> subst e <;> simp [act, unact, minv, rot] <;> constructor <;> grind
theorem minv_minv {M : Mp} (h : okM M) : minv (minv M) = M := by
  have hs := h.s0
  obtain ⟨q, s, u, v⟩ := M
  simp only at hs
  rcases h.qs with e | e | e | e <;> simp only at e <;> subst e <;> simp [unact, minv, rot] <;> constructor <;> grind
theorem comp_minv {M : Mp} (h : okM M) : comp M (minv M) = ident := by
  have hs := h.s0
  obtain ⟨q, s, u, v⟩ := M
  simp only at hs
  rcases h.qs with e | e | e | e <;> simp only at e <;> subst e <;> simp [unact, minv, rot, comp, act, ident] <;> grind
theorem minv_comp {M : Mp} (h : okM M) : comp (minv M) M = ident := by
  have hs := h.s0
  obtain ⟨q, s, u, v⟩ := M
  simp only at hs
  rcases h.qs with e | e | e | e <;> simp only at e <;> subst e <;> simp [unact, minv, rot, comp, act, ident] <;> grind
theorem act_ident (p : Rat × Rat) : act ident p = p := by
  obtain ⟨x, y⟩ := p
  simp [act, ident, rot, Rat.add_zero]
theorem is_ident {M : Mp} (h : okM M) (h0 : act M (0, 0) = (0, 0)) (h1 : act M (1, 0) = (1, 0)) : M = ident := by
  have hp : 0 < M.s := pos_of_num h.p
  obtain ⟨q, s, u, v⟩ := M
  simp only at hp
  rcases h.qs with e | e | e | e <;> simp only at e <;> subst e <;> simp [act, rot] at h0 h1 <;> simp only [ident, Mp.mk.injEq] <;> grind
/-- so many times -/
def mpow (M : Mp) : Nat → Mp
  | 0 => ident
  | n + 1 => comp (mpow M n) M
theorem ok_pow {M : Mp} (h : okM M) : ∀ n, okM (mpow M n)
  | 0 => ok_ident
  | n + 1 => ok_comp (ok_pow h n) h
/-! sizes -/
structure mB (k : Nat) (M : Mp) : Prop where
  s : B k M.s
  u : B k M.u
  v : B k M.v
theorem mB.mono {k j : Nat} {M : Mp} (h : mB k M) (e : k ≤ j := by omega) : mB j M := ⟨h.s.mono e, h.u.mono e, h.v.mono e⟩
def pB (k : Nat) (p : Rat × Rat) : Prop := B k p.1 ∧ B k p.2
theorem pB.mono {k j : Nat} {p : Rat × Rat} (h : pB k p) (e : k ≤ j := by omega) : pB j p := ⟨h.1.mono e, h.2.mono e⟩
theorem rot_B {k : Nat} {x y : Rat} (hx : B k x) (hy : B k y) : ∀ q, B k (rot q (x, y)).1 ∧ B k (rot q (x, y)).2
  | 0 => ⟨hx, hy⟩
  | q + 1 => rot_B hy.neg hx q
theorem act_B {k j : Nat} {M : Mp} {p : Rat × Rat} (h : mB k M) (g : pB j p) : pB (k + j + k + 1) (act M p) := by
  obtain ⟨x, y⟩ := p
  obtain ⟨r1, r2⟩ := rot_B g.1 g.2 M.q.toNat
  exact ⟨(h.s.mul r1).add h.u, (h.s.mul r2).add h.v⟩
theorem comp_B {k j : Nat} {M N : Mp} (h : mB j M) (g : mB k N) : mB (k + j + k + 1) (comp M N) := by
  obtain ⟨a, b⟩ := act_B g (p := (M.u, M.v)) ⟨h.u, h.v⟩
  exact ⟨(h.s.mul g.s).mono, a, b⟩
theorem ident_B {k : Nat} (p : 1 ≤ k) : mB k ident := by
  have h : 1 < 2 ^ k := Nat.one_lt_two_pow (by omega)
  exact ⟨⟨h, h⟩, ⟨Nat.lt_of_le_of_lt (by decide) h, h⟩, ⟨Nat.lt_of_le_of_lt (by decide) h, h⟩⟩
theorem pow_B {k : Nat} {M : Mp} (h : mB k M) (p : 1 ≤ k) : ∀ n, mB (k + n * (2 * k + 1)) (mpow M n)
  | 0 => (ident_B p).mono
  | n + 1 => (comp_B (pow_B h p n) h).mono (by rw [Nat.add_mul]; omega)
structure mbd (a b c d : Nat) (M : Mp) : Prop where
  s : bd a b M.s
  u : bd c d M.u
  v : bd c d M.v
theorem rot_bd {n d : Nat} {x y : Rat} (hx : bd n d x) (hy : bd n d y) : ∀ q, bd n d (rot q (x, y)).1 ∧ bd n d (rot q (x, y)).2
  | 0 => ⟨hx, hy⟩
  | q + 1 => rot_bd hy.neg hx q
theorem act_bd {a b c d n e : Nat} {M : Mp} {p : Rat × Rat} (h : mbd a b c d M) (g1 : bd n e p.1) (g2 : bd n e p.2) : bd (a * n * d + c * (b * e)) (b * e * d) (act M p).1 ∧ bd (a * n * d + c * (b * e)) (b * e * d) (act M p).2 := by
  obtain ⟨x, y⟩ := p
  obtain ⟨r1, r2⟩ := rot_bd g1 g2 M.q.toNat
  exact ⟨(h.s.mul r1).add h.u, (h.s.mul r2).add h.v⟩
theorem unact_bd {a b c d n e : Nat} {M : Mp} {p : Rat × Rat} (k : okM M) (h : mbd a b c d M) (g1 : bd n e p.1) (g2 : bd n e p.2) : bd (b * (n * d + c * e)) (a * (e * d)) (unact M p).1 ∧ bd (b * (n * d + c * e)) (a * (e * d)) (unact M p).2 :=
  rot_bd ((h.s.inv k.p).mul (g1.sub h.u)) ((h.s.inv k.p).mul (g2.sub h.v)) _
theorem comp_bd {a b c d a' b' c' d' : Nat} {M N : Mp} (h : mbd a b c d M) (g : mbd a' b' c' d' N) : mbd (a * a') (b * b') (a' * c * d' + c' * (b' * d)) (b' * d * d') (comp M N) := by
  obtain ⟨x, y⟩ := act_bd g (p := (M.u, M.v)) h.u h.v
  exact ⟨h.s.mul g.s, x, y⟩
theorem minv_bd {a b c d : Nat} {M : Mp} (k : okM M) (h : mbd a b c d M) : mbd b a (b * (0 * d + c * 1)) (a * (1 * d)) (minv M) := by
  obtain ⟨x, y⟩ := unact_bd k h (p := (0, 0)) (n := 0) (e := 1) ⟨by decide, by decide⟩ ⟨by decide, by decide⟩
  exact ⟨h.s.inv k.p, x, y⟩
theorem mbd.mB {a b c d k : Nat} {M : Mp} (h : mbd a b c d M) (e1 : a < 2 ^ k := by decide) (e2 : b < 2 ^ k := by decide) (e3 : c < 2 ^ k := by decide) (e4 : d < 2 ^ k := by decide) : mB k M := ⟨h.s.B e1 e2, h.u.B e3 e4, h.v.B e3 e4⟩
theorem mbd.mono {a b c d a' b' c' d' : Nat} {M : Mp} (h : mbd a b c d M) (e1 : a ≤ a' := by decide) (e2 : b ≤ b' := by decide) (e3 : c ≤ c' := by decide) (e4 : d ≤ d' := by decide) : mbd a' b' c' d' M := ⟨h.s.mono e1 e2, h.u.mono e3 e4, h.v.mono e3 e4⟩
/-! values -/
theorem D_spt {st : Store} {p : Rat × Rat} : deref st (spt p) = spt p := rfl
theorem D_mpv {st : Store} {M : Mp} : deref st (mpv M) = mpv M := rfl
theorem I_spt0 {p : Rat × Rat} : pyIdx (spt p) (.int 0) = some (shr p.1) := rfl
theorem I_spt1 {p : Rat × Rat} : pyIdx (spt p) (.int 1) = some (shr p.2) := rfl
theorem I_mpv0 {M : Mp} : pyIdx (mpv M) (.int 0) = some (.int M.q) := rfl
theorem I_mpv1 {M : Mp} : pyIdx (mpv M) (.int 1) = some (shr M.s) := rfl
theorem I_mpv2 {M : Mp} : pyIdx (mpv M) (.int 2) = some (spt (M.u, M.v)) := rfl
theorem nice_spt {d : Nat} {p : Rat × Rat} : nice (d + 3) (spt p) := nice_spot
theorem nice_mpv {d : Nat} {M : Mp} : nice (d + 4) (mpv M) := nice_tup (by simp) (nicel_cons nice_int (nicel_cons nice_shr (nicel_cons nice_spt nicel_nil)))
theorem isNo_spt {p : Rat × Rat} {g : Bool} : isNo (spt p) g = !g := rfl
theorem isNo_mpv {p : Mp} {g : Bool} : isNo (mpv p) g = !g := rfl
theorem spt00 : (.tup [.tup [.int 0, .int 1], .tup [.int 0, .int 1]] : PV) = spt (0, 0) := rfl
theorem spt10 : (.tup [.tup [.int 1, .int 1], .tup [.int 0, .int 1]] : PV) = spt (1, 0) := rfl
theorem toD_shr (r : Rat) : (shr r).toD = some (.tuple [.int r.num, .int r.den]) := rfl
def sptD (p : Rat × Rat) : PyData := .tuple [.tuple [.int p.1.num, .int p.1.den], .tuple [.int p.2.num, .int p.2.den]]
theorem toD_spt (p : Rat × Rat) : (spt p).toD = some (sptD p) := rfl
theorem eqv_tup2 {a b c d : PyData} : PyData.eqv (.tuple [a, b]) (.tuple [c, d]) = (PyData.eqv a c && PyData.eqv b d) := by
  simp [PyData.eqv, PyData.eqvAll]
theorem eqv_spt {p r : Rat × Rat} : PyData.eqv (sptD p) (sptD r) = decide (p = r) := by
  unfold sptD
  rw [eqv_tup2, eqv_shr, eqv_shr]
  obtain ⟨a, b⟩ := p
  obtain ⟨c, d⟩ := r
  simp
theorem C_eqS {p r : Rat × Rat} : pyCmp .eq (spt p) (spt r) = some (decide (p = r)) := by
  rw [C_eqD (toD_spt p) (toD_spt r) rfl rfl, eqv_spt]
theorem C_neS {p r : Rat × Rat} : pyCmp .ne (spt p) (spt r) = some (!decide (p = r)) := by
  rw [C_neD (toD_spt p) (toD_spt r) rfl rfl, eqv_spt]
theorem C_eqM {M N : Mp} : pyCmp .eq (mpv M) (mpv N) = some (decide (M = N)) := by
  rw [C_eqD (d := .tuple [.int M.q, .tuple [.int M.s.num, .int M.s.den], sptD (M.u, M.v)]) (e := .tuple [.int N.q, .tuple [.int N.s.num, .int N.s.den], sptD (N.u, N.v)]) rfl rfl rfl rfl]
  congr 1
  have e : PyData.eqv (.tuple [.int M.q, .tuple [.int M.s.num, .int M.s.den], sptD (M.u, M.v)]) (.tuple [.int N.q, .tuple [.int N.s.num, .int N.s.den], sptD (N.u, N.v)]) = (M.q == N.q && (PyData.eqv (.tuple [.int M.s.num, .int M.s.den]) (.tuple [.int N.s.num, .int N.s.den]) && PyData.eqv (sptD (M.u, M.v)) (sptD (N.u, N.v)))) := by
    simp [PyData.eqv, PyData.eqvAll]
  rw [e, eqv_shr, eqv_spt]
  cases M; cases N
  rw [Bool.eq_iff_iff]
  simp
theorem C_eqS3 {a b c d e f : Rat × Rat} : pyCmp .eq (.lst [spt a, spt b, spt c]) (.lst [spt d, spt e, spt f]) = some (decide (a = d ∧ b = e ∧ c = f)) := by
  rw [C_eqD (d := .list [sptD a, sptD b, sptD c]) (e := .list [sptD d, sptD e, sptD f]) rfl rfl rfl rfl]
  congr 1
  have e : PyData.eqv (.list [sptD a, sptD b, sptD c]) (.list [sptD d, sptD e, sptD f]) = (PyData.eqv (sptD a) (sptD d) && (PyData.eqv (sptD b) (sptD e) && PyData.eqv (sptD c) (sptD f))) := by
    simp [PyData.eqv, PyData.eqvAll]
  rw [e, eqv_spt, eqv_spt, eqv_spt, Bool.eq_iff_iff]
  simp
theorem bindT_spt {ts : Tg} {p : Rat × Rat} {ρ : Env} : bindT (.tp ts) (spt p) ρ = bindTs ts [shr p.1, shr p.2] ρ := by simp only [bindT, spt]
theorem bindT_mpv {ts : Tg} {M : Mp} {ρ : Env} : bindT (.tp ts) (mpv M) ρ = bindTs ts [.int M.q, shr M.s, spt (M.u, M.v)] ρ := by simp only [bindT, mpv]
end Ev
end
section
set_option Elab.async false
set_option linter.all false
set_option maxRecDepth 100000
set_option maxHeartbeats 4000000
namespace Ev
open PySem L2
/-! comprehensions over known lists -/
/-- a comprehension over the values of a list -/
theorem lc_of {α : Type} {f : PV → Store → R (Option PV)} {v : α → PV} {g : α → PV} {xs : List α} {st : Store} (hl : xs.length ≤ 1000000) (h : ∀ x ∈ xs, f (v x) st = .ok (some (g x)) st) : lcLoop f (xs.map v) [] st = .ok (xs.map g) st := by
  have : ∀ (xs : List α) (acc : List PV), acc.length + xs.length ≤ 1000000 → (∀ x ∈ xs, f (v x) st = .ok (some (g x)) st) → lcLoop f (xs.map v) acc st = .ok (acc ++ xs.map g) st := by
    intro xs
    induction xs with
    | nil =>
      intro acc hl _
      simp only [List.map_nil, lcLoop, List.append_nil]
      rw [if_pos (by simpa [lim] using hl)]
    | cons x xs ih =>
      intro acc hl h
      simp only [List.map_cons, lcLoop, h x List.mem_cons_self]
      simp only [List.length_cons] at hl
      rw [ih (acc ++ [g x]) (by simp; omega) fun y hy => h y (List.mem_cons_of_mem _ hy)]
      simp
  simpa using this xs [] (by simpa using hl) h
theorem lc_if {α : Type} {f : PV → Store → R (Option PV)} {v : α → PV} {p : α → Bool} {g : α → PV} {xs : List α} {st : Store} (hl : xs.length ≤ 1000000) (h : ∀ x ∈ xs, f (v x) st = .ok (if p x then some (g x) else none) st) : lcLoop f (xs.map v) [] st = .ok ((xs.filter p).map g) st := by
  have : ∀ (xs : List α) (acc : List PV), acc.length + xs.length ≤ 1000000 → (∀ x ∈ xs, f (v x) st = .ok (if p x then some (g x) else none) st) → lcLoop f (xs.map v) acc st = .ok (acc ++ (xs.filter p).map g) st := by
    intro xs
    induction xs with
    | nil =>
      intro acc hl _
      simp only [List.map_nil, lcLoop, List.filter_nil, List.append_nil]
      rw [if_pos (by simpa [lim] using hl)]
    | cons x xs ih =>
      intro acc hl h
      simp only [List.map_cons, lcLoop, h x List.mem_cons_self]
      simp only [List.length_cons] at hl
      cases e : p x with
      | true =>
        simp only [if_true]
        rw [ih (acc ++ [g x]) (by simp; omega) fun y hy => h y (List.mem_cons_of_mem _ hy), List.filter_cons, e]
        simp
      | false =>
        simp only [Bool.false_eq_true, if_false]
        rw [ih acc (by omega) fun y hy => h y (List.mem_cons_of_mem _ hy), List.filter_cons, e]
        simp
  simpa using this xs [] (by simpa using hl) h
theorem lc_all {f : PV → Store → R (Option PV)} {g : PV → PV} {xs : List PV} {st : Store} (hl : xs.length ≤ 1000000) (h : ∀ x ∈ xs, f x st = .ok (some (g x)) st) : lcLoop f xs [] st = .ok (xs.map g) st := by
  simpa using lc_of (v := fun x : PV => x) hl h
theorem lc_some {f : PV → Store → R (Option PV)} {p : PV → Bool} {g : PV → PV} {xs : List PV} {st : Store} (hl : xs.length ≤ 1000000) (h : ∀ x ∈ xs, f x st = .ok (if p x then some (g x) else none) st) : lcLoop f xs [] st = .ok ((xs.filter p).map g) st := by
  simpa using lc_if (v := fun x : PV => x) hl h
/-- a comprehension that draws -/
theorem lc_draw {α : Type} {f : PV → Store → R (Option PV)} {v : α → PV} {P : α → PV → Prop} {I : Store → Prop} : ∀ (xs : List α) (acc : List PV) (st : Store), acc.length + xs.length ≤ 1000000 → I st → (∀ x ∈ xs, ∀ st, I st → Okp (f (v x) st) fun r st' => ∃ y, r = some y ∧ P x y ∧ I st') →
    Okp (lcLoop f (xs.map v) acc st) fun r st' => ∃ ys, r = acc ++ ys ∧ ys.length = xs.length ∧ (∀ (i : Nat) x y, xs[i]? = some x → ys[i]? = some y → P x y) ∧ I st'
  | [], acc, st, hl, hI, _ => by
    refine Okp.of ?_
    simp only [List.map_nil]
    rw [LC_nil, if_pos (by simpa [lim] using hl), OkO_some]
    exact ⟨[], by simp, rfl, fun i x y h => by simp at h, hI⟩
  | x :: xs, acc, st, hl, hI, h => by
    refine Okp.of ?_
    simp only [List.map_cons]
    rw [LC_cons]
    simp only [List.length_cons] at hl
    refine (h x List.mem_cons_self st hI).to fun r st1 ⟨y, e, hP, hI1⟩ => ?_
    subst e
    refine (lc_draw xs (acc ++ [y]) st1 (by simp; omega) hI1 fun z hz => h z (List.mem_cons_of_mem _ hz)).to fun r st2 ⟨ys, e, hl2, hP2, hI2⟩ => ?_
    refine ⟨y :: ys, by rw [e]; simp, by simp [hl2], fun i a b ha hb => ?_, hI2⟩
    cases i with
    | zero =>
      simp at ha hb
      subst ha hb
      exact hP
    | succ i => exact hP2 i a b (by simpa using ha) (by simpa using hb)
theorem bls_map {α : Type} (p : α → Bool) : ∀ xs : List α, bls (xs.map fun x => .bl (p x)) = some (xs.map p)
  | [] => rfl
  | x :: xs => by simp only [List.map_cons, bls, bls_map p xs, Option.map_some]
theorem zip_map {α β : Type} (v : α → PV) (w : β → PV) : ∀ (xs : List α) (ys : List β), List.zipWith pair2 (xs.map v) (ys.map w) = (xs.zip ys).map fun p => pair2 (v p.1) (w p.2)
  | [], _ => by simp
  | x :: xs, [] => by simp
  | x :: xs, y :: ys => by simp [zip_map v w xs ys]
theorem enum_map {α : Type} (v : α → PV) : ∀ (xs : List α) (n : Nat), enumL n (xs.map v) = (xs.zipIdx n).map fun p => .tup [.int (p.2 : Nat), v p.1]
  | [], _ => rfl
  | x :: xs, n => by simp [enumL, enum_map v xs (n + 1), List.zipIdx_cons]
/-- a for loop over the values of a list -/
theorem for_of {α : Type} {f : PV → Env → Store → RS} {v : α → PV} {N : Env → Store → Prop} {Q : PV → Store → Prop} (I : List α → Env → Store → Prop) : ∀ (xs done : List α) (ρ : Env) (st : Store), I done ρ st → (∀ x, x ∈ xs → ∀ pre ρ st, I pre ρ st → (∃ post, done ++ xs = pre ++ x :: post) → OkSp (f (v x) ρ st) (I (pre ++ [x])) Q) → (∀ ρ st, I (done ++ xs) ρ st → OkSp (.next ρ st) N Q) → OkS (forLoop f (xs.map v) ρ st) N Q
  | [], done, ρ, st, h, _, k => by
    simp only [List.map_nil]
    rw [OkS_for_nil]
    rw [List.append_nil] at k
    exact k ρ st h
  | x :: xs, done, ρ, st, h, b, k => by
    simp only [List.map_cons]
    rw [OkS_for_cons]
    refine (b x List.mem_cons_self done ρ st h ⟨xs, rfl⟩).to (fun ρ' st' h' => ?_) fun _ _ h => h
    refine for_of I xs (done ++ [x]) ρ' st' h' (fun y hy pre ρ st hI hp => b y (List.mem_cons_of_mem _ hy) pre ρ st hI (by simpa using hp)) fun ρ st hI => k ρ st (by simpa using hI)
theorem cut_to {α : Type} {xs : List α} {k : Nat} (h : k ≤ xs.length) : cut xs none (some (k : Int)) = xs.take k := by
  unfold cut
  have e1 : HT.sIx xs.length 0 none = 0 := rfl
  have e2 : HT.sIx xs.length xs.length (some (k : Int)) = k := by rw [HT.sIx_nat]; omega
  rw [e1, e2]
  simp
theorem cut_from {α : Type} {xs : List α} {k : Nat} (h : k ≤ xs.length) : cut xs (some (k : Int)) none = xs.drop k := by
  unfold cut
  have e1 : HT.sIx xs.length xs.length none = xs.length := rfl
  have e2 : HT.sIx xs.length 0 (some (k : Int)) = k := by rw [HT.sIx_nat]; omega
  rw [e1, e2]
  rw [List.take_of_length_le (by rw [List.length_drop]; omega)]
/-- two lists in one strict order, with the same members, are one -/
theorem ord_one {α : Type} {r : α → α → Prop} (as : ∀ a b, r a b → ¬ r b a) : ∀ {l m : List α}, l.Pairwise r → m.Pairwise r → (∀ x, x ∈ l ↔ x ∈ m) → l = m
  | [], [], _, _, _ => rfl
  | [], b :: m, _, _, h => absurd ((h b).mpr List.mem_cons_self) (by simp)
  | a :: l, [], _, _, h => absurd ((h a).mp List.mem_cons_self) (by simp)
  | a :: l, b :: m, hl, hm, h => by
    obtain ⟨l1, l2⟩ := List.pairwise_cons.mp hl
    obtain ⟨m1, m2⟩ := List.pairwise_cons.mp hm
    have e : a = b := by
      rcases List.mem_cons.mp ((h a).mp List.mem_cons_self) with e | e
      · exact e
      · rcases List.mem_cons.mp ((h b).mpr List.mem_cons_self) with e2 | e2
        · exact e2.symm
        · exact absurd (m1 a e) (as _ _ (l1 b e2))
    subst e
    have ir : ¬ r a a := fun z => as _ _ z z
    congr 1
    refine ord_one as l2 m2 fun x => ⟨fun hx => ?_, fun hx => ?_⟩
    · rcases List.mem_cons.mp ((h x).mp (List.mem_cons_of_mem _ hx)) with e | e
      · subst e; exact absurd (l1 x hx) ir
      · exact e
    · rcases List.mem_cons.mp ((h x).mpr (List.mem_cons_of_mem _ hx)) with e | e
      · subst e; exact absurd (m1 x hx) ir
      · exact e
/-- by a place that a list in order has up to a point -/
theorem take_count {α : Type} {p : α → Bool} : ∀ {l : List α}, l.Pairwise (fun a b => p b = true → p a = true) → l.take (l.filter p).length = l.filter p ∧ l.drop (l.filter p).length = l.filter fun x => !p x
  | [], _ => ⟨rfl, rfl⟩
  | a :: l, h => by
    obtain ⟨h1, h2⟩ := List.pairwise_cons.mp h
    cases e : p a with
    | true =>
      obtain ⟨i1, i2⟩ := take_count h2
      rw [List.filter_cons_of_pos e, List.filter_cons_of_neg (by simp [e])]
      simp [i1, i2]
    | false =>
      have no : ∀ b ∈ l, p b = false := fun b hb => by
        cases eb : p b with
        | false => rfl
        | true => rw [h1 b hb eb] at e; cases e
      have f1 : l.filter p = [] := List.filter_eq_nil_iff.mpr fun b hb => by simp [no b hb]
      have f2 : (l.filter fun x => !p x) = l := List.filter_eq_self.mpr fun b hb => by simp [no b hb]
      rw [List.filter_cons_of_neg (by simp [e]), List.filter_cons_of_pos (by simp [e]), f1, f2]
      simp
/-! lists by their places -/
def rl {α : Type} (n : Nat) (f : Nat → α) : List α := (List.range n).map f
theorem rl_len {α : Type} {n : Nat} {f : Nat → α} : (rl n f).length = n := by simp [rl]
theorem rl_get {α : Type} {n : Nat} {f : Nat → α} {i : Nat} (h : i < n) : (rl n f)[i]? = some (f i) := by simp [rl, h]
theorem rl_at {α : Type} {n : Nat} {f : Nat → α} {i : Nat} (h : i < n) : atI (rl n f) (i : Int) = some (f i) := by rw [atI_n, rl_get h]
theorem rl_0 {α : Type} {n : Nat} {f : Nat → α} (h : 0 < n) : atI (rl n f) 0 = some (f 0) := rl_at h
theorem rl_congr {α : Type} {n : Nat} {f g : Nat → α} (h : ∀ i, i < n → f i = g i) : rl n f = rl n g := List.map_congr_left fun i hi => h i (by simpa using hi)
theorem rl_of {α : Type} (d : α) (l : List α) : l = rl l.length fun i => l.getD i d := by
  refine List.ext_getElem? fun i => ?_
  by_cases h : i < l.length
  · rw [rl_get h]; simp [h]
  · rw [List.getElem?_eq_none (by omega), List.getElem?_eq_none (by rw [rl_len]; omega)]
theorem lc_rl {f : PV → Store → R (Option PV)} {n : Nat} {v g : Nat → PV} {st : Store} (hl : n ≤ 1000000) (h : ∀ i, i < n → f (v i) st = .ok (some (g i)) st) : lcLoop f (rl n v) [] st = .ok (rl n g) st :=
  lc_of (by simpa using hl) fun i hi => h i (by simpa using hi)
theorem lc_rlif {f : PV → Store → R (Option PV)} {n : Nat} {v : Nat → PV} {p : Nat → Bool} {g : Nat → PV} {st : Store} (hl : n ≤ 1000000) (h : ∀ i, i < n → f (v i) st = .ok (if p i then some (g i) else none) st) : lcLoop f (rl n v) [] st = .ok (((List.range n).filter p).map g) st :=
  lc_if (by simpa using hl) fun i hi => h i (by simpa using hi)
theorem lc_rld {f : PV → Store → R (Option PV)} {n : Nat} {v : Nat → PV} {P : Nat → PV → Prop} {I : Store → Prop} {st : Store} (hl : n ≤ 1000000) (hI : I st) (h : ∀ i, i < n → ∀ st, I st → Okp (f (v i) st) fun r st' => ∃ y, r = some y ∧ P i y ∧ I st') :
    Okp (lcLoop f (rl n v) [] st) fun r st' => ∃ ys, r = ys ∧ ys.length = n ∧ (∀ i y, ys[i]? = some y → P i y) ∧ I st' := by
  refine Okp.of ?_
  refine (lc_draw (P := P) (I := I) (List.range n) [] st (by simpa using hl) hI fun i hi st hI => h i (by simpa using hi) st hI).to fun r st' ⟨ys, e, l, k, hI⟩ => ⟨ys, by simpa using e, by simpa using l, fun i y hy => ?_, hI⟩
  have hi : i < n := by
    have := (List.getElem?_eq_some_iff.mp hy).1
    simp at l
    omega
  exact k i i y (by simp [hi]) hy
theorem It_zT {n : Nat} {f g : Nat → PV} : items .zip2 [.tup (rl n f), .tup (rl n g)] = some (rl n fun i => .tup [f i, g i]) := by
  show some (List.zipWith pair2 (rl n f) (rl n g)) = _
  unfold rl
  rw [List.zipWith_map, List.zipWith_self]
  rfl
theorem It_eL {n : Nat} {f : Nat → PV} : items .enum [.lst (rl n f)] = some (rl n fun i => .tup [.int i, f i]) := by
  show some (enumL 0 (rl n f)) = _
  have : ∀ n k (f : Nat → PV), enumL k (rl n f) = rl n fun i => .tup [.int ((k + i : Nat)), f i] := by
    intro n
    induction n with
    | zero => intro k f; rfl
    | succ n ih =>
      intro k f
      unfold rl at ih ⊢
      rw [List.range_succ_eq_map, List.map_cons, List.map_cons, List.map_map, List.map_map]
      have := ih (k + 1) (f ∘ Nat.succ)
      simp only [enumL]
      rw [this]
      congr 1
      refine List.map_congr_left fun i _ => ?_
      have : k + 1 + i = k + Nat.succ i := by omega
      simp only [Function.comp, this]
  rw [this n 0 f]
  simp
theorem rgV_rl {n : Nat} : rgV' 0 n = rl n fun i => .int i := by
  unfold rgV' rl
  refine List.map_congr_left fun i _ => ?_
  rw [Int.zero_add]
theorem It_rl {n : Nat} (h : rgOk 0 n = true) : items .range1 [.int (n : Int)] = some (rl n fun i => .int i) := by
  show (if rgOk 0 n then some (rgV' 0 (n : Int).toNat) else none) = _
  rw [if_pos h, Int.toNat_natCast, rgV_rl]
theorem rgOk_n {n : Nat} (h : n ≤ 1000000) : rgOk 0 n = true := by
  unfold rgOk
  simp only [Bool.and_eq_true, Nat.ble_eq]
  refine ⟨by decide, by omega, ?_⟩
  have : lim = 1000000 := rfl
  omega
theorem bls_rl {n : Nat} {p : Nat → Bool} : bls (rl n fun i => .bl (p i)) = some ((List.range n).map p) := bls_map p _
theorem all_rl {n : Nat} {p : Nat → Bool} (h : ∀ i, i < n → p i = true) : ((List.range n).map p).all id = true := by
  simp only [List.all_map, List.all_eq_true]
  intro i hi
  exact h i (by simpa using hi)
theorem all_c {n : Nat} : ((List.range n).map fun _ => true).all id = true := all_rl fun _ _ => rfl
theorem for_rl {f : PV → Env → Store → RS} {n : Nat} {v : Nat → PV} {N : Env → Store → Prop} {Q : PV → Store → Prop} (I : Nat → Env → Store → Prop) {ρ : Env} {st : Store} (h : I 0 ρ st) (b : ∀ k, k < n → ∀ ρ st, I k ρ st → OkSp (f (v k) ρ st) (I (k + 1)) Q) (k : ∀ ρ st, I n ρ st → OkSp (.next ρ st) N Q) : OkS (forLoop f (rl n v) ρ st) N Q := by
  refine for_of (fun done ρ st => I done.length ρ st) (List.range n) [] ρ st h (fun x hx pre ρ st hI hp => ?_) fun ρ st hI => k ρ st (by simpa using hI)
  obtain ⟨post, hp⟩ := hp
  rw [List.nil_append] at hp
  have e : x = pre.length := by
    have h1 : (List.range n)[pre.length]? = some x := by rw [hp]; simp
    obtain ⟨h2, h3⟩ := List.getElem?_eq_some_iff.mp h1
    simpa using h3.symm
  subst e
  have := b pre.length (by simpa using hx) ρ st hI
  simpa using this
theorem L_sumT {xs : List PV} : pyBlt .sum [.tup xs] = (inl xs).map fun is => .int is.sum := rfl
theorem It_K {xs : List PV} : items .plain [.ktp xs] = some xs := rfl
theorem ktpL_k {xs : List PV} : (PV.ktp xs).ktpL = some xs := rfl
theorem deref_ktp {st : Store} {xs : List PV} : deref st (.ktp xs) = .tup xs := rfl
theorem cutP_l {xs : List PV} {lo hi : Option Int} : cutP (.lst xs) lo hi = some (.lst (cut xs lo hi)) := rfl
/-- a while loop by fuel -/
theorem whl {c : Env → Store → R Bool} {b : Env → Store → RS} {N : Env → Store → Prop} {Q : PV → Store → Prop} (I : Nat → Env → Store → Prop) (hs : ∀ k ρ st, I k ρ st → (c ρ st = .ok false st ∧ OkSp (.next ρ st) N Q) ∨ (c ρ st = .ok true st ∧ OkSp (b ρ st) (fun ρ st => ∃ j, j < k ∧ I j ρ st) Q)) : ∀ (F k : Nat) (ρ : Env) (st : Store), k < F → I k ρ st → OkS (whileLoop c b F ρ st) N Q
  | 0, k, _, _, h, _ => absurd h (by omega)
  | F + 1, k, ρ, st, h, hI => by
    rcases hs k ρ st hI with ⟨e, q⟩ | ⟨e, q⟩
    · simp only [whileLoop, e, R.bindS, Bool.false_eq_true, if_false]
      exact q
    · simp only [whileLoop, e, R.bindS, if_true]
      cases z : b ρ st with
      | next ρ' st' =>
        rw [z] at q
        obtain ⟨j, hj, hI'⟩ : ∃ j, j < k ∧ I j ρ' st' := q
        exact whl I hs F j ρ' st' (by omega) hI'
      | ret v st' => rw [z] at q; exact q
      | _ => rw [z] at q; exact q.elim
/-! lists of numbers, compared -/
theorem sh_lay : ∀ l : List Nat, PyData.canLayAll0 (l.map fun i : Nat => (.int i : PyData)) = true
  | [] => rfl
  | a :: l => by simp only [List.map_cons, PyData.canLayAll0, PyData.canLay0, sh_lay l, Bool.and_self]
theorem sh_dep : ∀ l : List Nat, PyData.depthAll (l.map fun i : Nat => (.int i : PyData)) ≤ 1
  | [] => by simp [PyData.depthAll]
  | a :: l => by
    have := sh_dep l
    simp only [List.map_cons, PyData.depthAll, PyData.depth]
    omega
theorem sh_ints (l : List Nat) : SeqAt.shaped (.list (l.map fun i : Nat => (.int i : PyData))) = true := by
  unfold SeqAt.shaped
  have := sh_dep l
  simp only [PyData.canLay0, sh_lay, PyData.depth, Bool.true_and, decide_eq_true_eq]
  exact decide_eq_true (by omega)
theorem toDs_ints : ∀ l : List Nat, toDs (l.map fun i : Nat => (.int i : PV)) = some (l.map fun i : Nat => (.int i : PyData))
  | [] => rfl
  | a :: l => by simp only [List.map_cons, toDs, toDs_ints l, PV.toD]
theorem C_neNL (l : List Nat) : pyCmp .ne (.lst (l.map fun i : Nat => (.int i : PV))) (.lst []) = some (!l.isEmpty) := by
  cases l with
  | nil => exact C_neNil
  | cons a l => exact C_neCons (d := .int a) (ds := l.map fun i : Nat => (.int i : PyData)) rfl (toDs_ints l) (sh_ints (a :: l))
theorem C_eqNL (l : List Nat) : pyCmp .eq (.lst (l.map fun i : Nat => (.int i : PV))) (.lst []) = some l.isEmpty := by
  cases l with
  | nil => exact C_eqNil
  | cons a l => exact C_eqCons (d := .int a) (ds := l.map fun i : Nat => (.int i : PyData)) rfl (toDs_ints l) (sh_ints (a :: l))
/-- values that lie at places -/
theorem rl_ex {β : Type} [Inhabited β] {ys : List PV} {n : Nat} {F : β → PV} {G : Nat → β → Prop} (hl : ys.length = n) (h : ∀ i y, ys[i]? = some y → ∃ b, y = F b ∧ G i b) : ∃ g : Nat → β, ys = rl n (fun i => F (g i)) ∧ ∀ i, i < n → G i (g i) := by
  have : ∀ i, ∃ b, i < n → ys[i]? = some (F b) ∧ G i b := by
    intro i
    by_cases hi : i < n
    · obtain ⟨y, hy⟩ : ∃ y, ys[i]? = some y := ⟨_, List.getElem?_eq_getElem (by omega)⟩
      obtain ⟨b, e, hb⟩ := h i y hy
      exact ⟨b, fun _ => ⟨by rw [hy, e], hb⟩⟩
    · exact ⟨default, fun h => absurd h hi⟩
  obtain ⟨g, hg⟩ := Classical.axiomOfChoice this
  refine ⟨g, List.ext_getElem? fun i => ?_, fun i hi => (hg i hi).2⟩
  by_cases hi : i < n
  · rw [(hg i hi).1, rl_get hi]
  · rw [List.getElem?_eq_none (by omega), List.getElem?_eq_none (by rw [rl_len]; omega)]
theorem mul_T1 {x : PV} {k : Nat} (h : k ≤ 1000) : pyBin BOp.mul (.tup [x]) (.int (k : Int)) = some (.tup (rl k fun _ => x)) := by
  show pyMul (.tup [x]) (.int (k : Int)) = _
  simp only [pyMul]
  rw [if_pos ⟨by omega, by omega, by simp, rfl⟩, Int.toNat_natCast]
  congr 2
  unfold rl
  induction k with
  | zero => rfl
  | succ k ih =>
    rw [List.range_succ, List.map_append, List.replicate_succ', List.flatten_append, ih (by omega)]
    rfl
theorem mul_T2 {x : PV} : pyBin .mul (.tup [x]) (.int 2) = some (.tup [x, x]) := mul_T1 (k := 2) (by decide)
theorem atI_last {α : Type} {l : List α} {x : α} (h : l.getLast? = some x) : atI l (-1) = some x := by
  rcases List.eq_nil_or_concat l with e | ⟨t, y, e⟩
  · subst e; simp at h
  · rw [List.concat_eq_append] at e
    subst e
    simp at h
    subst h
    unfold atI
    have : ixN (t.length + 1) (-1) = some t.length := by
      unfold ixN
      rw [if_neg (by omega), if_pos (by omega)]
      congr 1
      omega
    simp [this]
end Ev
end
section
set_option Elab.async false
set_option linter.all false
set_option maxRecDepth 100000
set_option maxHeartbeats 0
namespace Ev.K83
open PySem PySem.Spec PyProof.Rows L2
def i_is_whole : Nat := 0
def i_fits_whole : Nat := 1
def i_is_tuple_of : Nat := 2
def i_divisor_in : Nat := 3
def i_lowered : Nat := 4
def i_fits_scale : Nat := 5
def i_need_scale : Nat := 6
def i_need_two : Nat := 7
def i_way_in : Nat := 8
def i_reading_in : Nat := 9
def i_need_range : Nat := 10
def i_rounded : Nat := 11
def i_meeting_marks : Nat := 12
def i_nearest_table : Nat := 13
def i_doubled_readings : Nat := 14
def i_missed_readings : Nat := 15
def i__law_cup : Nat := 16
def i__law_roll : Nat := 17
def i__law_some : Nat := 18
def i__law_same : Nat := 19
def i__law_share : Nat := 20
def i__law_scale : Nat := 21
def i__law_turned_to : Nat := 22
def i__law_nearest : Nat := 23
def i_law : Nat := 24
def c_SurveyError : Nat := 0
def c_InvalidScale : Nat := 1
def c_InvalidNumber : Nat := 2
/-- 0 0=value -/
def b_is_whole : CS := (.ret (.and (.isi (.var 0) .int) (.not (.isi (.var 0) .bool))))
def d_is_whole : Fd := ⟨1, 1, b_is_whole⟩
/-- 1 0=value 1=low 2=high -/
def b_fits_whole : CS := (.ret (.and (.call i_is_whole (.cons (.var 0) .nil)) (.chain .le .le (.var 1) (.var 0) (.var 2))))
def d_fits_whole : Fd := ⟨3, 3, b_fits_whole⟩
/-- 2 0=value 1=least 2=most -/
def b_is_tuple_of : CS := (.ret (.and (.isi (.var 0) .tuple) (.chain .le .le (.var 1) (.blt .len (.cons (.var 0) .nil)) (.var 2))))
def d_is_tuple_of : Fd := ⟨3, 3, b_is_tuple_of⟩
/-- 3 0=one 1=other -/
def b_divisor_in : CS := (.asg 0 (.blt .abs (.cons (.var 0) .nil))
 (.whil (.cmp .gt (.var 1) (.cst (.int 0)))
 (.par [0, 1] (.cons (.var 1) (.cons (.bin .mod (.var 0) (.var 1)) .nil))
 .done)
 (.ret (.var 0))))
def d_divisor_in : Fd := ⟨2, 2, b_divisor_in⟩
/-- 4 0=above 1=below 2=common -/
def b_lowered : CS := (.asgT (.tp (.cons (.nm 0) (.cons (.nm 1) .nil))) (.ite (.cmp .lt (.var 1) (.cst (.int 0))) (.tup (.cons (.neg (.var 0)) (.cons (.neg (.var 1)) .nil))) (.tup (.cons (.var 0) (.cons (.var 1) .nil))))
 (.asg 2 (.call i_divisor_in (.cons (.var 0) (.cons (.var 1) .nil)))
 (.ret (.tup (.cons (.bin .fdiv (.var 0) (.var 2)) (.cons (.bin .fdiv (.var 1) (.var 2)) .nil))))))
def d_lowered : Fd := ⟨2, 3, b_lowered⟩
/-- 5 0=value 1=one -/
def b_fits_scale : CS := (.ifs (.or (.not (.call i_is_tuple_of (.cons (.var 0) (.cons (.cst (.int 2)) (.cons (.cst (.int 2)) .nil))))) (.not (.blt .all (.cons (.lc .plain (.cons (.var 0) .nil) (.nm 1) [1] .yes (.call i_fits_whole (.cons (.var 1) (.cons (.neg (.gl (.int 1000))) (.cons (.gl (.int 1000)) .nil))))) .nil))))
 (.ret (.cst (.bl false)))
 .done
 (.ret (.cmp .lt (.idx (.var 0) (.cst (.int 0))) (.idx (.var 0) (.cst (.int 1))))))
def d_fits_scale : Fd := ⟨1, 2, b_fits_scale⟩
/-- 6 0=value -/
def b_need_scale : CS := (.ifs (.not (.call i_fits_scale (.cons (.var 0) .nil)))
 (.rais c_InvalidScale)
 .done
 .done)
def d_need_scale : Fd := ⟨1, 1, b_need_scale⟩
/-- 7 0=one 1=other -/
def b_need_two : CS := (.expr (.call i_need_scale (.cons (.var 0) .nil))
 (.expr (.call i_need_scale (.cons (.var 1) .nil))
 .done))
def d_need_two : Fd := ⟨2, 2, b_need_two⟩
/-- 8 0=scale 1=reading -/
def b_way_in : CS := (.ret (.call i_lowered (.cons (.bin .sub (.idx (.var 1) (.cst (.int 0))) (.bin .mul (.idx (.var 0) (.cst (.int 0))) (.idx (.var 1) (.cst (.int 1))))) (.cons (.bin .mul (.idx (.var 1) (.cst (.int 1))) (.bin .sub (.idx (.var 0) (.cst (.int 1))) (.idx (.var 0) (.cst (.int 0))))) .nil))))
def d_way_in : Fd := ⟨2, 2, b_way_in⟩
/-- 9 0=scale 1=way -/
def b_reading_in : CS := (.ret (.call i_lowered (.cons (.bin .add (.bin .mul (.idx (.var 0) (.cst (.int 0))) (.idx (.var 1) (.cst (.int 1)))) (.bin .mul (.idx (.var 1) (.cst (.int 0))) (.bin .sub (.idx (.var 0) (.cst (.int 1))) (.idx (.var 0) (.cst (.int 0)))))) (.cons (.idx (.var 1) (.cst (.int 1))) .nil))))
def d_reading_in : Fd := ⟨2, 2, b_reading_in⟩
/-- 10 0=low 1=high -/
def b_need_range : CS := (.ifs (.or (.not (.call i_fits_whole (.cons (.var 0) (.cons (.neg (.gl (.int 1000))) (.cons (.gl (.int 1000)) .nil))))) (.not (.call i_fits_whole (.cons (.var 1) (.cons (.neg (.gl (.int 1000))) (.cons (.gl (.int 1000)) .nil))))))
 (.rais c_InvalidNumber)
 .done
 (.ifs (.or (.cmp .gt (.var 0) (.var 1)) (.cmp .gt (.bin .sub (.var 1) (.var 0)) (.gl (.int 200))))
 (.rais c_InvalidNumber)
 .done
 .done))
def d_need_range : Fd := ⟨2, 2, b_need_range⟩
/-- 11 0=share -/
def b_rounded : CS := (.ret (.bin .fdiv (.bin .add (.bin .mul (.cst (.int 2)) (.idx (.var 0) (.cst (.int 0)))) (.idx (.var 0) (.cst (.int 1)))) (.bin .mul (.cst (.int 2)) (.idx (.var 0) (.cst (.int 1))))))
def d_rounded : Fd := ⟨1, 1, b_rounded⟩
/-- 12 0=one 1=other 2=low 3=high 4=rows 5=own 6=told -/
def b_meeting_marks : CS := (.expr (.call i_need_two (.cons (.var 0) (.cons (.var 1) .nil)))
 (.expr (.call i_need_range (.cons (.var 2) (.cons (.var 3) .nil)))
 (.asg 4 (.lc .range2 (.cons (.var 2) (.cons (.bin .add (.var 3) (.cst (.int 1))) .nil)) (.nm 5) [5] .yes (.tup (.cons (.var 5) (.cons (.call i_reading_in (.cons (.var 1) (.cons (.call i_way_in (.cons (.var 0) (.cons (.tup (.cons (.var 5) (.cons (.cst (.int 1)) .nil))) .nil))) .nil))) .nil))))
 (.ret (.blt .tuple (.cons (.lc .plain (.cons (.var 4) .nil) (.tp (.cons (.nm 5) (.cons (.nm 6) .nil))) [5, 6] (.cmp .eq (.idx (.var 6) (.cst (.int 1))) (.cst (.int 1))) (.tup (.cons (.var 5) (.cons (.idx (.var 6) (.cst (.int 0))) .nil)))) .nil))))))
def d_meeting_marks : Fd := ⟨4, 7, b_meeting_marks⟩
/-- 13 0=one 1=other 2=low 3=high 4=own -/
def b_nearest_table : CS := (.expr (.call i_need_two (.cons (.var 0) (.cons (.var 1) .nil)))
 (.expr (.call i_need_range (.cons (.var 2) (.cons (.var 3) .nil)))
 (.ret (.ktp (.lc .range2 (.cons (.var 2) (.cons (.bin .add (.var 3) (.cst (.int 1))) .nil)) (.nm 4) [4] .yes (.call i_rounded (.cons (.call i_reading_in (.cons (.var 1) (.cons (.call i_way_in (.cons (.var 0) (.cons (.tup (.cons (.var 4) (.cons (.cst (.int 1)) .nil))) .nil))) .nil))) .nil)))))))
def d_nearest_table : Fd := ⟨4, 5, b_nearest_table⟩
/-- 14 0=one 1=other 2=low 3=high 4=rows 5=own -/
def b_doubled_readings : CS := (.asg 4 (.call i_nearest_table (.cons (.var 0) (.cons (.var 1) (.cons (.var 2) (.cons (.var 3) .nil)))))
 (.ret (.blt .tuple (.cons (.sst (.lc .plain (.cons (.var 4) .nil) (.nm 5) [5] (.cmp .gt (.cnt (.var 4) (.var 5)) (.cst (.int 1))) (.var 5))) .nil))))
def d_doubled_readings : Fd := ⟨4, 6, b_doubled_readings⟩
/-- 15 0=one 1=other 2=low 3=high 4=rows 5=own -/
def b_missed_readings : CS := (.asg 4 (.call i_nearest_table (.cons (.var 0) (.cons (.var 1) (.cons (.var 2) (.cons (.var 3) .nil)))))
 (.ret (.blt .tuple (.cons (.lc .range2 (.cons (.idx (.var 4) (.cst (.int 0))) (.cons (.bin .add (.idx (.var 4) (.neg (.cst (.int 1)))) (.cst (.int 1))) .nil)) (.nm 5) [5] (.cmp .notin (.var 5) (.var 4)) (.var 5)) .nil))))
def d_missed_readings : Fd := ⟨4, 6, b_missed_readings⟩
/-- 16 0=script 1=cell -/
def b__law_cup : CS := (.asg 1 (.blt .abs (.cons (.idx (.bin .add (.blt .list (.cons (.var 0) .nil)) (.lst (.cons (.cst (.int 0)) .nil))) (.cst (.int 0))) .nil))
 (.ret (.mkl (.cons (.ite (.cmp .ge (.var 1) (.bin .pow (.cst (.int 10)) (.cst (.int 18)))) (.bin .fdiv (.var 1) (.cst (.int 181))) (.cst (.int 0))) (.cons (.bin .add (.bin .mod (.blt .int (.cons (.bin .add (.bin .mul (.var 1) (.cst (.int 5413))) (.cst (.int 7457))) .nil)) (.cst (.int 2041236707))) (.cst (.int 3967))) .nil)))))
def d__law_cup : Fd := ⟨1, 2, b__law_cup⟩
/-- 17 0=cup 1=many 2=found 3=deep -/
def b__law_roll : CS := (.ifs (.cmp .gt (.idx (.var 0) (.cst (.int 0))) (.cst (.int 0)))
 (.asg 2 (.bin .mod (.blt .int (.cons (.idx (.var 0) (.cst (.int 0))) .nil)) (.var 1))
 (.sub (.var 0) (.cst (.int 0)) (.bin .fdiv (.idx (.var 0) (.cst (.int 0))) (.var 1))
 (.ret (.var 2))))
 .done
 (.sub (.var 0) (.cst (.int 1)) (.bin .mod (.blt .int (.cons (.bin .add (.bin .mul (.idx (.var 0) (.cst (.int 1))) (.cst (.int 35773))) (.cst (.int 9043))) .nil)) (.cst (.int 2147483423)))
 (.asg 3 (.bin .mod (.blt .int (.cons (.bin .mul (.idx (.var 0) (.cst (.int 1))) (.bin .add (.idx (.var 0) (.cst (.int 1))) (.cst (.int 6089)))) .nil)) (.cst (.int 2147483587)))
 (.ret (.bin .mod (.blt .int (.cons (.bin .fdiv (.var 3) (.cst (.int 3361))) .nil)) (.var 1))))))
def d__law_roll : Fd := ⟨2, 4, b__law_roll⟩
/-- 18 0=cup 1=things -/
def b__law_some : CS := (.ret (.idx (.var 1) (.call i__law_roll (.cons (.var 0) (.cons (.blt .len (.cons (.var 1) .nil)) .nil)))))
def d__law_some : Fd := ⟨2, 2, b__law_some⟩
/-- 19 0=told 1=due 2=at -/
def b__law_same : CS := (.ifs (.or (.isi (.var 1) .tuple) (.isi (.var 1) .list))
 (.ifs (.or (.cmp .ne (.isi (.var 0) .tuple) (.isi (.var 1) .tuple)) (.or (.cmp .ne (.isi (.var 0) .list) (.isi (.var 1) .list)) (.cmp .ne (.blt .len (.cons (.var 0) .nil)) (.blt .len (.cons (.var 1) .nil)))))
 (.ret (.cst (.bl false)))
 .done
 (.ret (.cmp .eq (.lc .range1 (.cons (.blt .len (.cons (.var 1) .nil)) .nil) (.nm 2) [2] (.not (.call i__law_same (.cons (.idx (.var 0) (.var 2)) (.cons (.idx (.var 1) (.var 2)) .nil)))) (.cst (.int 1))) (.lst .nil))))
 .done
 (.ifs (.isN (.var 1) true)
 (.ret (.isN (.var 0) true))
 .done
 (.ifs (.isi (.var 1) .bool)
 (.ret (.ite (.var 1) (.isB (.var 0) true true) (.isB (.var 0) false true)))
 .done
 (.ifs (.isi (.var 1) .int)
 (.ret (.and (.isi (.var 0) .int) (.and (.not (.isi (.var 0) .bool)) (.cmp .eq (.blt .int (.cons (.var 0) .nil)) (.var 1)))))
 .done
 (.ret (.and (.isi (.var 0) .str) (.cmp .eq (.blt .str (.cons (.var 0) .nil)) (.var 1))))))))
def d__law_same : Fd := ⟨2, 3, b__law_same⟩
/-- 20 0=above 1=below 2=one 3=other -/
def b__law_share : CS := (.asgT (.tp (.cons (.nm 0) (.cons (.nm 1) .nil))) (.ite (.cmp .lt (.var 1) (.cst (.int 0))) (.tup (.cons (.neg (.var 0)) (.cons (.neg (.var 1)) .nil))) (.tup (.cons (.var 0) (.cons (.var 1) .nil))))
 (.par [2, 3] (.cons (.blt .max (.cons (.var 0) (.cons (.neg (.var 0)) .nil))) (.cons (.var 1) .nil))
 (.whil (.cmp .gt (.var 3) (.cst (.int 0)))
 (.par [2, 3] (.cons (.var 3) (.cons (.bin .mod (.blt .int (.cons (.var 2) .nil)) (.var 3)) .nil))
 .done)
 (.ret (.tup (.cons (.blt .int (.cons (.bin .fdiv (.var 0) (.var 2)) .nil)) (.cons (.blt .int (.cons (.bin .fdiv (.var 1) (.var 2)) .nil)) .nil)))))))
def d__law_share : Fd := ⟨2, 4, b__law_share⟩
/-- 21 0=cup 1=far 2=low -/
def b__law_scale : CS := (.asg 2 (.bin .sub (.call i__law_roll (.cons (.var 0) (.cons (.bin .mul (.cst (.int 2)) (.var 1)) .nil))) (.var 1))
 (.ret (.tup (.cons (.var 2) (.cons (.bin .add (.bin .add (.var 2) (.cst (.int 1))) (.call i__law_roll (.cons (.var 0) (.cons (.bin .sub (.var 1) (.var 2)) .nil)))) .nil)))))
def d__law_scale : Fd := ⟨2, 3, b__law_scale⟩
/-- 22 0=one 1=other 2=reading 3=above -/
def b__law_turned_to : CS := (.asg 3 (.bin .add (.bin .mul (.bin .sub (.idx (.var 2) (.cst (.int 0))) (.bin .mul (.idx (.var 0) (.cst (.int 0))) (.idx (.var 2) (.cst (.int 1))))) (.bin .sub (.idx (.var 1) (.cst (.int 1))) (.idx (.var 1) (.cst (.int 0))))) (.bin .mul (.bin .mul (.idx (.var 1) (.cst (.int 0))) (.idx (.var 2) (.cst (.int 1)))) (.bin .sub (.idx (.var 0) (.cst (.int 1))) (.idx (.var 0) (.cst (.int 0))))))
 (.ret (.call i__law_share (.cons (.var 3) (.cons (.bin .mul (.idx (.var 2) (.cst (.int 1))) (.bin .sub (.idx (.var 0) (.cst (.int 1))) (.idx (.var 0) (.cst (.int 0))))) .nil)))))
def d__law_turned_to : Fd := ⟨3, 4, b__law_turned_to⟩
/-- 23 0=share 1=below -/
def b__law_nearest : CS := (.asg 1 (.blt .int (.cons (.bin .fdiv (.idx (.var 0) (.cst (.int 0))) (.idx (.var 0) (.cst (.int 1)))) .nil))
 (.ret (.bin .add (.var 1) (.ite (.cmp .ge (.bin .mul (.cst (.int 2)) (.bin .sub (.idx (.var 0) (.cst (.int 0))) (.bin .mul (.var 1) (.idx (.var 0) (.cst (.int 1)))))) (.idx (.var 0) (.cst (.int 1)))) (.cst (.int 1)) (.cst (.int 0))))))
def d__law_nearest : Fd := ⟨1, 2, b__law_nearest⟩
/-- 24 0=script 1=cup 2=turn 3=far 4=one 5=other 6=low 7=high 8=rows 9=table 10=meet 11=twice 12=missed 13=own 14=many 15=mine 16=theirs 17=start 18=told 19=share 20=at -/
def bL_law_0 : CS := (.asg 14 (.blt .len (.cons (.lc .plain (.cons (.var 9) .nil) (.nm 18) [18] (.cmp .eq (.var 18) (.var 13)) (.cst (.int 1))) .nil))
 (.asg 11 (.bin .add (.var 11) (.ite (.cmp .gt (.var 14) (.cst (.int 1))) (.lst (.cons (.var 13) .nil)) (.lst .nil)))
 (.asg 12 (.bin .add (.var 12) (.ite (.cmp .eq (.var 14) (.cst (.int 0))) (.lst (.cons (.var 13) .nil)) (.lst .nil)))
 .done)))
def kL_law_0 : CS := (.ifs (.not (.call i__law_same (.cons (.tup (.cons (.call i_doubled_readings (.cons (.var 4) (.cons (.var 5) (.cons (.var 6) (.cons (.var 7) .nil))))) (.cons (.call i_missed_readings (.cons (.var 4) (.cons (.var 5) (.cons (.var 6) (.cons (.var 7) .nil))))) .nil))) (.cons (.tup (.cons (.blt .tuple (.cons (.var 11) .nil)) (.cons (.blt .tuple (.cons (.var 12) .nil)) .nil))) .nil))))
 (.ret (.cst (.bl false)))
 .done
 (.par [15, 16] (.cons (.bin .sub (.idx (.var 4) (.cst (.int 1))) (.idx (.var 4) (.cst (.int 0)))) (.cons (.bin .sub (.idx (.var 5) (.cst (.int 1))) (.idx (.var 5) (.cst (.int 0)))) .nil))
 (.ifs (.or (.and (.cmp .le (.var 16) (.var 15)) (.cmp .ne (.var 12) (.lst .nil))) (.and (.cmp .ge (.var 16) (.var 15)) (.cmp .ne (.var 11) (.lst .nil))))
 (.ret (.cst (.bl false)))
 .done
 .done)))
def bL_law_1 : CS := (.asg 3 (.call i__law_some (.cons (.var 1) (.cons (.lst (.cons (.cst (.int 5)) (.cons (.cst (.int 30)) .nil))) .nil)))
 (.asgT (.tp (.cons (.nm 4) (.cons (.nm 5) .nil))) (.tup (.cons (.call i__law_scale (.cons (.var 1) (.cons (.var 3) .nil))) (.cons (.call i__law_scale (.cons (.var 1) (.cons (.var 3) .nil))) .nil)))
 (.asg 6 (.bin .sub (.call i__law_roll (.cons (.var 1) (.cons (.cst (.int 401)) .nil))) (.cst (.int 200)))
 (.asg 7 (.bin .add (.var 6) (.call i__law_roll (.cons (.var 1) (.cons (.call i__law_some (.cons (.var 1) (.cons (.lst (.cons (.cst (.int 9)) (.cons (.cst (.int 25)) .nil))) .nil))) .nil))))
 (.asg 8 (.lc .range2 (.cons (.var 6) (.cons (.bin .add (.var 7) (.cst (.int 1))) .nil)) (.nm 13) [13] .yes (.call i__law_turned_to (.cons (.var 4) (.cons (.var 5) (.cons (.tup (.cons (.var 13) (.cons (.cst (.int 1)) .nil))) .nil)))))
 (.asg 9 (.lc .plain (.cons (.var 8) .nil) (.nm 19) [19] .yes (.call i__law_nearest (.cons (.var 19) .nil)))
 (.asg 10 (.blt .tuple (.cons (.lc .enum (.cons (.var 8) .nil) (.tp (.cons (.nm 20) (.cons (.nm 19) .nil))) [20, 19] (.cmp .eq (.idx (.var 19) (.cst (.int 1))) (.cst (.int 1))) (.tup (.cons (.bin .add (.var 6) (.var 20)) (.cons (.idx (.var 19) (.cst (.int 0))) .nil)))) .nil))
 (.ifs (.not (.call i__law_same (.cons (.tup (.cons (.call i_meeting_marks (.cons (.var 4) (.cons (.var 5) (.cons (.var 6) (.cons (.var 7) .nil))))) (.cons (.call i_nearest_table (.cons (.var 4) (.cons (.var 5) (.cons (.var 6) (.cons (.var 7) .nil))))) .nil))) (.cons (.tup (.cons (.var 10) (.cons (.blt .tuple (.cons (.var 9) .nil)) .nil))) .nil))))
 (.ret (.cst (.bl false)))
 .done
 (.par [11, 12] (.cons (.lst .nil) (.cons (.lst .nil) .nil))
 (.for_ (.nm 13) .range2 (.cons (.idx (.var 9) (.cst (.int 0))) (.cons (.bin .add (.idx (.var 9) (.neg (.cst (.int 1)))) (.cst (.int 1))) .nil))
 bL_law_0
 kL_law_0))))))))))
def kL_law_1 : CS := (.asg 17 (.call i__law_roll (.cons (.var 1) (.cons (.cst (.int 1001)) .nil)))
 (.asg 18 (.tup (.cons (.call i_nearest_table (.cons (.tup (.cons (.cst (.int 0)) (.cons (.cst (.int 2)) .nil))) (.cons (.tup (.cons (.cst (.int 0)) (.cons (.cst (.int 1)) .nil))) (.cons (.neg (.cst (.int 3))) (.cons (.cst (.int 3)) .nil))))) (.cons (.call i_nearest_table (.cons (.tup (.cons (.cst (.int 0)) (.cons (.cst (.int 1)) .nil))) (.cons (.tup (.cons (.cst (.int 0)) (.cons (.cst (.int 3)) .nil))) (.cons (.var 17) (.cons (.var 17) .nil))))) (.cons (.call i_meeting_marks (.cons (.tup (.cons (.cst (.int 0)) (.cons (.cst (.int 2)) .nil))) (.cons (.tup (.cons (.cst (.int 0)) (.cons (.cst (.int 1)) .nil))) (.cons (.cst (.int 0)) (.cons (.cst (.int 5)) .nil))))) .nil))))
 (.ret (.call i__law_same (.cons (.var 18) (.cons (.tup (.cons (.tup (.cons (.neg (.cst (.int 1))) (.cons (.neg (.cst (.int 1))) (.cons (.cst (.int 0)) (.cons (.cst (.int 0)) (.cons (.cst (.int 1)) (.cons (.cst (.int 1)) (.cons (.cst (.int 2)) .nil)))))))) (.cons (.tup (.cons (.bin .mul (.cst (.int 3)) (.var 17)) .nil)) (.cons (.tup (.cons (.tup (.cons (.cst (.int 0)) (.cons (.cst (.int 0)) .nil))) (.cons (.tup (.cons (.cst (.int 2)) (.cons (.cst (.int 1)) .nil))) (.cons (.tup (.cons (.cst (.int 4)) (.cons (.cst (.int 2)) .nil))) .nil)))) .nil)))) .nil))))))
def b_law : CS := (.asg 1 (.call i__law_cup (.cons (.var 0) .nil))
 (.for_ (.nm 2) .range1 (.cons (.cst (.int 8)) .nil)
 bL_law_1
 kL_law_1))
def d_law : Fd := ⟨1, 21, b_law⟩
def top (i : Nat) : Stmt := PySem.Challenge.pw_surveyyard_k83_whole_tables_of_degrees.main.body.getD i (.Pass ⟨0, 0, 0, 0⟩)
def es : List Ent := [⟨"is_whole", top 5, (["value"] : List Str), (["value"] : List Str), d_is_whole⟩,
 ⟨"fits_whole", top 6, (["value", "low", "high"] : List Str), (["value", "low", "high"] : List Str), d_fits_whole⟩,
 ⟨"is_tuple_of", top 7, (["value", "least", "most"] : List Str), (["value", "least", "most"] : List Str), d_is_tuple_of⟩,
 ⟨"divisor_in", top 11, (["one", "other"] : List Str), (["one", "other"] : List Str), d_divisor_in⟩,
 ⟨"lowered", top 12, (["above", "below", "common"] : List Str), (["above", "below"] : List Str), d_lowered⟩,
 ⟨"fits_scale", top 13, (["value", "one"] : List Str), (["value"] : List Str), d_fits_scale⟩,
 ⟨"need_scale", top 14, (["value"] : List Str), (["value"] : List Str), d_need_scale⟩,
 ⟨"need_two", top 15, (["one", "other"] : List Str), (["one", "other"] : List Str), d_need_two⟩,
 ⟨"way_in", top 16, (["scale", "reading"] : List Str), (["scale", "reading"] : List Str), d_way_in⟩,
 ⟨"reading_in", top 17, (["scale", "way"] : List Str), (["scale", "way"] : List Str), d_reading_in⟩,
 ⟨"need_range", top 18, (["low", "high"] : List Str), (["low", "high"] : List Str), d_need_range⟩,
 ⟨"rounded", top 19, (["share"] : List Str), (["share"] : List Str), d_rounded⟩,
 ⟨"meeting_marks", top 20, (["one", "other", "low", "high", "rows", "own", "told"] : List Str), (["one", "other", "low", "high"] : List Str), d_meeting_marks⟩,
 ⟨"nearest_table", top 21, (["one", "other", "low", "high", "own"] : List Str), (["one", "other", "low", "high"] : List Str), d_nearest_table⟩,
 ⟨"doubled_readings", top 22, (["one", "other", "low", "high", "rows", "own"] : List Str), (["one", "other", "low", "high"] : List Str), d_doubled_readings⟩,
 ⟨"missed_readings", top 23, (["one", "other", "low", "high", "rows", "own"] : List Str), (["one", "other", "low", "high"] : List Str), d_missed_readings⟩,
 ⟨"_law_cup", top 25, (["script", "cell"] : List Str), (["script"] : List Str), d__law_cup⟩,
 ⟨"_law_roll", top 26, (["cup", "many", "found", "deep"] : List Str), (["cup", "many"] : List Str), d__law_roll⟩,
 ⟨"_law_some", top 27, (["cup", "things"] : List Str), (["cup", "things"] : List Str), d__law_some⟩,
 ⟨"_law_same", top 28, (["told", "due", "at"] : List Str), (["told", "due"] : List Str), d__law_same⟩,
 ⟨"_law_share", top 29, (["above", "below", "one", "other"] : List Str), (["above", "below"] : List Str), d__law_share⟩,
 ⟨"_law_scale", top 30, (["cup", "far", "low"] : List Str), (["cup", "far"] : List Str), d__law_scale⟩,
 ⟨"_law_turned_to", top 31, (["one", "other", "reading", "above"] : List Str), (["one", "other", "reading"] : List Str), d__law_turned_to⟩,
 ⟨"_law_nearest", top 32, (["share", "below"] : List Str), (["share"] : List Str), d__law_nearest⟩,
 ⟨"law", top 33, (["script", "cup", "turn", "far", "one", "other", "low", "high", "rows", "table", "meet", "twice", "missed", "own", "many", "mine", "theirs", "start", "told", "share", "at"] : List Str), (["script"] : List Str), d_law⟩]
def G : GN := ⟨es.map (·.x), (["SurveyError", "InvalidScale", "InvalidNumber"] : List Str), (["abs", "max", "int", "len", "list", "tuple", "all", "str", "bool", "isinstance", "range", "enumerate", "set", "sorted"] : List Str), [("FAR", 1000), ("LONG", 200)]⟩
@[irreducible] def tab : List Fd := es.map (·.d)
theorem tab_eq : tab = es.map (·.d) := by unfold tab; rfl
class IsTab (Tb : List Fd) : Prop where
  eq : Tb = tab
instance : IsTab tab := ⟨rfl⟩
theorem T_is_whole {Tb : List Fd} [h : IsTab Tb] : Tb[i_is_whole]? = some d_is_whole := by rw [h.eq, tab_eq]; rfl
theorem T_fits_whole {Tb : List Fd} [h : IsTab Tb] : Tb[i_fits_whole]? = some d_fits_whole := by rw [h.eq, tab_eq]; rfl
theorem T_is_tuple_of {Tb : List Fd} [h : IsTab Tb] : Tb[i_is_tuple_of]? = some d_is_tuple_of := by rw [h.eq, tab_eq]; rfl
theorem T_divisor_in {Tb : List Fd} [h : IsTab Tb] : Tb[i_divisor_in]? = some d_divisor_in := by rw [h.eq, tab_eq]; rfl
theorem T_lowered {Tb : List Fd} [h : IsTab Tb] : Tb[i_lowered]? = some d_lowered := by rw [h.eq, tab_eq]; rfl
theorem T_fits_scale {Tb : List Fd} [h : IsTab Tb] : Tb[i_fits_scale]? = some d_fits_scale := by rw [h.eq, tab_eq]; rfl
theorem T_need_scale {Tb : List Fd} [h : IsTab Tb] : Tb[i_need_scale]? = some d_need_scale := by rw [h.eq, tab_eq]; rfl
theorem T_need_two {Tb : List Fd} [h : IsTab Tb] : Tb[i_need_two]? = some d_need_two := by rw [h.eq, tab_eq]; rfl
theorem T_way_in {Tb : List Fd} [h : IsTab Tb] : Tb[i_way_in]? = some d_way_in := by rw [h.eq, tab_eq]; rfl
theorem T_reading_in {Tb : List Fd} [h : IsTab Tb] : Tb[i_reading_in]? = some d_reading_in := by rw [h.eq, tab_eq]; rfl
theorem T_need_range {Tb : List Fd} [h : IsTab Tb] : Tb[i_need_range]? = some d_need_range := by rw [h.eq, tab_eq]; rfl
theorem T_rounded {Tb : List Fd} [h : IsTab Tb] : Tb[i_rounded]? = some d_rounded := by rw [h.eq, tab_eq]; rfl
theorem T_meeting_marks {Tb : List Fd} [h : IsTab Tb] : Tb[i_meeting_marks]? = some d_meeting_marks := by rw [h.eq, tab_eq]; rfl
theorem T_nearest_table {Tb : List Fd} [h : IsTab Tb] : Tb[i_nearest_table]? = some d_nearest_table := by rw [h.eq, tab_eq]; rfl
theorem T_doubled_readings {Tb : List Fd} [h : IsTab Tb] : Tb[i_doubled_readings]? = some d_doubled_readings := by rw [h.eq, tab_eq]; rfl
theorem T_missed_readings {Tb : List Fd} [h : IsTab Tb] : Tb[i_missed_readings]? = some d_missed_readings := by rw [h.eq, tab_eq]; rfl
theorem T__law_cup {Tb : List Fd} [h : IsTab Tb] : Tb[i__law_cup]? = some d__law_cup := by rw [h.eq, tab_eq]; rfl
theorem T__law_roll {Tb : List Fd} [h : IsTab Tb] : Tb[i__law_roll]? = some d__law_roll := by rw [h.eq, tab_eq]; rfl
theorem T__law_some {Tb : List Fd} [h : IsTab Tb] : Tb[i__law_some]? = some d__law_some := by rw [h.eq, tab_eq]; rfl
theorem T__law_same {Tb : List Fd} [h : IsTab Tb] : Tb[i__law_same]? = some d__law_same := by rw [h.eq, tab_eq]; rfl
theorem T__law_share {Tb : List Fd} [h : IsTab Tb] : Tb[i__law_share]? = some d__law_share := by rw [h.eq, tab_eq]; rfl
theorem T__law_scale {Tb : List Fd} [h : IsTab Tb] : Tb[i__law_scale]? = some d__law_scale := by rw [h.eq, tab_eq]; rfl
theorem T__law_turned_to {Tb : List Fd} [h : IsTab Tb] : Tb[i__law_turned_to]? = some d__law_turned_to := by rw [h.eq, tab_eq]; rfl
theorem T__law_nearest {Tb : List Fd} [h : IsTab Tb] : Tb[i__law_nearest]? = some d__law_nearest := by rw [h.eq, tab_eq]; rfl
theorem T_law {Tb : List Fd} [h : IsTab Tb] : Tb[i_law]? = some d_law := by rw [h.eq, tab_eq]; rfl
theorem hb : AllBd es := ⟨fun _ _ _ _ _ _ us hl => match us, hl with | [_], _ => rfl, fun _ _ _ _ _ _ us hl => match us, hl with | [_, _, _], _ => rfl, fun _ _ _ _ _ _ us hl => match us, hl with | [_, _, _], _ => rfl, fun _ _ _ _ _ _ us hl => match us, hl with | [_, _], _ => rfl, fun _ _ _ _ _ _ us hl => match us, hl with | [_, _], _ => rfl, fun _ _ _ _ _ _ us hl => match us, hl with | [_], _ => rfl, fun _ _ _ _ _ _ us hl => match us, hl with | [_], _ => rfl, fun _ _ _ _ _ _ us hl => match us, hl with | [_, _], _ => rfl, fun _ _ _ _ _ _ us hl => match us, hl with | [_, _], _ => rfl, fun _ _ _ _ _ _ us hl => match us, hl with | [_, _], _ => rfl, fun _ _ _ _ _ _ us hl => match us, hl with | [_, _], _ => rfl, fun _ _ _ _ _ _ us hl => match us, hl with | [_], _ => rfl, fun _ _ _ _ _ _ us hl => match us, hl with | [_, _, _, _], _ => rfl, fun _ _ _ _ _ _ us hl => match us, hl with | [_, _, _, _], _ => rfl, fun _ _ _ _ _ _ us hl => match us, hl with | [_, _, _, _], _ => rfl, fun _ _ _ _ _ _ us hl => match us, hl with | [_, _, _, _], _ => rfl, fun _ _ _ _ _ _ us hl => match us, hl with | [_], _ => rfl, fun _ _ _ _ _ _ us hl => match us, hl with | [_, _], _ => rfl, fun _ _ _ _ _ _ us hl => match us, hl with | [_, _], _ => rfl, fun _ _ _ _ _ _ us hl => match us, hl with | [_, _], _ => rfl, fun _ _ _ _ _ _ us hl => match us, hl with | [_, _], _ => rfl, fun _ _ _ _ _ _ us hl => match us, hl with | [_, _], _ => rfl, fun _ _ _ _ _ _ us hl => match us, hl with | [_, _, _], _ => rfl, fun _ _ _ _ _ _ us hl => match us, hl with | [_], _ => rfl, fun _ _ _ _ _ _ us hl => match us, hl with | [_], _ => rfl, trivial⟩
def lawI : Nat := 24
def lawT : Nat := 33
def others : List PySem.Str := (["__name__", "SurveyError", "InvalidScale", "InvalidNumber", "is_whole", "fits_whole", "is_tuple_of", "FAR", "LONG", "divisor_in", "lowered", "fits_scale", "need_scale", "need_two", "way_in", "reading_in", "need_range", "rounded", "meeting_marks", "nearest_table", "doubled_readings", "missed_readings", "_law_cup", "_law_roll", "_law_some", "_law_same", "_law_share", "_law_scale", "_law_turned_to", "_law_nearest"] : List Str)
end Ev.K83
end
section
set_option Elab.async false
set_option linter.all false
set_option maxRecDepth 100000
set_option maxHeartbeats 4000000
set_option exponentiation.threshold 5000
namespace Ev.K83
open PySem L2
variable {Tb : List Fd} [IsTab Tb]
section
variable {W n : Nat} {st : Store}
def isW : PV → Bool
  | .int _ => true
  | _ => false
theorem sp_is_whole {v : PV} (hn : 1 ≤ n) (hd : deref st v = v) (ht : tyOk v = true) : callN Tb W n i_is_whole [v] st = .ok (.bl (isW v)) st := by
  obtain ⟨n, rfl⟩ : ∃ m, n = m + 1 := ⟨n - 1, by omega⟩
  refine call_eq T_is_whole rfl ?_
  simp -dsimp only [d_is_whole, b_is_whole, S_done, S_asg, S_asgT, S_par, S_sub, S_expr, S_if, S_for, S_forB, S_ret, S_retN, E_var, E_cst, E_gl, E_yes, E_tup, E_lst, E_mkl, E_bin, E_mkb, E_neg, E_not, E_cmp, E_chain, E_isN, E_isB, E_and, E_or, E_ite, E_idx, E_rev, E_slc, P_non, P_cst, P_var, P_bin, P_neg, P_call, P_blt, E_call, E_blt, E_mkt, E_isi, E_app, Es_nil, Es_cons, E_T, E_alloc, E_lc, E_mkc, LC_nil, LC_cons, LC_B, lcQ, accO, bls, Option.map_some, List.all_cons, List.all_nil, id_eq, Bool.and_true, OkO_some, OkI_t, OkI_f, Ok_ok, OkS_next, OkS_ret, deref_int, deref_bl, deref_str, deref_non, deref_tup, deref_lst, deref_fn, deref_frz, deref_r0, deref_r1, deref_r2, T_bl, T_int, T_tup, T_lst, T_non, B_addI, B_addL, B_addT, B_subI, B_mulI, B_divI, B_modI, C_ltI, C_leI, C_gtI, C_geI, C_eqI, C_eqB, C_neB, C_neI, I_tup, I_lst, L_tup, L_lst, L_abs, L_max, L_min, L_int, L_tupL, L_tupT, L_listT, L_listL, L_listF, L_all, L_any, It_L, It_T, It_r1, It_r2, negO_int, intO_int, isNo, isBo, bindT, bindTs, setAll, atI_0, atI_1, atI_2, atI_3, get_0, get_1, get_2, get_3, get_4, get_5, get_6, get_7, get_8, get_9, get_10, get_11, get_12, get_13, get_14, get_15, get_16, set_0, set_1, set_2, set_3, set_4, set_5, set_6, set_7, set_8, set_9, set_10, set_11, set_12, set_13, set_14, set_15, set_16, List.map_cons, List.map_nil, List.cons_append, List.nil_append, List.replicate_succ, List.replicate_zero, List.append_nil, List.length_cons, List.length_nil, if_true, if_false, Bool.not_true, Bool.not_false, Bool.false_eq_true, Nat.sub_self, Nat.reduceSub, Nat.reduceAdd, Nat.zero_add, Nat.reduceLeDiff, lim, and_true, true_and, decide_true, decide_false, PV.isRef, wipeE, hd, ht]
  cases v <;> simp -dsimp only [isW, isTy, S_done, S_asg, S_asgT, S_par, S_sub, S_expr, S_if, S_for, S_forB, S_ret, S_retN, E_var, E_cst, E_gl, E_yes, E_tup, E_lst, E_mkl, E_bin, E_mkb, E_neg, E_not, E_cmp, E_chain, E_isN, E_isB, E_and, E_or, E_ite, E_idx, E_rev, E_slc, P_non, P_cst, P_var, P_bin, P_neg, P_call, P_blt, E_call, E_blt, E_mkt, E_isi, E_app, Es_nil, Es_cons, E_T, E_alloc, E_lc, E_mkc, LC_nil, LC_cons, LC_B, lcQ, accO, bls, Option.map_some, List.all_cons, List.all_nil, id_eq, Bool.and_true, OkO_some, OkI_t, OkI_f, Ok_ok, OkS_next, OkS_ret, deref_int, deref_bl, deref_str, deref_non, deref_tup, deref_lst, deref_fn, deref_frz, deref_r0, deref_r1, deref_r2, T_bl, T_int, T_tup, T_lst, T_non, B_addI, B_addL, B_addT, B_subI, B_mulI, B_divI, B_modI, C_ltI, C_leI, C_gtI, C_geI, C_eqI, C_eqB, C_neB, C_neI, I_tup, I_lst, L_tup, L_lst, L_abs, L_max, L_min, L_int, L_tupL, L_tupT, L_listT, L_listL, L_listF, L_all, L_any, It_L, It_T, It_r1, It_r2, negO_int, intO_int, isNo, isBo, bindT, bindTs, setAll, atI_0, atI_1, atI_2, atI_3, get_0, get_1, get_2, get_3, get_4, get_5, get_6, get_7, get_8, get_9, get_10, get_11, get_12, get_13, get_14, get_15, get_16, set_0, set_1, set_2, set_3, set_4, set_5, set_6, set_7, set_8, set_9, set_10, set_11, set_12, set_13, set_14, set_15, set_16, List.map_cons, List.map_nil, List.cons_append, List.nil_append, List.replicate_succ, List.replicate_zero, List.append_nil, List.length_cons, List.length_nil, if_true, if_false, Bool.not_true, Bool.not_false, Bool.false_eq_true, Nat.sub_self, Nat.reduceSub, Nat.reduceAdd, Nat.zero_add, Nat.reduceLeDiff, lim, and_true, true_and, decide_true, decide_false, PV.isRef, wipeE, hd, ht]
def wB (v : PV) (lo hi : Int) : Bool := match v with
  | .int i => decide (lo ≤ i) && decide (i ≤ hi)
  | _ => false
theorem sp_fits_whole {v : PV} {lo hi : Int} (hn : 2 ≤ n) (hd : deref st v = v) (ht : tyOk v = true) : callN Tb W n i_fits_whole [v, .int lo, .int hi] st = .ok (.bl (wB v lo hi)) st := by
  obtain ⟨n, rfl⟩ : ∃ m, n = m + 1 := ⟨n - 1, by omega⟩
  refine call_eq T_fits_whole rfl ?_
  simp -dsimp only [d_fits_whole, b_fits_whole, S_done, S_asg, S_asgT, S_par, S_sub, S_expr, S_if, S_for, S_forB, S_ret, S_retN, E_var, E_cst, E_gl, E_yes, E_tup, E_lst, E_mkl, E_bin, E_mkb, E_neg, E_not, E_cmp, E_chain, E_isN, E_isB, E_and, E_or, E_ite, E_idx, E_rev, E_slc, P_non, P_cst, P_var, P_bin, P_neg, P_call, P_blt, E_call, E_blt, E_mkt, E_isi, E_app, Es_nil, Es_cons, E_T, E_alloc, E_lc, E_mkc, LC_nil, LC_cons, LC_B, lcQ, accO, bls, Option.map_some, List.all_cons, List.all_nil, id_eq, Bool.and_true, OkO_some, OkI_t, OkI_f, Ok_ok, OkS_next, OkS_ret, deref_int, deref_bl, deref_str, deref_non, deref_tup, deref_lst, deref_fn, deref_frz, deref_r0, deref_r1, deref_r2, T_bl, T_int, T_tup, T_lst, T_non, B_addI, B_addL, B_addT, B_subI, B_mulI, B_divI, B_modI, C_ltI, C_leI, C_gtI, C_geI, C_eqI, C_eqB, C_neB, C_neI, I_tup, I_lst, L_tup, L_lst, L_abs, L_max, L_min, L_int, L_tupL, L_tupT, L_listT, L_listL, L_listF, L_all, L_any, It_L, It_T, It_r1, It_r2, negO_int, intO_int, isNo, isBo, bindT, bindTs, setAll, atI_0, atI_1, atI_2, atI_3, get_0, get_1, get_2, get_3, get_4, get_5, get_6, get_7, get_8, get_9, get_10, get_11, get_12, get_13, get_14, get_15, get_16, set_0, set_1, set_2, set_3, set_4, set_5, set_6, set_7, set_8, set_9, set_10, set_11, set_12, set_13, set_14, set_15, set_16, List.map_cons, List.map_nil, List.cons_append, List.nil_append, List.replicate_succ, List.replicate_zero, List.append_nil, List.length_cons, List.length_nil, if_true, if_false, Bool.not_true, Bool.not_false, Bool.false_eq_true, Nat.sub_self, Nat.reduceSub, Nat.reduceAdd, Nat.zero_add, Nat.reduceLeDiff, lim, and_true, true_and, decide_true, decide_false, PV.isRef, wipeE]
  rw [sp_is_whole (by omega) hd ht]
  simp -dsimp only [S_done, S_asg, S_asgT, S_par, S_sub, S_expr, S_if, S_for, S_forB, S_ret, S_retN, E_var, E_cst, E_gl, E_yes, E_tup, E_lst, E_mkl, E_bin, E_mkb, E_neg, E_not, E_cmp, E_chain, E_isN, E_isB, E_and, E_or, E_ite, E_idx, E_rev, E_slc, P_non, P_cst, P_var, P_bin, P_neg, P_call, P_blt, E_call, E_blt, E_mkt, E_isi, E_app, Es_nil, Es_cons, E_T, E_alloc, E_lc, E_mkc, LC_nil, LC_cons, LC_B, lcQ, accO, bls, Option.map_some, List.all_cons, List.all_nil, id_eq, Bool.and_true, OkO_some, OkI_t, OkI_f, Ok_ok, OkS_next, OkS_ret, deref_int, deref_bl, deref_str, deref_non, deref_tup, deref_lst, deref_fn, deref_frz, deref_r0, deref_r1, deref_r2, T_bl, T_int, T_tup, T_lst, T_non, B_addI, B_addL, B_addT, B_subI, B_mulI, B_divI, B_modI, C_ltI, C_leI, C_gtI, C_geI, C_eqI, C_eqB, C_neB, C_neI, I_tup, I_lst, L_tup, L_lst, L_abs, L_max, L_min, L_int, L_tupL, L_tupT, L_listT, L_listL, L_listF, L_all, L_any, It_L, It_T, It_r1, It_r2, negO_int, intO_int, isNo, isBo, bindT, bindTs, setAll, atI_0, atI_1, atI_2, atI_3, get_0, get_1, get_2, get_3, get_4, get_5, get_6, get_7, get_8, get_9, get_10, get_11, get_12, get_13, get_14, get_15, get_16, set_0, set_1, set_2, set_3, set_4, set_5, set_6, set_7, set_8, set_9, set_10, set_11, set_12, set_13, set_14, set_15, set_16, List.map_cons, List.map_nil, List.cons_append, List.nil_append, List.replicate_succ, List.replicate_zero, List.append_nil, List.length_cons, List.length_nil, if_true, if_false, Bool.not_true, Bool.not_false, Bool.false_eq_true, Nat.sub_self, Nat.reduceSub, Nat.reduceAdd, Nat.zero_add, Nat.reduceLeDiff, lim, and_true, true_and, decide_true, decide_false, PV.isRef, wipeE]
  cases v with
  | int i =>
    simp -dsimp only [isW, S_done, S_asg, S_asgT, S_par, S_sub, S_expr, S_if, S_for, S_forB, S_ret, S_retN, E_var, E_cst, E_gl, E_yes, E_tup, E_lst, E_mkl, E_bin, E_mkb, E_neg, E_not, E_cmp, E_chain, E_isN, E_isB, E_and, E_or, E_ite, E_idx, E_rev, E_slc, P_non, P_cst, P_var, P_bin, P_neg, P_call, P_blt, E_call, E_blt, E_mkt, E_isi, E_app, Es_nil, Es_cons, E_T, E_alloc, E_lc, E_mkc, LC_nil, LC_cons, LC_B, lcQ, accO, bls, Option.map_some, List.all_cons, List.all_nil, id_eq, Bool.and_true, OkO_some, OkI_t, OkI_f, Ok_ok, OkS_next, OkS_ret, deref_int, deref_bl, deref_str, deref_non, deref_tup, deref_lst, deref_fn, deref_frz, deref_r0, deref_r1, deref_r2, T_bl, T_int, T_tup, T_lst, T_non, B_addI, B_addL, B_addT, B_subI, B_mulI, B_divI, B_modI, C_ltI, C_leI, C_gtI, C_geI, C_eqI, C_eqB, C_neB, C_neI, I_tup, I_lst, L_tup, L_lst, L_abs, L_max, L_min, L_int, L_tupL, L_tupT, L_listT, L_listL, L_listF, L_all, L_any, It_L, It_T, It_r1, It_r2, negO_int, intO_int, isNo, isBo, bindT, bindTs, setAll, atI_0, atI_1, atI_2, atI_3, get_0, get_1, get_2, get_3, get_4, get_5, get_6, get_7, get_8, get_9, get_10, get_11, get_12, get_13, get_14, get_15, get_16, set_0, set_1, set_2, set_3, set_4, set_5, set_6, set_7, set_8, set_9, set_10, set_11, set_12, set_13, set_14, set_15, set_16, List.map_cons, List.map_nil, List.cons_append, List.nil_append, List.replicate_succ, List.replicate_zero, List.append_nil, List.length_cons, List.length_nil, if_true, if_false, Bool.not_true, Bool.not_false, Bool.false_eq_true, Nat.sub_self, Nat.reduceSub, Nat.reduceAdd, Nat.zero_add, Nat.reduceLeDiff, lim, and_true, true_and, decide_true, decide_false, PV.isRef, wipeE, wB]
    by_cases h : lo ≤ i <;> simp -dsimp only [h, wB, S_done, S_asg, S_asgT, S_par, S_sub, S_expr, S_if, S_for, S_forB, S_ret, S_retN, E_var, E_cst, E_gl, E_yes, E_tup, E_lst, E_mkl, E_bin, E_mkb, E_neg, E_not, E_cmp, E_chain, E_isN, E_isB, E_and, E_or, E_ite, E_idx, E_rev, E_slc, P_non, P_cst, P_var, P_bin, P_neg, P_call, P_blt, E_call, E_blt, E_mkt, E_isi, E_app, Es_nil, Es_cons, E_T, E_alloc, E_lc, E_mkc, LC_nil, LC_cons, LC_B, lcQ, accO, bls, Option.map_some, List.all_cons, List.all_nil, id_eq, Bool.and_true, OkO_some, OkI_t, OkI_f, Ok_ok, OkS_next, OkS_ret, deref_int, deref_bl, deref_str, deref_non, deref_tup, deref_lst, deref_fn, deref_frz, deref_r0, deref_r1, deref_r2, T_bl, T_int, T_tup, T_lst, T_non, B_addI, B_addL, B_addT, B_subI, B_mulI, B_divI, B_modI, C_ltI, C_leI, C_gtI, C_geI, C_eqI, C_eqB, C_neB, C_neI, I_tup, I_lst, L_tup, L_lst, L_abs, L_max, L_min, L_int, L_tupL, L_tupT, L_listT, L_listL, L_listF, L_all, L_any, It_L, It_T, It_r1, It_r2, negO_int, intO_int, isNo, isBo, bindT, bindTs, setAll, atI_0, atI_1, atI_2, atI_3, get_0, get_1, get_2, get_3, get_4, get_5, get_6, get_7, get_8, get_9, get_10, get_11, get_12, get_13, get_14, get_15, get_16, set_0, set_1, set_2, set_3, set_4, set_5, set_6, set_7, set_8, set_9, set_10, set_11, set_12, set_13, set_14, set_15, set_16, List.map_cons, List.map_nil, List.cons_append, List.nil_append, List.replicate_succ, List.replicate_zero, List.append_nil, List.length_cons, List.length_nil, if_true, if_false, Bool.not_true, Bool.not_false, Bool.false_eq_true, Nat.sub_self, Nat.reduceSub, Nat.reduceAdd, Nat.zero_add, Nat.reduceLeDiff, lim, and_true, true_and, decide_true, decide_false, PV.isRef, wipeE, Bool.true_and, Bool.false_and]
  | _ => simp -dsimp only [isW, wB, S_done, S_asg, S_asgT, S_par, S_sub, S_expr, S_if, S_for, S_forB, S_ret, S_retN, E_var, E_cst, E_gl, E_yes, E_tup, E_lst, E_mkl, E_bin, E_mkb, E_neg, E_not, E_cmp, E_chain, E_isN, E_isB, E_and, E_or, E_ite, E_idx, E_rev, E_slc, P_non, P_cst, P_var, P_bin, P_neg, P_call, P_blt, E_call, E_blt, E_mkt, E_isi, E_app, Es_nil, Es_cons, E_T, E_alloc, E_lc, E_mkc, LC_nil, LC_cons, LC_B, lcQ, accO, bls, Option.map_some, List.all_cons, List.all_nil, id_eq, Bool.and_true, OkO_some, OkI_t, OkI_f, Ok_ok, OkS_next, OkS_ret, deref_int, deref_bl, deref_str, deref_non, deref_tup, deref_lst, deref_fn, deref_frz, deref_r0, deref_r1, deref_r2, T_bl, T_int, T_tup, T_lst, T_non, B_addI, B_addL, B_addT, B_subI, B_mulI, B_divI, B_modI, C_ltI, C_leI, C_gtI, C_geI, C_eqI, C_eqB, C_neB, C_neI, I_tup, I_lst, L_tup, L_lst, L_abs, L_max, L_min, L_int, L_tupL, L_tupT, L_listT, L_listL, L_listF, L_all, L_any, It_L, It_T, It_r1, It_r2, negO_int, intO_int, isNo, isBo, bindT, bindTs, setAll, atI_0, atI_1, atI_2, atI_3, get_0, get_1, get_2, get_3, get_4, get_5, get_6, get_7, get_8, get_9, get_10, get_11, get_12, get_13, get_14, get_15, get_16, set_0, set_1, set_2, set_3, set_4, set_5, set_6, set_7, set_8, set_9, set_10, set_11, set_12, set_13, set_14, set_15, set_16, List.map_cons, List.map_nil, List.cons_append, List.nil_append, List.replicate_succ, List.replicate_zero, List.append_nil, List.length_cons, List.length_nil, if_true, if_false, Bool.not_true, Bool.not_false, Bool.false_eq_true, Nat.sub_self, Nat.reduceSub, Nat.reduceAdd, Nat.zero_add, Nat.reduceLeDiff, lim, and_true, true_and, decide_true, decide_false, PV.isRef, wipeE]
def tB (v : PV) (lo hi : Int) : Bool := match v with
  | .tup xs => decide (lo ≤ xs.length) && decide ((xs.length : Int) ≤ hi)
  | _ => false
theorem sp_is_tuple_of {v : PV} {lo hi : Int} (hn : 1 ≤ n) (hd : deref st v = v) (ht : tyOk v = true) : callN Tb W n i_is_tuple_of [v, .int lo, .int hi] st = .ok (.bl (tB v lo hi)) st := by
  obtain ⟨n, rfl⟩ : ∃ m, n = m + 1 := ⟨n - 1, by omega⟩
  refine call_eq T_is_tuple_of rfl ?_
  simp -dsimp only [d_is_tuple_of, b_is_tuple_of, S_done, S_asg, S_asgT, S_par, S_sub, S_expr, S_if, S_for, S_forB, S_ret, S_retN, E_var, E_cst, E_gl, E_yes, E_tup, E_lst, E_mkl, E_bin, E_mkb, E_neg, E_not, E_cmp, E_chain, E_isN, E_isB, E_and, E_or, E_ite, E_idx, E_rev, E_slc, P_non, P_cst, P_var, P_bin, P_neg, P_call, P_blt, E_call, E_blt, E_mkt, E_isi, E_app, Es_nil, Es_cons, E_T, E_alloc, E_lc, E_mkc, LC_nil, LC_cons, LC_B, lcQ, accO, bls, Option.map_some, List.all_cons, List.all_nil, id_eq, Bool.and_true, OkO_some, OkI_t, OkI_f, Ok_ok, OkS_next, OkS_ret, deref_int, deref_bl, deref_str, deref_non, deref_tup, deref_lst, deref_fn, deref_frz, deref_r0, deref_r1, deref_r2, T_bl, T_int, T_tup, T_lst, T_non, B_addI, B_addL, B_addT, B_subI, B_mulI, B_divI, B_modI, C_ltI, C_leI, C_gtI, C_geI, C_eqI, C_eqB, C_neB, C_neI, I_tup, I_lst, L_tup, L_lst, L_abs, L_max, L_min, L_int, L_tupL, L_tupT, L_listT, L_listL, L_listF, L_all, L_any, It_L, It_T, It_r1, It_r2, negO_int, intO_int, isNo, isBo, bindT, bindTs, setAll, atI_0, atI_1, atI_2, atI_3, get_0, get_1, get_2, get_3, get_4, get_5, get_6, get_7, get_8, get_9, get_10, get_11, get_12, get_13, get_14, get_15, get_16, set_0, set_1, set_2, set_3, set_4, set_5, set_6, set_7, set_8, set_9, set_10, set_11, set_12, set_13, set_14, set_15, set_16, List.map_cons, List.map_nil, List.cons_append, List.nil_append, List.replicate_succ, List.replicate_zero, List.append_nil, List.length_cons, List.length_nil, if_true, if_false, Bool.not_true, Bool.not_false, Bool.false_eq_true, Nat.sub_self, Nat.reduceSub, Nat.reduceAdd, Nat.zero_add, Nat.reduceLeDiff, lim, and_true, true_and, decide_true, decide_false, PV.isRef, wipeE, hd, ht]
  cases v with
  | tup xs =>
    simp -dsimp only [S_done, S_asg, S_asgT, S_par, S_sub, S_expr, S_if, S_for, S_forB, S_ret, S_retN, E_var, E_cst, E_gl, E_yes, E_tup, E_lst, E_mkl, E_bin, E_mkb, E_neg, E_not, E_cmp, E_chain, E_isN, E_isB, E_and, E_or, E_ite, E_idx, E_rev, E_slc, P_non, P_cst, P_var, P_bin, P_neg, P_call, P_blt, E_call, E_blt, E_mkt, E_isi, E_app, Es_nil, Es_cons, E_T, E_alloc, E_lc, E_mkc, LC_nil, LC_cons, LC_B, lcQ, accO, bls, Option.map_some, List.all_cons, List.all_nil, id_eq, Bool.and_true, OkO_some, OkI_t, OkI_f, Ok_ok, OkS_next, OkS_ret, deref_int, deref_bl, deref_str, deref_non, deref_tup, deref_lst, deref_fn, deref_frz, deref_r0, deref_r1, deref_r2, T_bl, T_int, T_tup, T_lst, T_non, B_addI, B_addL, B_addT, B_subI, B_mulI, B_divI, B_modI, C_ltI, C_leI, C_gtI, C_geI, C_eqI, C_eqB, C_neB, C_neI, I_tup, I_lst, L_tup, L_lst, L_abs, L_max, L_min, L_int, L_tupL, L_tupT, L_listT, L_listL, L_listF, L_all, L_any, It_L, It_T, It_r1, It_r2, negO_int, intO_int, isNo, isBo, bindT, bindTs, setAll, atI_0, atI_1, atI_2, atI_3, get_0, get_1, get_2, get_3, get_4, get_5, get_6, get_7, get_8, get_9, get_10, get_11, get_12, get_13, get_14, get_15, get_16, set_0, set_1, set_2, set_3, set_4, set_5, set_6, set_7, set_8, set_9, set_10, set_11, set_12, set_13, set_14, set_15, set_16, List.map_cons, List.map_nil, List.cons_append, List.nil_append, List.replicate_succ, List.replicate_zero, List.append_nil, List.length_cons, List.length_nil, if_true, if_false, Bool.not_true, Bool.not_false, Bool.false_eq_true, Nat.sub_self, Nat.reduceSub, Nat.reduceAdd, Nat.zero_add, Nat.reduceLeDiff, lim, and_true, true_and, decide_true, decide_false, PV.isRef, wipeE, tB, isTy]
    by_cases h : lo ≤ xs.length <;> simp -dsimp only [h, tB, S_done, S_asg, S_asgT, S_par, S_sub, S_expr, S_if, S_for, S_forB, S_ret, S_retN, E_var, E_cst, E_gl, E_yes, E_tup, E_lst, E_mkl, E_bin, E_mkb, E_neg, E_not, E_cmp, E_chain, E_isN, E_isB, E_and, E_or, E_ite, E_idx, E_rev, E_slc, P_non, P_cst, P_var, P_bin, P_neg, P_call, P_blt, E_call, E_blt, E_mkt, E_isi, E_app, Es_nil, Es_cons, E_T, E_alloc, E_lc, E_mkc, LC_nil, LC_cons, LC_B, lcQ, accO, bls, Option.map_some, List.all_cons, List.all_nil, id_eq, Bool.and_true, OkO_some, OkI_t, OkI_f, Ok_ok, OkS_next, OkS_ret, deref_int, deref_bl, deref_str, deref_non, deref_tup, deref_lst, deref_fn, deref_frz, deref_r0, deref_r1, deref_r2, T_bl, T_int, T_tup, T_lst, T_non, B_addI, B_addL, B_addT, B_subI, B_mulI, B_divI, B_modI, C_ltI, C_leI, C_gtI, C_geI, C_eqI, C_eqB, C_neB, C_neI, I_tup, I_lst, L_tup, L_lst, L_abs, L_max, L_min, L_int, L_tupL, L_tupT, L_listT, L_listL, L_listF, L_all, L_any, It_L, It_T, It_r1, It_r2, negO_int, intO_int, isNo, isBo, bindT, bindTs, setAll, atI_0, atI_1, atI_2, atI_3, get_0, get_1, get_2, get_3, get_4, get_5, get_6, get_7, get_8, get_9, get_10, get_11, get_12, get_13, get_14, get_15, get_16, set_0, set_1, set_2, set_3, set_4, set_5, set_6, set_7, set_8, set_9, set_10, set_11, set_12, set_13, set_14, set_15, set_16, List.map_cons, List.map_nil, List.cons_append, List.nil_append, List.replicate_succ, List.replicate_zero, List.append_nil, List.length_cons, List.length_nil, if_true, if_false, Bool.not_true, Bool.not_false, Bool.false_eq_true, Nat.sub_self, Nat.reduceSub, Nat.reduceAdd, Nat.zero_add, Nat.reduceLeDiff, lim, and_true, true_and, decide_true, decide_false, PV.isRef, wipeE, Bool.true_and, Bool.false_and]
  | _ => simp -dsimp only [tB, S_done, S_asg, S_asgT, S_par, S_sub, S_expr, S_if, S_for, S_forB, S_ret, S_retN, E_var, E_cst, E_gl, E_yes, E_tup, E_lst, E_mkl, E_bin, E_mkb, E_neg, E_not, E_cmp, E_chain, E_isN, E_isB, E_and, E_or, E_ite, E_idx, E_rev, E_slc, P_non, P_cst, P_var, P_bin, P_neg, P_call, P_blt, E_call, E_blt, E_mkt, E_isi, E_app, Es_nil, Es_cons, E_T, E_alloc, E_lc, E_mkc, LC_nil, LC_cons, LC_B, lcQ, accO, bls, Option.map_some, List.all_cons, List.all_nil, id_eq, Bool.and_true, OkO_some, OkI_t, OkI_f, Ok_ok, OkS_next, OkS_ret, deref_int, deref_bl, deref_str, deref_non, deref_tup, deref_lst, deref_fn, deref_frz, deref_r0, deref_r1, deref_r2, T_bl, T_int, T_tup, T_lst, T_non, B_addI, B_addL, B_addT, B_subI, B_mulI, B_divI, B_modI, C_ltI, C_leI, C_gtI, C_geI, C_eqI, C_eqB, C_neB, C_neI, I_tup, I_lst, L_tup, L_lst, L_abs, L_max, L_min, L_int, L_tupL, L_tupT, L_listT, L_listL, L_listF, L_all, L_any, It_L, It_T, It_r1, It_r2, negO_int, intO_int, isNo, isBo, bindT, bindTs, setAll, atI_0, atI_1, atI_2, atI_3, get_0, get_1, get_2, get_3, get_4, get_5, get_6, get_7, get_8, get_9, get_10, get_11, get_12, get_13, get_14, get_15, get_16, set_0, set_1, set_2, set_3, set_4, set_5, set_6, set_7, set_8, set_9, set_10, set_11, set_12, set_13, set_14, set_15, set_16, List.map_cons, List.map_nil, List.cons_append, List.nil_append, List.replicate_succ, List.replicate_zero, List.append_nil, List.length_cons, List.length_nil, if_true, if_false, Bool.not_true, Bool.not_false, Bool.false_eq_true, Nat.sub_self, Nat.reduceSub, Nat.reduceAdd, Nat.zero_add, Nat.reduceLeDiff, lim, and_true, true_and, decide_true, decide_false, PV.isRef, wipeE, isTy]
theorem sp_divisor_in {a b : Int} (hn : 1 ≤ n) (hW : 5000 ≤ W) (hb : 0 ≤ b) (hs : Sz 2000 b) : callN Tb W n i_divisor_in [.int a, .int b] st = .ok (.int (Int.gcd a b : Nat)) st := by
  obtain ⟨n, rfl⟩ : ∃ m, n = m + 1 := ⟨n - 1, by omega⟩
  refine call_eq T_divisor_in rfl ?_
  simp -dsimp only [d_divisor_in, b_divisor_in, S_done, S_asg, S_asgT, S_par, S_sub, S_expr, S_if, S_for, S_forB, S_ret, S_retN, E_var, E_cst, E_gl, E_yes, E_tup, E_lst, E_mkl, E_bin, E_mkb, E_neg, E_not, E_cmp, E_chain, E_isN, E_isB, E_and, E_or, E_ite, E_idx, E_rev, E_slc, P_non, P_cst, P_var, P_bin, P_neg, P_call, P_blt, E_call, E_blt, E_mkt, E_isi, E_app, Es_nil, Es_cons, E_T, E_alloc, E_lc, E_mkc, LC_nil, LC_cons, LC_B, lcQ, accO, bls, Option.map_some, List.all_cons, List.all_nil, id_eq, Bool.and_true, OkO_some, OkI_t, OkI_f, Ok_ok, OkS_next, OkS_ret, deref_int, deref_bl, deref_str, deref_non, deref_tup, deref_lst, deref_fn, deref_frz, deref_r0, deref_r1, deref_r2, T_bl, T_int, T_tup, T_lst, T_non, B_addI, B_addL, B_addT, B_subI, B_mulI, B_divI, B_modI, C_ltI, C_leI, C_gtI, C_geI, C_eqI, C_eqB, C_neB, C_neI, I_tup, I_lst, L_tup, L_lst, L_abs, L_max, L_min, L_int, L_tupL, L_tupT, L_listT, L_listL, L_listF, L_all, L_any, It_L, It_T, It_r1, It_r2, negO_int, intO_int, isNo, isBo, bindT, bindTs, setAll, atI_0, atI_1, atI_2, atI_3, get_0, get_1, get_2, get_3, get_4, get_5, get_6, get_7, get_8, get_9, get_10, get_11, get_12, get_13, get_14, get_15, get_16, set_0, set_1, set_2, set_3, set_4, set_5, set_6, set_7, set_8, set_9, set_10, set_11, set_12, set_13, set_14, set_15, set_16, List.map_cons, List.map_nil, List.cons_append, List.nil_append, List.replicate_succ, List.replicate_zero, List.append_nil, List.length_cons, List.length_nil, if_true, if_false, Bool.not_true, Bool.not_false, Bool.false_eq_true, Nat.sub_self, Nat.reduceSub, Nat.reduceAdd, Nat.zero_add, Nat.reduceLeDiff, lim, and_true, true_and, decide_true, decide_false, PV.isRef, wipeE, S_whil]
  obtain ⟨y, rfl⟩ := Int.eq_ofNat_of_zero_le hb
  have e : (if a < 0 then -a else a) = (a.natAbs : Int) := by omega
  rw [e, euclid (F := fun x y => [some (.int (x : Nat)), some (.int (y : Nat))]) 2000 ?_ ?_ 2000 (Nat.le_refl _) a.natAbs y W (by simpa [Sz] using hs) (by omega)]
  · simp -dsimp only [S_done, S_asg, S_asgT, S_par, S_sub, S_expr, S_if, S_for, S_forB, S_ret, S_retN, E_var, E_cst, E_gl, E_yes, E_tup, E_lst, E_mkl, E_bin, E_mkb, E_neg, E_not, E_cmp, E_chain, E_isN, E_isB, E_and, E_or, E_ite, E_idx, E_rev, E_slc, P_non, P_cst, P_var, P_bin, P_neg, P_call, P_blt, E_call, E_blt, E_mkt, E_isi, E_app, Es_nil, Es_cons, E_T, E_alloc, E_lc, E_mkc, LC_nil, LC_cons, LC_B, lcQ, accO, bls, Option.map_some, List.all_cons, List.all_nil, id_eq, Bool.and_true, OkO_some, OkI_t, OkI_f, Ok_ok, OkS_next, OkS_ret, deref_int, deref_bl, deref_str, deref_non, deref_tup, deref_lst, deref_fn, deref_frz, deref_r0, deref_r1, deref_r2, T_bl, T_int, T_tup, T_lst, T_non, B_addI, B_addL, B_addT, B_subI, B_mulI, B_divI, B_modI, C_ltI, C_leI, C_gtI, C_geI, C_eqI, C_eqB, C_neB, C_neI, I_tup, I_lst, L_tup, L_lst, L_abs, L_max, L_min, L_int, L_tupL, L_tupT, L_listT, L_listL, L_listF, L_all, L_any, It_L, It_T, It_r1, It_r2, negO_int, intO_int, isNo, isBo, bindT, bindTs, setAll, atI_0, atI_1, atI_2, atI_3, get_0, get_1, get_2, get_3, get_4, get_5, get_6, get_7, get_8, get_9, get_10, get_11, get_12, get_13, get_14, get_15, get_16, set_0, set_1, set_2, set_3, set_4, set_5, set_6, set_7, set_8, set_9, set_10, set_11, set_12, set_13, set_14, set_15, set_16, List.map_cons, List.map_nil, List.cons_append, List.nil_append, List.replicate_succ, List.replicate_zero, List.append_nil, List.length_cons, List.length_nil, if_true, if_false, Bool.not_true, Bool.not_false, Bool.false_eq_true, Nat.sub_self, Nat.reduceSub, Nat.reduceAdd, Nat.zero_add, Nat.reduceLeDiff, lim, and_true, true_and, decide_true, decide_false, PV.isRef, wipeE]
    simp [Int.gcd]
  · intro x y
    refine eq_of_ok ?_
    simp -dsimp only [S_done, S_asg, S_asgT, S_par, S_sub, S_expr, S_if, S_for, S_forB, S_ret, S_retN, E_var, E_cst, E_gl, E_yes, E_tup, E_lst, E_mkl, E_bin, E_mkb, E_neg, E_not, E_cmp, E_chain, E_isN, E_isB, E_and, E_or, E_ite, E_idx, E_rev, E_slc, P_non, P_cst, P_var, P_bin, P_neg, P_call, P_blt, E_call, E_blt, E_mkt, E_isi, E_app, Es_nil, Es_cons, E_T, E_alloc, E_lc, E_mkc, LC_nil, LC_cons, LC_B, lcQ, accO, bls, Option.map_some, List.all_cons, List.all_nil, id_eq, Bool.and_true, OkO_some, OkI_t, OkI_f, Ok_ok, OkS_next, OkS_ret, deref_int, deref_bl, deref_str, deref_non, deref_tup, deref_lst, deref_fn, deref_frz, deref_r0, deref_r1, deref_r2, T_bl, T_int, T_tup, T_lst, T_non, B_addI, B_addL, B_addT, B_subI, B_mulI, B_divI, B_modI, C_ltI, C_leI, C_gtI, C_geI, C_eqI, C_eqB, C_neB, C_neI, I_tup, I_lst, L_tup, L_lst, L_abs, L_max, L_min, L_int, L_tupL, L_tupT, L_listT, L_listL, L_listF, L_all, L_any, It_L, It_T, It_r1, It_r2, negO_int, intO_int, isNo, isBo, bindT, bindTs, setAll, atI_0, atI_1, atI_2, atI_3, get_0, get_1, get_2, get_3, get_4, get_5, get_6, get_7, get_8, get_9, get_10, get_11, get_12, get_13, get_14, get_15, get_16, set_0, set_1, set_2, set_3, set_4, set_5, set_6, set_7, set_8, set_9, set_10, set_11, set_12, set_13, set_14, set_15, set_16, List.map_cons, List.map_nil, List.cons_append, List.nil_append, List.replicate_succ, List.replicate_zero, List.append_nil, List.length_cons, List.length_nil, if_true, if_false, Bool.not_true, Bool.not_false, Bool.false_eq_true, Nat.sub_self, Nat.reduceSub, Nat.reduceAdd, Nat.zero_add, Nat.reduceLeDiff, lim, and_true, true_and, decide_true, decide_false, PV.isRef, wipeE]
    simp
  · intro x y h hM
    have hd : divOk (y : Int) = true := Sz.divOk (k := 2000) (by simpa [Sz] using hM) (by omega)
    have hp : (0 : Int) < (y : Int) := by omega
    refine eq_of_okS ?_
    simp -dsimp only [S_done, S_asg, S_asgT, S_par, S_sub, S_expr, S_if, S_for, S_forB, S_ret, S_retN, E_var, E_cst, E_gl, E_yes, E_tup, E_lst, E_mkl, E_bin, E_mkb, E_neg, E_not, E_cmp, E_chain, E_isN, E_isB, E_and, E_or, E_ite, E_idx, E_rev, E_slc, P_non, P_cst, P_var, P_bin, P_neg, P_call, P_blt, E_call, E_blt, E_mkt, E_isi, E_app, Es_nil, Es_cons, E_T, E_alloc, E_lc, E_mkc, LC_nil, LC_cons, LC_B, lcQ, accO, bls, Option.map_some, List.all_cons, List.all_nil, id_eq, Bool.and_true, OkO_some, OkI_t, OkI_f, Ok_ok, OkS_next, OkS_ret, deref_int, deref_bl, deref_str, deref_non, deref_tup, deref_lst, deref_fn, deref_frz, deref_r0, deref_r1, deref_r2, T_bl, T_int, T_tup, T_lst, T_non, B_addI, B_addL, B_addT, B_subI, B_mulI, B_divI, B_modI, C_ltI, C_leI, C_gtI, C_geI, C_eqI, C_eqB, C_neB, C_neI, I_tup, I_lst, L_tup, L_lst, L_abs, L_max, L_min, L_int, L_tupL, L_tupT, L_listT, L_listL, L_listF, L_all, L_any, It_L, It_T, It_r1, It_r2, negO_int, intO_int, isNo, isBo, bindT, bindTs, setAll, atI_0, atI_1, atI_2, atI_3, get_0, get_1, get_2, get_3, get_4, get_5, get_6, get_7, get_8, get_9, get_10, get_11, get_12, get_13, get_14, get_15, get_16, set_0, set_1, set_2, set_3, set_4, set_5, set_6, set_7, set_8, set_9, set_10, set_11, set_12, set_13, set_14, set_15, set_16, List.map_cons, List.map_nil, List.cons_append, List.nil_append, List.replicate_succ, List.replicate_zero, List.append_nil, List.length_cons, List.length_nil, if_true, if_false, Bool.not_true, Bool.not_false, Bool.false_eq_true, Nat.sub_self, Nat.reduceSub, Nat.reduceAdd, Nat.zero_add, Nat.reduceLeDiff, lim, and_true, true_and, decide_true, decide_false, PV.isRef, wipeE, hd, hp]
    rfl
theorem sp_lowered {a b : Int} (hn : 2 ≤ n) (hW : 5000 ≤ W) (hb : b ≠ 0) (hs : Sz 2000 b) : callN Tb W n i_lowered [.int a, .int b] st = .ok (shr (Rat.divInt a b)) st := by
  obtain ⟨n, rfl⟩ : ∃ m, n = m + 1 := ⟨n - 1, by omega⟩
  refine call_eq T_lowered rfl ?_
  have main : ∀ x y : Int, 0 < y → Sz 2000 y → OkS (evS (callN Tb W n) W (.asg 2 (.call i_divisor_in (.cons (.var 0) (.cons (.var 1) .nil))) (.ret (.tup (.cons (.bin .fdiv (.var 0) (.var 2)) (.cons (.bin .fdiv (.var 1) (.var 2)) .nil))))) [some (.int x), some (.int y), none] st) (fun _ st' => shr (Rat.divInt x y) = .non ∧ st' = st) (fun v' st' => v' = shr (Rat.divInt x y) ∧ st' = st) := by
    intro x y hy sy
    simp -dsimp only [S_done, S_asg, S_asgT, S_par, S_sub, S_expr, S_if, S_for, S_forB, S_ret, S_retN, E_var, E_cst, E_gl, E_yes, E_tup, E_lst, E_mkl, E_bin, E_mkb, E_neg, E_not, E_cmp, E_chain, E_isN, E_isB, E_and, E_or, E_ite, E_idx, E_rev, E_slc, P_non, P_cst, P_var, P_bin, P_neg, P_call, P_blt, E_call, E_blt, E_mkt, E_isi, E_app, Es_nil, Es_cons, E_T, E_alloc, E_lc, E_mkc, LC_nil, LC_cons, LC_B, lcQ, accO, bls, Option.map_some, List.all_cons, List.all_nil, id_eq, Bool.and_true, OkO_some, OkI_t, OkI_f, Ok_ok, OkS_next, OkS_ret, deref_int, deref_bl, deref_str, deref_non, deref_tup, deref_lst, deref_fn, deref_frz, deref_r0, deref_r1, deref_r2, T_bl, T_int, T_tup, T_lst, T_non, B_addI, B_addL, B_addT, B_subI, B_mulI, B_divI, B_modI, C_ltI, C_leI, C_gtI, C_geI, C_eqI, C_eqB, C_neB, C_neI, I_tup, I_lst, L_tup, L_lst, L_abs, L_max, L_min, L_int, L_tupL, L_tupT, L_listT, L_listL, L_listF, L_all, L_any, It_L, It_T, It_r1, It_r2, negO_int, intO_int, isNo, isBo, bindT, bindTs, setAll, atI_0, atI_1, atI_2, atI_3, get_0, get_1, get_2, get_3, get_4, get_5, get_6, get_7, get_8, get_9, get_10, get_11, get_12, get_13, get_14, get_15, get_16, set_0, set_1, set_2, set_3, set_4, set_5, set_6, set_7, set_8, set_9, set_10, set_11, set_12, set_13, set_14, set_15, set_16, List.map_cons, List.map_nil, List.cons_append, List.nil_append, List.replicate_succ, List.replicate_zero, List.append_nil, List.length_cons, List.length_nil, if_true, if_false, Bool.not_true, Bool.not_false, Bool.false_eq_true, Nat.sub_self, Nat.reduceSub, Nat.reduceAdd, Nat.zero_add, Nat.reduceLeDiff, lim, and_true, true_and, decide_true, decide_false, PV.isRef, wipeE]
    rw [sp_divisor_in (by omega) hW (by omega) sy]
    have hg : 0 < Int.gcd x y := Int.gcd_pos_of_ne_zero_right x (by omega)
    have hgs : Sz 2000 (Int.gcd x y : Nat) := by
      refine Nat.lt_of_le_of_lt ?_ sy
      exact Nat.le_of_dvd (by omega) (by simpa using Int.gcd_dvd_natAbs_right x y)
    have hd : divOk (Int.gcd x y : Nat) = true := Sz.divOk hgs (by omega)
    simp -dsimp only [S_done, S_asg, S_asgT, S_par, S_sub, S_expr, S_if, S_for, S_forB, S_ret, S_retN, E_var, E_cst, E_gl, E_yes, E_tup, E_lst, E_mkl, E_bin, E_mkb, E_neg, E_not, E_cmp, E_chain, E_isN, E_isB, E_and, E_or, E_ite, E_idx, E_rev, E_slc, P_non, P_cst, P_var, P_bin, P_neg, P_call, P_blt, E_call, E_blt, E_mkt, E_isi, E_app, Es_nil, Es_cons, E_T, E_alloc, E_lc, E_mkc, LC_nil, LC_cons, LC_B, lcQ, accO, bls, Option.map_some, List.all_cons, List.all_nil, id_eq, Bool.and_true, OkO_some, OkI_t, OkI_f, Ok_ok, OkS_next, OkS_ret, deref_int, deref_bl, deref_str, deref_non, deref_tup, deref_lst, deref_fn, deref_frz, deref_r0, deref_r1, deref_r2, T_bl, T_int, T_tup, T_lst, T_non, B_addI, B_addL, B_addT, B_subI, B_mulI, B_divI, B_modI, C_ltI, C_leI, C_gtI, C_geI, C_eqI, C_eqB, C_neB, C_neI, I_tup, I_lst, L_tup, L_lst, L_abs, L_max, L_min, L_int, L_tupL, L_tupT, L_listT, L_listL, L_listF, L_all, L_any, It_L, It_T, It_r1, It_r2, negO_int, intO_int, isNo, isBo, bindT, bindTs, setAll, atI_0, atI_1, atI_2, atI_3, get_0, get_1, get_2, get_3, get_4, get_5, get_6, get_7, get_8, get_9, get_10, get_11, get_12, get_13, get_14, get_15, get_16, set_0, set_1, set_2, set_3, set_4, set_5, set_6, set_7, set_8, set_9, set_10, set_11, set_12, set_13, set_14, set_15, set_16, List.map_cons, List.map_nil, List.cons_append, List.nil_append, List.replicate_succ, List.replicate_zero, List.append_nil, List.length_cons, List.length_nil, if_true, if_false, Bool.not_true, Bool.not_false, Bool.false_eq_true, Nat.sub_self, Nat.reduceSub, Nat.reduceAdd, Nat.zero_add, Nat.reduceLeDiff, lim, and_true, true_and, decide_true, decide_false, PV.isRef, wipeE, hd]
    obtain ⟨e1, e2⟩ := divInt_form (a := x) hy
    simp [shr, e1, e2]
  simp -dsimp only [d_lowered, b_lowered, S_done, S_asg, S_asgT, S_par, S_sub, S_expr, S_if, S_for, S_forB, S_ret, S_retN, E_var, E_cst, E_gl, E_yes, E_tup, E_lst, E_mkl, E_bin, E_mkb, E_neg, E_not, E_cmp, E_chain, E_isN, E_isB, E_and, E_or, E_ite, E_idx, E_rev, E_slc, P_non, P_cst, P_var, P_bin, P_neg, P_call, P_blt, E_call, E_blt, E_mkt, E_isi, E_app, Es_nil, Es_cons, E_T, E_alloc, E_lc, E_mkc, LC_nil, LC_cons, LC_B, lcQ, accO, bls, Option.map_some, List.all_cons, List.all_nil, id_eq, Bool.and_true, OkO_some, OkI_t, OkI_f, Ok_ok, OkS_next, OkS_ret, deref_int, deref_bl, deref_str, deref_non, deref_tup, deref_lst, deref_fn, deref_frz, deref_r0, deref_r1, deref_r2, T_bl, T_int, T_tup, T_lst, T_non, B_addI, B_addL, B_addT, B_subI, B_mulI, B_divI, B_modI, C_ltI, C_leI, C_gtI, C_geI, C_eqI, C_eqB, C_neB, C_neI, I_tup, I_lst, L_tup, L_lst, L_abs, L_max, L_min, L_int, L_tupL, L_tupT, L_listT, L_listL, L_listF, L_all, L_any, It_L, It_T, It_r1, It_r2, negO_int, intO_int, isNo, isBo, bindT, bindTs, setAll, atI_0, atI_1, atI_2, atI_3, get_0, get_1, get_2, get_3, get_4, get_5, get_6, get_7, get_8, get_9, get_10, get_11, get_12, get_13, get_14, get_15, get_16, set_0, set_1, set_2, set_3, set_4, set_5, set_6, set_7, set_8, set_9, set_10, set_11, set_12, set_13, set_14, set_15, set_16, List.map_cons, List.map_nil, List.cons_append, List.nil_append, List.replicate_succ, List.replicate_zero, List.append_nil, List.length_cons, List.length_nil, if_true, if_false, Bool.not_true, Bool.not_false, Bool.false_eq_true, Nat.sub_self, Nat.reduceSub, Nat.reduceAdd, Nat.zero_add, Nat.reduceLeDiff, lim, and_true, true_and, decide_true, decide_false, PV.isRef, wipeE]
  by_cases h : b < 0
  · simp -dsimp only [h, S_done, S_asg, S_asgT, S_par, S_sub, S_expr, S_if, S_for, S_forB, S_ret, S_retN, E_var, E_cst, E_gl, E_yes, E_tup, E_lst, E_mkl, E_bin, E_mkb, E_neg, E_not, E_cmp, E_chain, E_isN, E_isB, E_and, E_or, E_ite, E_idx, E_rev, E_slc, P_non, P_cst, P_var, P_bin, P_neg, P_call, P_blt, E_call, E_blt, E_mkt, E_isi, E_app, Es_nil, Es_cons, E_T, E_alloc, E_lc, E_mkc, LC_nil, LC_cons, LC_B, lcQ, accO, bls, Option.map_some, List.all_cons, List.all_nil, id_eq, Bool.and_true, OkO_some, OkI_t, OkI_f, Ok_ok, OkS_next, OkS_ret, deref_int, deref_bl, deref_str, deref_non, deref_tup, deref_lst, deref_fn, deref_frz, deref_r0, deref_r1, deref_r2, T_bl, T_int, T_tup, T_lst, T_non, B_addI, B_addL, B_addT, B_subI, B_mulI, B_divI, B_modI, C_ltI, C_leI, C_gtI, C_geI, C_eqI, C_eqB, C_neB, C_neI, I_tup, I_lst, L_tup, L_lst, L_abs, L_max, L_min, L_int, L_tupL, L_tupT, L_listT, L_listL, L_listF, L_all, L_any, It_L, It_T, It_r1, It_r2, negO_int, intO_int, isNo, isBo, bindT, bindTs, setAll, atI_0, atI_1, atI_2, atI_3, get_0, get_1, get_2, get_3, get_4, get_5, get_6, get_7, get_8, get_9, get_10, get_11, get_12, get_13, get_14, get_15, get_16, set_0, set_1, set_2, set_3, set_4, set_5, set_6, set_7, set_8, set_9, set_10, set_11, set_12, set_13, set_14, set_15, set_16, List.map_cons, List.map_nil, List.cons_append, List.nil_append, List.replicate_succ, List.replicate_zero, List.append_nil, List.length_cons, List.length_nil, if_true, if_false, Bool.not_true, Bool.not_false, Bool.false_eq_true, Nat.sub_self, Nat.reduceSub, Nat.reduceAdd, Nat.zero_add, Nat.reduceLeDiff, lim, and_true, true_and, decide_true, decide_false, PV.isRef, wipeE]
    have := main (-a) (-b) (by omega) hs.neg
    rw [Rat.neg_divInt_neg] at this
    simp -dsimp only [S_done, S_asg, S_asgT, S_par, S_sub, S_expr, S_if, S_for, S_forB, S_ret, S_retN, E_var, E_cst, E_gl, E_yes, E_tup, E_lst, E_mkl, E_bin, E_mkb, E_neg, E_not, E_cmp, E_chain, E_isN, E_isB, E_and, E_or, E_ite, E_idx, E_rev, E_slc, P_non, P_cst, P_var, P_bin, P_neg, P_call, P_blt, E_call, E_blt, E_mkt, E_isi, E_app, Es_nil, Es_cons, E_T, E_alloc, E_lc, E_mkc, LC_nil, LC_cons, LC_B, lcQ, accO, bls, Option.map_some, List.all_cons, List.all_nil, id_eq, Bool.and_true, OkO_some, OkI_t, OkI_f, Ok_ok, OkS_next, OkS_ret, deref_int, deref_bl, deref_str, deref_non, deref_tup, deref_lst, deref_fn, deref_frz, deref_r0, deref_r1, deref_r2, T_bl, T_int, T_tup, T_lst, T_non, B_addI, B_addL, B_addT, B_subI, B_mulI, B_divI, B_modI, C_ltI, C_leI, C_gtI, C_geI, C_eqI, C_eqB, C_neB, C_neI, I_tup, I_lst, L_tup, L_lst, L_abs, L_max, L_min, L_int, L_tupL, L_tupT, L_listT, L_listL, L_listF, L_all, L_any, It_L, It_T, It_r1, It_r2, negO_int, intO_int, isNo, isBo, bindT, bindTs, setAll, atI_0, atI_1, atI_2, atI_3, get_0, get_1, get_2, get_3, get_4, get_5, get_6, get_7, get_8, get_9, get_10, get_11, get_12, get_13, get_14, get_15, get_16, set_0, set_1, set_2, set_3, set_4, set_5, set_6, set_7, set_8, set_9, set_10, set_11, set_12, set_13, set_14, set_15, set_16, List.map_cons, List.map_nil, List.cons_append, List.nil_append, List.replicate_succ, List.replicate_zero, List.append_nil, List.length_cons, List.length_nil, if_true, if_false, Bool.not_true, Bool.not_false, Bool.false_eq_true, Nat.sub_self, Nat.reduceSub, Nat.reduceAdd, Nat.zero_add, Nat.reduceLeDiff, lim, and_true, true_and, decide_true, decide_false, PV.isRef, wipeE] at this
    exact this
  · simp -dsimp only [h, S_done, S_asg, S_asgT, S_par, S_sub, S_expr, S_if, S_for, S_forB, S_ret, S_retN, E_var, E_cst, E_gl, E_yes, E_tup, E_lst, E_mkl, E_bin, E_mkb, E_neg, E_not, E_cmp, E_chain, E_isN, E_isB, E_and, E_or, E_ite, E_idx, E_rev, E_slc, P_non, P_cst, P_var, P_bin, P_neg, P_call, P_blt, E_call, E_blt, E_mkt, E_isi, E_app, Es_nil, Es_cons, E_T, E_alloc, E_lc, E_mkc, LC_nil, LC_cons, LC_B, lcQ, accO, bls, Option.map_some, List.all_cons, List.all_nil, id_eq, Bool.and_true, OkO_some, OkI_t, OkI_f, Ok_ok, OkS_next, OkS_ret, deref_int, deref_bl, deref_str, deref_non, deref_tup, deref_lst, deref_fn, deref_frz, deref_r0, deref_r1, deref_r2, T_bl, T_int, T_tup, T_lst, T_non, B_addI, B_addL, B_addT, B_subI, B_mulI, B_divI, B_modI, C_ltI, C_leI, C_gtI, C_geI, C_eqI, C_eqB, C_neB, C_neI, I_tup, I_lst, L_tup, L_lst, L_abs, L_max, L_min, L_int, L_tupL, L_tupT, L_listT, L_listL, L_listF, L_all, L_any, It_L, It_T, It_r1, It_r2, negO_int, intO_int, isNo, isBo, bindT, bindTs, setAll, atI_0, atI_1, atI_2, atI_3, get_0, get_1, get_2, get_3, get_4, get_5, get_6, get_7, get_8, get_9, get_10, get_11, get_12, get_13, get_14, get_15, get_16, set_0, set_1, set_2, set_3, set_4, set_5, set_6, set_7, set_8, set_9, set_10, set_11, set_12, set_13, set_14, set_15, set_16, List.map_cons, List.map_nil, List.cons_append, List.nil_append, List.replicate_succ, List.replicate_zero, List.append_nil, List.length_cons, List.length_nil, if_true, if_false, Bool.not_true, Bool.not_false, Bool.false_eq_true, Nat.sub_self, Nat.reduceSub, Nat.reduceAdd, Nat.zero_add, Nat.reduceLeDiff, lim, and_true, true_and, decide_true, decide_false, PV.isRef, wipeE]
    have := main a b (by omega) hs
    simp -dsimp only [S_done, S_asg, S_asgT, S_par, S_sub, S_expr, S_if, S_for, S_forB, S_ret, S_retN, E_var, E_cst, E_gl, E_yes, E_tup, E_lst, E_mkl, E_bin, E_mkb, E_neg, E_not, E_cmp, E_chain, E_isN, E_isB, E_and, E_or, E_ite, E_idx, E_rev, E_slc, P_non, P_cst, P_var, P_bin, P_neg, P_call, P_blt, E_call, E_blt, E_mkt, E_isi, E_app, Es_nil, Es_cons, E_T, E_alloc, E_lc, E_mkc, LC_nil, LC_cons, LC_B, lcQ, accO, bls, Option.map_some, List.all_cons, List.all_nil, id_eq, Bool.and_true, OkO_some, OkI_t, OkI_f, Ok_ok, OkS_next, OkS_ret, deref_int, deref_bl, deref_str, deref_non, deref_tup, deref_lst, deref_fn, deref_frz, deref_r0, deref_r1, deref_r2, T_bl, T_int, T_tup, T_lst, T_non, B_addI, B_addL, B_addT, B_subI, B_mulI, B_divI, B_modI, C_ltI, C_leI, C_gtI, C_geI, C_eqI, C_eqB, C_neB, C_neI, I_tup, I_lst, L_tup, L_lst, L_abs, L_max, L_min, L_int, L_tupL, L_tupT, L_listT, L_listL, L_listF, L_all, L_any, It_L, It_T, It_r1, It_r2, negO_int, intO_int, isNo, isBo, bindT, bindTs, setAll, atI_0, atI_1, atI_2, atI_3, get_0, get_1, get_2, get_3, get_4, get_5, get_6, get_7, get_8, get_9, get_10, get_11, get_12, get_13, get_14, get_15, get_16, set_0, set_1, set_2, set_3, set_4, set_5, set_6, set_7, set_8, set_9, set_10, set_11, set_12, set_13, set_14, set_15, set_16, List.map_cons, List.map_nil, List.cons_append, List.nil_append, List.replicate_succ, List.replicate_zero, List.append_nil, List.length_cons, List.length_nil, if_true, if_false, Bool.not_true, Bool.not_false, Bool.false_eq_true, Nat.sub_self, Nat.reduceSub, Nat.reduceAdd, Nat.zero_add, Nat.reduceLeDiff, lim, and_true, true_and, decide_true, decide_false, PV.isRef, wipeE] at this
    exact this
/-- a share that the rows take -/
def fsh (r : Rat) : Prop := r.num.natAbs ≤ 1000000 ∧ r.den ≤ 1000
theorem fsh.B {r : Rat} (h : fsh r) : B 20 r := ⟨Sz.of h.1 (by decide), Sz.of (m := 1000) (by simpa using h.2) (by decide)⟩
/-- the answer at a pair -/
def fsB (a b : PV) : Bool := wB a (-1000000) 1000000 && wB b 1 1000 && (match a, b with
  | .int p, .int q => decide (Int.gcd p q = 1)
  | _, _ => false)
theorem mul_far (a b : Int) (h1 : a.natAbs ≤ 1000000 := by decide) (h2 : b.natAbs ≤ 1000000 := by decide) : mulOk a b = true := Sz.mulOk (j := 20) (k := 20) (Sz.of h1 (by decide)) (Sz.of h2 (by decide))
theorem gcd_rat (r : Rat) : Int.gcd r.num r.den = 1 := by
  have := r.reduced
  unfold Nat.Coprime at this
  unfold Int.gcd
  simpa using this
end

section
variable {W n : Nat} {st : Store}
/-- a scale -/
abbrev scv (a b : Int) : PV := .tup [.int a, .int b]
def ltB : PV → PV → Bool
  | .int i, .int j => decide (i < j)
  | _, _ => false
theorem sp_fits_scale2 {a b : PV} (hn : 3 ≤ n) (h1 : deref st a = a) (h2 : tyOk a = true) (h3 : deref st b = b) (h4 : tyOk b = true) : callN Tb W n i_fits_scale [.tup [a, b]] st = .ok (.bl (wB a (-1000) 1000 && wB b (-1000) 1000 && ltB a b)) st := by
  obtain ⟨n, rfl⟩ : ∃ m, n = m + 1 := ⟨n - 1, by omega⟩
  refine call_eq T_fits_scale rfl ?_
  simp -dsimp (disch := first | (refine OM.mk ?_; first | omega | assumption | rfl) | ((fail_if_success refine OM.mk ?_); first | assumption | omega | exact deref_int | exact ty_int | exact deref_tup | exact ty_tup | exact D_shr | exact ty_shr | exact deref_bl | exact ty_bl | exact deref_non | exact ty_non | exact deref_str | exact ty_str | exact deref_lst | exact ty_lst | (refine mulOk_sz ?_ ?_ <;> (repeat' (first | exact Sz.mono (by assumption) (by decide) | exact Sz.mono (B.n (by assumption)) (by decide) | exact Sz.mono (B.d (by assumption)) (by decide) | exact Sz.of (m := 1000000000000) (by omega) (by decide) | exact Sz.of (m := 1000000) (by omega) (by decide) | exact B.mono (by assumption) (by decide) | exact ⟨Sz.of (m := 1000000000000) (by omega) (by decide), Sz.of (m := 1000000000000) (by omega) (by decide)⟩ | apply Sz.mul2 | (refine Sz.add2 ?_ ?_ (by decide)) | (refine Sz.sub2 ?_ ?_ (by decide)) | apply Sz.neg | apply B.mul2 | (refine B.add2 ?_ ?_ (by decide)) | (refine B.sub2 ?_ ?_ (by decide)) | apply B.neg)); done) | (refine nice_ok ?_; (repeat' (first | exact nice_shr | exact nice_spt | exact nice_mpv | exact nice_int | exact nice_bl | exact nice_non | exact nicel_nil | refine nicel_cons ?_ ?_ | refine nice_tup (by simp) ?_ | refine nice_lst (by simp) ?_)); done) | ((repeat' (first | exact Sz.mono (by assumption) (by decide) | exact Sz.mono (B.n (by assumption)) (by decide) | exact Sz.mono (B.d (by assumption)) (by decide) | exact Sz.of (m := 1000000000000) (by omega) (by decide) | exact Sz.of (m := 1000000) (by omega) (by decide) | exact B.mono (by assumption) (by decide) | exact ⟨Sz.of (m := 1000000000000) (by omega) (by decide), Sz.of (m := 1000000000000) (by omega) (by decide)⟩ | apply Sz.mul2 | (refine Sz.add2 ?_ ?_ (by decide)) | (refine Sz.sub2 ?_ ?_ (by decide)) | apply Sz.neg | apply B.mul2 | (refine B.add2 ?_ ?_ (by decide)) | (refine B.sub2 ?_ ?_ (by decide)) | apply B.neg)); done) | (unfold tB; simp; done) | decide)) only [d_fits_scale, b_fits_scale, S_done, S_asg, S_asgT, S_par, S_sub, S_expr, S_if, S_for, S_forB, S_ret, S_retN, E_var, E_cst, E_gl, E_yes, E_tup, E_lst, E_mkl, E_bin, E_mkb, E_neg, E_not, E_cmp, E_chain, E_isN, E_isB, E_and, E_or, E_ite, E_idx, E_rev, E_slc, P_non, P_cst, P_var, P_bin, P_neg, P_call, P_blt, E_call, E_blt, E_mkt, E_isi, E_app, Es_nil, Es_cons, E_T, E_alloc, E_lc, E_mkc, LC_nil, LC_cons, LC_B, lcQ, accO, bls, Option.map_some, List.all_cons, List.all_nil, id_eq, Bool.and_true, OkO_some, OkI_t, OkI_f, Ok_ok, OkS_next, OkS_ret, deref_int, deref_bl, deref_str, deref_non, deref_tup, deref_lst, deref_fn, deref_frz, deref_r0, deref_r1, deref_r2, T_bl, T_int, T_tup, T_lst, T_non, B_addI, B_addL, B_addT, B_subI, C_ltI, C_leI, C_gtI, C_geI, C_eqI, C_eqB, C_neB, C_neI, I_tup, I_lst, L_tup, L_lst, L_abs, L_max, L_min, L_int, L_tupL, L_tupT, L_listT, L_listL, L_listF, L_all, L_any, It_L, It_T, It_r1, It_r2, negO_int, intO_int, isBo, setAll, atI_0, atI_1, atI_2, atI_3, get_0, get_1, get_2, get_3, get_4, get_5, get_6, get_7, get_8, get_9, get_10, get_11, get_12, get_13, get_14, get_15, get_16, set_0, set_1, set_2, set_3, set_4, set_5, set_6, set_7, set_8, set_9, set_10, set_11, set_12, set_13, set_14, set_15, set_16, List.map_cons, List.map_nil, List.cons_append, List.nil_append, List.replicate_succ, List.replicate_zero, List.append_nil, List.length_cons, List.length_nil, if_true, if_false, Bool.not_true, Bool.not_false, Bool.false_eq_true, Nat.sub_self, Nat.reduceSub, Nat.reduceAdd, Nat.zero_add, Nat.reduceLeDiff, lim, and_true, true_and, decide_true, decide_false, PV.isRef, wipeE, B_mulI', B_divI', B_modI', decT, decF, I_shr0, I_shr1, D_shr, OkS_for_nil, C_eqR, C_neR, C_eqNil, C_neNil, C_eqI1, C_eqI2, C_eqB1, Rv_tup, Rv_lst, List.reverse_cons, List.reverse_nil, isTy, isNo_shr, isNo_tup, isNo_non, isNo_int, isNo_bl, isNo_str, isNo_lst, isNo_ref, bne_self_eq_false, Bool.bne_true, Bool.bne_false, Bool.true_bne, Bool.false_bne, bindT_nm, bindT_tp, bindT_shr, bindTs_nil, bindTs_cons, Option.bind_some, Int.toNat_natCast, get_17, set_17, get_18, set_18, get_19, set_19, get_20, set_20, E_sst, E_lrg, Rg_l, Rg_t, L_sum, inl, get_21, set_21, get_22, set_22, get_23, set_23, get_24, set_24, get_25, set_25, get_26, set_26, get_27, set_27, get_28, set_28, get_29, set_29, get_30, set_30, E_ktp, E_cnt, sp_is_tuple_of, show tB (.tup [a, b]) 2 2 = true from rfl, sp_fits_whole, h1, h2, h3, h4]
  cases hw : wB a (-1000) 1000 with
  | false => simp -dsimp only [S_done, S_asg, S_asgT, S_par, S_sub, S_expr, S_if, S_for, S_forB, S_ret, S_retN, E_var, E_cst, E_gl, E_yes, E_tup, E_lst, E_mkl, E_bin, E_mkb, E_neg, E_not, E_cmp, E_chain, E_isN, E_isB, E_and, E_or, E_ite, E_idx, E_rev, E_slc, P_non, P_cst, P_var, P_bin, P_neg, P_call, P_blt, E_call, E_blt, E_mkt, E_isi, E_app, Es_nil, Es_cons, E_T, E_alloc, E_lc, E_mkc, LC_nil, LC_cons, LC_B, lcQ, accO, bls, Option.map_some, List.all_cons, List.all_nil, id_eq, Bool.and_true, OkO_some, OkI_t, OkI_f, Ok_ok, OkS_next, OkS_ret, deref_int, deref_bl, deref_str, deref_non, deref_tup, deref_lst, deref_fn, deref_frz, deref_r0, deref_r1, deref_r2, T_bl, T_int, T_tup, T_lst, T_non, B_addI, B_addL, B_addT, B_subI, B_mulI, B_divI, B_modI, C_ltI, C_leI, C_gtI, C_geI, C_eqI, C_eqB, C_neB, C_neI, I_tup, I_lst, L_tup, L_lst, L_abs, L_max, L_min, L_int, L_tupL, L_tupT, L_listT, L_listL, L_listF, L_all, L_any, It_L, It_T, It_r1, It_r2, negO_int, intO_int, isNo, isBo, bindT, bindTs, setAll, atI_0, atI_1, atI_2, atI_3, get_0, get_1, get_2, get_3, get_4, get_5, get_6, get_7, get_8, get_9, get_10, get_11, get_12, get_13, get_14, get_15, get_16, set_0, set_1, set_2, set_3, set_4, set_5, set_6, set_7, set_8, set_9, set_10, set_11, set_12, set_13, set_14, set_15, set_16, List.map_cons, List.map_nil, List.cons_append, List.nil_append, List.replicate_succ, List.replicate_zero, List.append_nil, List.length_cons, List.length_nil, if_true, if_false, Bool.not_true, Bool.not_false, Bool.false_eq_true, Nat.sub_self, Nat.reduceSub, Nat.reduceAdd, Nat.zero_add, Nat.reduceLeDiff, lim, and_true, true_and, decide_true, decide_false, PV.isRef, wipeE, Bool.false_and]
  | true =>
    cases hv : wB b (-1000) 1000 with
    | false => simp -dsimp only [S_done, S_asg, S_asgT, S_par, S_sub, S_expr, S_if, S_for, S_forB, S_ret, S_retN, E_var, E_cst, E_gl, E_yes, E_tup, E_lst, E_mkl, E_bin, E_mkb, E_neg, E_not, E_cmp, E_chain, E_isN, E_isB, E_and, E_or, E_ite, E_idx, E_rev, E_slc, P_non, P_cst, P_var, P_bin, P_neg, P_call, P_blt, E_call, E_blt, E_mkt, E_isi, E_app, Es_nil, Es_cons, E_T, E_alloc, E_lc, E_mkc, LC_nil, LC_cons, LC_B, lcQ, accO, bls, Option.map_some, List.all_cons, List.all_nil, id_eq, Bool.and_true, OkO_some, OkI_t, OkI_f, Ok_ok, OkS_next, OkS_ret, deref_int, deref_bl, deref_str, deref_non, deref_tup, deref_lst, deref_fn, deref_frz, deref_r0, deref_r1, deref_r2, T_bl, T_int, T_tup, T_lst, T_non, B_addI, B_addL, B_addT, B_subI, B_mulI, B_divI, B_modI, C_ltI, C_leI, C_gtI, C_geI, C_eqI, C_eqB, C_neB, C_neI, I_tup, I_lst, L_tup, L_lst, L_abs, L_max, L_min, L_int, L_tupL, L_tupT, L_listT, L_listL, L_listF, L_all, L_any, It_L, It_T, It_r1, It_r2, negO_int, intO_int, isNo, isBo, bindT, bindTs, setAll, atI_0, atI_1, atI_2, atI_3, get_0, get_1, get_2, get_3, get_4, get_5, get_6, get_7, get_8, get_9, get_10, get_11, get_12, get_13, get_14, get_15, get_16, set_0, set_1, set_2, set_3, set_4, set_5, set_6, set_7, set_8, set_9, set_10, set_11, set_12, set_13, set_14, set_15, set_16, List.map_cons, List.map_nil, List.cons_append, List.nil_append, List.replicate_succ, List.replicate_zero, List.append_nil, List.length_cons, List.length_nil, if_true, if_false, Bool.not_true, Bool.not_false, Bool.false_eq_true, Nat.sub_self, Nat.reduceSub, Nat.reduceAdd, Nat.zero_add, Nat.reduceLeDiff, lim, and_true, true_and, decide_true, decide_false, PV.isRef, wipeE, Bool.and_false, Bool.false_and]
    | true =>
      cases a <;> simp [wB] at hw
      cases b <;> simp [wB] at hv
      simp -dsimp only [S_done, S_asg, S_asgT, S_par, S_sub, S_expr, S_if, S_for, S_forB, S_ret, S_retN, E_var, E_cst, E_gl, E_yes, E_tup, E_lst, E_mkl, E_bin, E_mkb, E_neg, E_not, E_cmp, E_chain, E_isN, E_isB, E_and, E_or, E_ite, E_idx, E_rev, E_slc, P_non, P_cst, P_var, P_bin, P_neg, P_call, P_blt, E_call, E_blt, E_mkt, E_isi, E_app, Es_nil, Es_cons, E_T, E_alloc, E_lc, E_mkc, LC_nil, LC_cons, LC_B, lcQ, accO, bls, Option.map_some, List.all_cons, List.all_nil, id_eq, Bool.and_true, OkO_some, OkI_t, OkI_f, Ok_ok, OkS_next, OkS_ret, deref_int, deref_bl, deref_str, deref_non, deref_tup, deref_lst, deref_fn, deref_frz, deref_r0, deref_r1, deref_r2, T_bl, T_int, T_tup, T_lst, T_non, B_addI, B_addL, B_addT, B_subI, B_mulI, B_divI, B_modI, C_ltI, C_leI, C_gtI, C_geI, C_eqI, C_eqB, C_neB, C_neI, I_tup, I_lst, L_tup, L_lst, L_abs, L_max, L_min, L_int, L_tupL, L_tupT, L_listT, L_listL, L_listF, L_all, L_any, It_L, It_T, It_r1, It_r2, negO_int, intO_int, isNo, isBo, bindT, bindTs, setAll, atI_0, atI_1, atI_2, atI_3, get_0, get_1, get_2, get_3, get_4, get_5, get_6, get_7, get_8, get_9, get_10, get_11, get_12, get_13, get_14, get_15, get_16, set_0, set_1, set_2, set_3, set_4, set_5, set_6, set_7, set_8, set_9, set_10, set_11, set_12, set_13, set_14, set_15, set_16, List.map_cons, List.map_nil, List.cons_append, List.nil_append, List.replicate_succ, List.replicate_zero, List.append_nil, List.length_cons, List.length_nil, if_true, if_false, Bool.not_true, Bool.not_false, Bool.false_eq_true, Nat.sub_self, Nat.reduceSub, Nat.reduceAdd, Nat.zero_add, Nat.reduceLeDiff, lim, and_true, true_and, decide_true, decide_false, PV.isRef, wipeE, ltB, Bool.and_self, Bool.true_and]
theorem sp_fits_scale0 {v : PV} (hn : 3 ≤ n) (hd : deref st v = v) (ht : tyOk v = true) (h : tB v 2 2 = false) : callN Tb W n i_fits_scale [v] st = .ok (.bl false) st := by
  obtain ⟨n, rfl⟩ : ∃ m, n = m + 1 := ⟨n - 1, by omega⟩
  refine call_eq T_fits_scale rfl ?_
  simp -dsimp (disch := first | (refine OM.mk ?_; first | omega | assumption | rfl) | ((fail_if_success refine OM.mk ?_); first | assumption | omega | exact deref_int | exact ty_int | exact deref_tup | exact ty_tup | exact D_shr | exact ty_shr | exact deref_bl | exact ty_bl | exact deref_non | exact ty_non | exact deref_str | exact ty_str | exact deref_lst | exact ty_lst | (refine mulOk_sz ?_ ?_ <;> (repeat' (first | exact Sz.mono (by assumption) (by decide) | exact Sz.mono (B.n (by assumption)) (by decide) | exact Sz.mono (B.d (by assumption)) (by decide) | exact Sz.of (m := 1000000000000) (by omega) (by decide) | exact Sz.of (m := 1000000) (by omega) (by decide) | exact B.mono (by assumption) (by decide) | exact ⟨Sz.of (m := 1000000000000) (by omega) (by decide), Sz.of (m := 1000000000000) (by omega) (by decide)⟩ | apply Sz.mul2 | (refine Sz.add2 ?_ ?_ (by decide)) | (refine Sz.sub2 ?_ ?_ (by decide)) | apply Sz.neg | apply B.mul2 | (refine B.add2 ?_ ?_ (by decide)) | (refine B.sub2 ?_ ?_ (by decide)) | apply B.neg)); done) | (refine nice_ok ?_; (repeat' (first | exact nice_shr | exact nice_spt | exact nice_mpv | exact nice_int | exact nice_bl | exact nice_non | exact nicel_nil | refine nicel_cons ?_ ?_ | refine nice_tup (by simp) ?_ | refine nice_lst (by simp) ?_)); done) | ((repeat' (first | exact Sz.mono (by assumption) (by decide) | exact Sz.mono (B.n (by assumption)) (by decide) | exact Sz.mono (B.d (by assumption)) (by decide) | exact Sz.of (m := 1000000000000) (by omega) (by decide) | exact Sz.of (m := 1000000) (by omega) (by decide) | exact B.mono (by assumption) (by decide) | exact ⟨Sz.of (m := 1000000000000) (by omega) (by decide), Sz.of (m := 1000000000000) (by omega) (by decide)⟩ | apply Sz.mul2 | (refine Sz.add2 ?_ ?_ (by decide)) | (refine Sz.sub2 ?_ ?_ (by decide)) | apply Sz.neg | apply B.mul2 | (refine B.add2 ?_ ?_ (by decide)) | (refine B.sub2 ?_ ?_ (by decide)) | apply B.neg)); done) | (unfold tB; simp; done) | decide)) only [d_fits_scale, b_fits_scale, S_done, S_asg, S_asgT, S_par, S_sub, S_expr, S_if, S_for, S_forB, S_ret, S_retN, E_var, E_cst, E_gl, E_yes, E_tup, E_lst, E_mkl, E_bin, E_mkb, E_neg, E_not, E_cmp, E_chain, E_isN, E_isB, E_and, E_or, E_ite, E_idx, E_rev, E_slc, P_non, P_cst, P_var, P_bin, P_neg, P_call, P_blt, E_call, E_blt, E_mkt, E_isi, E_app, Es_nil, Es_cons, E_T, E_alloc, E_lc, E_mkc, LC_nil, LC_cons, LC_B, lcQ, accO, bls, Option.map_some, List.all_cons, List.all_nil, id_eq, Bool.and_true, OkO_some, OkI_t, OkI_f, Ok_ok, OkS_next, OkS_ret, deref_int, deref_bl, deref_str, deref_non, deref_tup, deref_lst, deref_fn, deref_frz, deref_r0, deref_r1, deref_r2, T_bl, T_int, T_tup, T_lst, T_non, B_addI, B_addL, B_addT, B_subI, C_ltI, C_leI, C_gtI, C_geI, C_eqI, C_eqB, C_neB, C_neI, I_tup, I_lst, L_tup, L_lst, L_abs, L_max, L_min, L_int, L_tupL, L_tupT, L_listT, L_listL, L_listF, L_all, L_any, It_L, It_T, It_r1, It_r2, negO_int, intO_int, isBo, setAll, atI_0, atI_1, atI_2, atI_3, get_0, get_1, get_2, get_3, get_4, get_5, get_6, get_7, get_8, get_9, get_10, get_11, get_12, get_13, get_14, get_15, get_16, set_0, set_1, set_2, set_3, set_4, set_5, set_6, set_7, set_8, set_9, set_10, set_11, set_12, set_13, set_14, set_15, set_16, List.map_cons, List.map_nil, List.cons_append, List.nil_append, List.replicate_succ, List.replicate_zero, List.append_nil, List.length_cons, List.length_nil, if_true, if_false, Bool.not_true, Bool.not_false, Bool.false_eq_true, Nat.sub_self, Nat.reduceSub, Nat.reduceAdd, Nat.zero_add, Nat.reduceLeDiff, lim, and_true, true_and, decide_true, decide_false, PV.isRef, wipeE, B_mulI', B_divI', B_modI', decT, decF, I_shr0, I_shr1, D_shr, OkS_for_nil, C_eqR, C_neR, C_eqNil, C_neNil, C_eqI1, C_eqI2, C_eqB1, Rv_tup, Rv_lst, List.reverse_cons, List.reverse_nil, isTy, isNo_shr, isNo_tup, isNo_non, isNo_int, isNo_bl, isNo_str, isNo_lst, isNo_ref, bne_self_eq_false, Bool.bne_true, Bool.bne_false, Bool.true_bne, Bool.false_bne, bindT_nm, bindT_tp, bindT_shr, bindTs_nil, bindTs_cons, Option.bind_some, Int.toNat_natCast, get_17, set_17, get_18, set_18, get_19, set_19, get_20, set_20, E_sst, E_lrg, Rg_l, Rg_t, L_sum, inl, get_21, set_21, get_22, set_22, get_23, set_23, get_24, set_24, get_25, set_25, get_26, set_26, get_27, set_27, get_28, set_28, get_29, set_29, get_30, set_30, E_ktp, E_cnt, sp_is_tuple_of, h]
structure fsc (a b : Int) : Prop where
  l : -1000 ≤ a
  m : a < b
  h : b ≤ 1000
theorem sp_need_scale {a b : Int} (hn : 4 ≤ n) (h : fsc a b) : callN Tb W n i_need_scale [scv a b] st = .ok .non st := by
  obtain ⟨n, rfl⟩ : ∃ m, n = m + 1 := ⟨n - 1, by omega⟩
  refine call_eq T_need_scale rfl ?_
  have := h.l; have := h.m; have := h.h
  simp -dsimp (disch := first | (refine OM.mk ?_; first | omega | assumption | rfl) | ((fail_if_success refine OM.mk ?_); first | assumption | omega | exact deref_int | exact ty_int | exact deref_tup | exact ty_tup | exact D_shr | exact ty_shr | exact deref_bl | exact ty_bl | exact deref_non | exact ty_non | exact deref_str | exact ty_str | exact deref_lst | exact ty_lst | (refine mulOk_sz ?_ ?_ <;> (repeat' (first | exact Sz.mono (by assumption) (by decide) | exact Sz.mono (B.n (by assumption)) (by decide) | exact Sz.mono (B.d (by assumption)) (by decide) | exact Sz.of (m := 1000000000000) (by omega) (by decide) | exact Sz.of (m := 1000000) (by omega) (by decide) | exact B.mono (by assumption) (by decide) | exact ⟨Sz.of (m := 1000000000000) (by omega) (by decide), Sz.of (m := 1000000000000) (by omega) (by decide)⟩ | apply Sz.mul2 | (refine Sz.add2 ?_ ?_ (by decide)) | (refine Sz.sub2 ?_ ?_ (by decide)) | apply Sz.neg | apply B.mul2 | (refine B.add2 ?_ ?_ (by decide)) | (refine B.sub2 ?_ ?_ (by decide)) | apply B.neg)); done) | (refine nice_ok ?_; (repeat' (first | exact nice_shr | exact nice_spt | exact nice_mpv | exact nice_int | exact nice_bl | exact nice_non | exact nicel_nil | refine nicel_cons ?_ ?_ | refine nice_tup (by simp) ?_ | refine nice_lst (by simp) ?_)); done) | ((repeat' (first | exact Sz.mono (by assumption) (by decide) | exact Sz.mono (B.n (by assumption)) (by decide) | exact Sz.mono (B.d (by assumption)) (by decide) | exact Sz.of (m := 1000000000000) (by omega) (by decide) | exact Sz.of (m := 1000000) (by omega) (by decide) | exact B.mono (by assumption) (by decide) | exact ⟨Sz.of (m := 1000000000000) (by omega) (by decide), Sz.of (m := 1000000000000) (by omega) (by decide)⟩ | apply Sz.mul2 | (refine Sz.add2 ?_ ?_ (by decide)) | (refine Sz.sub2 ?_ ?_ (by decide)) | apply Sz.neg | apply B.mul2 | (refine B.add2 ?_ ?_ (by decide)) | (refine B.sub2 ?_ ?_ (by decide)) | apply B.neg)); done) | (unfold tB; simp; done) | decide)) only [d_need_scale, b_need_scale, S_done, S_asg, S_asgT, S_par, S_sub, S_expr, S_if, S_for, S_forB, S_ret, S_retN, E_var, E_cst, E_gl, E_yes, E_tup, E_lst, E_mkl, E_bin, E_mkb, E_neg, E_not, E_cmp, E_chain, E_isN, E_isB, E_and, E_or, E_ite, E_idx, E_rev, E_slc, P_non, P_cst, P_var, P_bin, P_neg, P_call, P_blt, E_call, E_blt, E_mkt, E_isi, E_app, Es_nil, Es_cons, E_T, E_alloc, E_lc, E_mkc, LC_nil, LC_cons, LC_B, lcQ, accO, bls, Option.map_some, List.all_cons, List.all_nil, id_eq, Bool.and_true, OkO_some, OkI_t, OkI_f, Ok_ok, OkS_next, OkS_ret, deref_int, deref_bl, deref_str, deref_non, deref_tup, deref_lst, deref_fn, deref_frz, deref_r0, deref_r1, deref_r2, T_bl, T_int, T_tup, T_lst, T_non, B_addI, B_addL, B_addT, B_subI, C_ltI, C_leI, C_gtI, C_geI, C_eqI, C_eqB, C_neB, C_neI, I_tup, I_lst, L_tup, L_lst, L_abs, L_max, L_min, L_int, L_tupL, L_tupT, L_listT, L_listL, L_listF, L_all, L_any, It_L, It_T, It_r1, It_r2, negO_int, intO_int, isBo, setAll, atI_0, atI_1, atI_2, atI_3, get_0, get_1, get_2, get_3, get_4, get_5, get_6, get_7, get_8, get_9, get_10, get_11, get_12, get_13, get_14, get_15, get_16, set_0, set_1, set_2, set_3, set_4, set_5, set_6, set_7, set_8, set_9, set_10, set_11, set_12, set_13, set_14, set_15, set_16, List.map_cons, List.map_nil, List.cons_append, List.nil_append, List.replicate_succ, List.replicate_zero, List.append_nil, List.length_cons, List.length_nil, if_true, if_false, Bool.not_true, Bool.not_false, Bool.false_eq_true, Nat.sub_self, Nat.reduceSub, Nat.reduceAdd, Nat.zero_add, Nat.reduceLeDiff, lim, and_true, true_and, decide_true, decide_false, PV.isRef, wipeE, B_mulI', B_divI', B_modI', decT, decF, I_shr0, I_shr1, D_shr, OkS_for_nil, C_eqR, C_neR, C_eqNil, C_neNil, C_eqI1, C_eqI2, C_eqB1, Rv_tup, Rv_lst, List.reverse_cons, List.reverse_nil, isTy, isNo_shr, isNo_tup, isNo_non, isNo_int, isNo_bl, isNo_str, isNo_lst, isNo_ref, bne_self_eq_false, Bool.bne_true, Bool.bne_false, Bool.true_bne, Bool.false_bne, bindT_nm, bindT_tp, bindT_shr, bindTs_nil, bindTs_cons, Option.bind_some, Int.toNat_natCast, get_17, set_17, get_18, set_18, get_19, set_19, get_20, set_20, E_sst, E_lrg, Rg_l, Rg_t, L_sum, inl, get_21, set_21, get_22, set_22, get_23, set_23, get_24, set_24, get_25, set_25, get_26, set_26, get_27, set_27, get_28, set_28, get_29, set_29, get_30, set_30, E_ktp, E_cnt, scv, sp_fits_scale2, wB, ltB, Bool.and_self]
theorem sp_need_two {a b c d : Int} (hn : 5 ≤ n) (h : fsc a b) (g : fsc c d) : callN Tb W n i_need_two [scv a b, scv c d] st = .ok .non st := by
  obtain ⟨n, rfl⟩ : ∃ m, n = m + 1 := ⟨n - 1, by omega⟩
  refine call_eq T_need_two rfl ?_
  simp -dsimp (disch := first | (refine OM.mk ?_; first | omega | assumption | rfl) | ((fail_if_success refine OM.mk ?_); first | assumption | omega | exact deref_int | exact ty_int | exact deref_tup | exact ty_tup | exact D_shr | exact ty_shr | exact deref_bl | exact ty_bl | exact deref_non | exact ty_non | exact deref_str | exact ty_str | exact deref_lst | exact ty_lst | (refine mulOk_sz ?_ ?_ <;> (repeat' (first | exact Sz.mono (by assumption) (by decide) | exact Sz.mono (B.n (by assumption)) (by decide) | exact Sz.mono (B.d (by assumption)) (by decide) | exact Sz.of (m := 1000000000000) (by omega) (by decide) | exact Sz.of (m := 1000000) (by omega) (by decide) | exact B.mono (by assumption) (by decide) | exact ⟨Sz.of (m := 1000000000000) (by omega) (by decide), Sz.of (m := 1000000000000) (by omega) (by decide)⟩ | apply Sz.mul2 | (refine Sz.add2 ?_ ?_ (by decide)) | (refine Sz.sub2 ?_ ?_ (by decide)) | apply Sz.neg | apply B.mul2 | (refine B.add2 ?_ ?_ (by decide)) | (refine B.sub2 ?_ ?_ (by decide)) | apply B.neg)); done) | (refine nice_ok ?_; (repeat' (first | exact nice_shr | exact nice_spt | exact nice_mpv | exact nice_int | exact nice_bl | exact nice_non | exact nicel_nil | refine nicel_cons ?_ ?_ | refine nice_tup (by simp) ?_ | refine nice_lst (by simp) ?_)); done) | ((repeat' (first | exact Sz.mono (by assumption) (by decide) | exact Sz.mono (B.n (by assumption)) (by decide) | exact Sz.mono (B.d (by assumption)) (by decide) | exact Sz.of (m := 1000000000000) (by omega) (by decide) | exact Sz.of (m := 1000000) (by omega) (by decide) | exact B.mono (by assumption) (by decide) | exact ⟨Sz.of (m := 1000000000000) (by omega) (by decide), Sz.of (m := 1000000000000) (by omega) (by decide)⟩ | apply Sz.mul2 | (refine Sz.add2 ?_ ?_ (by decide)) | (refine Sz.sub2 ?_ ?_ (by decide)) | apply Sz.neg | apply B.mul2 | (refine B.add2 ?_ ?_ (by decide)) | (refine B.sub2 ?_ ?_ (by decide)) | apply B.neg)); done) | (unfold tB; simp; done) | decide)) only [d_need_two, b_need_two, S_done, S_asg, S_asgT, S_par, S_sub, S_expr, S_if, S_for, S_forB, S_ret, S_retN, E_var, E_cst, E_gl, E_yes, E_tup, E_lst, E_mkl, E_bin, E_mkb, E_neg, E_not, E_cmp, E_chain, E_isN, E_isB, E_and, E_or, E_ite, E_idx, E_rev, E_slc, P_non, P_cst, P_var, P_bin, P_neg, P_call, P_blt, E_call, E_blt, E_mkt, E_isi, E_app, Es_nil, Es_cons, E_T, E_alloc, E_lc, E_mkc, LC_nil, LC_cons, LC_B, lcQ, accO, bls, Option.map_some, List.all_cons, List.all_nil, id_eq, Bool.and_true, OkO_some, OkI_t, OkI_f, Ok_ok, OkS_next, OkS_ret, deref_int, deref_bl, deref_str, deref_non, deref_tup, deref_lst, deref_fn, deref_frz, deref_r0, deref_r1, deref_r2, T_bl, T_int, T_tup, T_lst, T_non, B_addI, B_addL, B_addT, B_subI, C_ltI, C_leI, C_gtI, C_geI, C_eqI, C_eqB, C_neB, C_neI, I_tup, I_lst, L_tup, L_lst, L_abs, L_max, L_min, L_int, L_tupL, L_tupT, L_listT, L_listL, L_listF, L_all, L_any, It_L, It_T, It_r1, It_r2, negO_int, intO_int, isBo, setAll, atI_0, atI_1, atI_2, atI_3, get_0, get_1, get_2, get_3, get_4, get_5, get_6, get_7, get_8, get_9, get_10, get_11, get_12, get_13, get_14, get_15, get_16, set_0, set_1, set_2, set_3, set_4, set_5, set_6, set_7, set_8, set_9, set_10, set_11, set_12, set_13, set_14, set_15, set_16, List.map_cons, List.map_nil, List.cons_append, List.nil_append, List.replicate_succ, List.replicate_zero, List.append_nil, List.length_cons, List.length_nil, if_true, if_false, Bool.not_true, Bool.not_false, Bool.false_eq_true, Nat.sub_self, Nat.reduceSub, Nat.reduceAdd, Nat.zero_add, Nat.reduceLeDiff, lim, and_true, true_and, decide_true, decide_false, PV.isRef, wipeE, B_mulI', B_divI', B_modI', decT, decF, I_shr0, I_shr1, D_shr, OkS_for_nil, C_eqR, C_neR, C_eqNil, C_neNil, C_eqI1, C_eqI2, C_eqB1, Rv_tup, Rv_lst, List.reverse_cons, List.reverse_nil, isTy, isNo_shr, isNo_tup, isNo_non, isNo_int, isNo_bl, isNo_str, isNo_lst, isNo_ref, bne_self_eq_false, Bool.bne_true, Bool.bne_false, Bool.true_bne, Bool.false_bne, bindT_nm, bindT_tp, bindT_shr, bindTs_nil, bindTs_cons, Option.bind_some, Int.toNat_natCast, get_17, set_17, get_18, set_18, get_19, set_19, get_20, set_20, E_sst, E_lrg, Rg_l, Rg_t, L_sum, inl, get_21, set_21, get_22, set_22, get_23, set_23, get_24, set_24, get_25, set_25, get_26, set_26, get_27, set_27, get_28, set_28, get_29, set_29, get_30, set_30, E_ktp, E_cnt, sp_need_scale]
def wayR (a b : Int) (r : Rat) : Rat := (r - a) / (b - a)
def atR (a b : Int) (w : Rat) : Rat := a + w * (b - a)
theorem way_eq {a b : Int} {r : Rat} (h : a < b) : Rat.divInt (r.num - a * r.den) (r.den * (b - a)) = wayR a b r := by
  obtain ⟨er, nr⟩ := rat_form r
  have hb : ((b - a : Int) : Rat) ≠ 0 := by
    intro e
    have : b - a = 0 := by exact_mod_cast e
    omega
  unfold wayR
  refine divInt_of (by simp only [Rat.intCast_mul]; grind) ?_
  simp only [Rat.intCast_mul, Rat.intCast_sub, er] at *
  grind
end

end Ev.K83
end
section
set_option Elab.async false
set_option linter.all false
set_option maxRecDepth 100000
set_option maxHeartbeats 4000000
set_option exponentiation.threshold 5000
namespace Ev.K83
open PySem L2
variable {Tb : List Fd} [IsTab Tb]
section
variable {W n : Nat} {st : Store}
theorem sub_ne {a b : Int} (h : a < b) : ((b : Rat) - (a : Rat)) ≠ 0 := by
  intro e
  have : ((b - a : Int) : Rat) = ((0 : Int) : Rat) := by rw [Rat.intCast_sub, e]; rfl
  have := Rat.intCast_inj.mp this
  omega
theorem at_eq {a b : Int} {w : Rat} : Rat.divInt (a * w.den + w.num * (b - a)) w.den = atR a b w := by
  obtain ⟨er, nr⟩ := rat_form w
  unfold atR
  refine divInt_of nr ?_
  simp only [Rat.intCast_mul, Rat.intCast_sub, Rat.intCast_add, er]
  grind
/-- small numbers -/
def sm (a b : Int) : Prop := Sz 20 a ∧ Sz 20 b
theorem sp_way_in {a b : Int} {r : Rat} (hn : 3 ≤ n) (hW : 5000 ≤ W) (h : a < b) (ha : Sz 20 a) (hb : Sz 20 b) (hr : B 300 r) : callN Tb W n i_way_in [scv a b, shr r] st = .ok (shr (wayR a b r)) st := by
  obtain ⟨n, rfl⟩ : ∃ m, n = m + 1 := ⟨n - 1, by omega⟩
  refine call_eq T_way_in rfl ?_
  have hp := den_pos' r
  have hz : (r.den : Int) * (b - a) ≠ 0 := Int.ne_of_gt (Int.mul_pos hp (by omega))
  simp -dsimp (disch := first | (refine OM.mk ?_; first | omega | assumption | rfl) | ((fail_if_success refine OM.mk ?_); first | assumption | omega | exact deref_int | exact ty_int | exact deref_tup | exact ty_tup | exact D_shr | exact ty_shr | exact deref_bl | exact ty_bl | exact deref_non | exact ty_non | exact deref_str | exact ty_str | exact deref_lst | exact ty_lst | (refine mulOk_sz ?_ ?_ <;> (repeat' (first | exact Sz.mono (by assumption) (by decide) | exact Sz.mono (B.n (by assumption)) (by decide) | exact Sz.mono (B.d (by assumption)) (by decide) | exact Sz.of (m := 1000000000000) (by omega) (by decide) | exact Sz.of (m := 1000000) (by omega) (by decide) | exact B.mono (by assumption) (by decide) | exact ⟨Sz.of (m := 1000000000000) (by omega) (by decide), Sz.of (m := 1000000000000) (by omega) (by decide)⟩ | apply Sz.mul2 | (refine Sz.add2 ?_ ?_ (by decide)) | (refine Sz.sub2 ?_ ?_ (by decide)) | apply Sz.neg | apply B.mul2 | (refine B.add2 ?_ ?_ (by decide)) | (refine B.sub2 ?_ ?_ (by decide)) | apply B.neg)); done) | (refine nice_ok ?_; (repeat' (first | exact nice_shr | exact nice_spt | exact nice_mpv | exact nice_int | exact nice_bl | exact nice_non | exact nicel_nil | refine nicel_cons ?_ ?_ | refine nice_tup (by simp) ?_ | refine nice_lst (by simp) ?_)); done) | ((repeat' (first | exact Sz.mono (by assumption) (by decide) | exact Sz.mono (B.n (by assumption)) (by decide) | exact Sz.mono (B.d (by assumption)) (by decide) | exact Sz.of (m := 1000000000000) (by omega) (by decide) | exact Sz.of (m := 1000000) (by omega) (by decide) | exact B.mono (by assumption) (by decide) | exact ⟨Sz.of (m := 1000000000000) (by omega) (by decide), Sz.of (m := 1000000000000) (by omega) (by decide)⟩ | apply Sz.mul2 | (refine Sz.add2 ?_ ?_ (by decide)) | (refine Sz.sub2 ?_ ?_ (by decide)) | apply Sz.neg | apply B.mul2 | (refine B.add2 ?_ ?_ (by decide)) | (refine B.sub2 ?_ ?_ (by decide)) | apply B.neg)); done) | (unfold tB; simp; done) | decide)) only [d_way_in, b_way_in, S_done, S_asg, S_asgT, S_par, S_sub, S_expr, S_if, S_for, S_forB, S_ret, S_retN, E_var, E_cst, E_gl, E_yes, E_tup, E_lst, E_mkl, E_bin, E_mkb, E_neg, E_not, E_cmp, E_chain, E_isN, E_isB, E_and, E_or, E_ite, E_idx, E_rev, E_slc, P_non, P_cst, P_var, P_bin, P_neg, P_call, P_blt, E_call, E_blt, E_mkt, E_isi, E_app, Es_nil, Es_cons, E_T, E_alloc, E_lc, E_mkc, LC_nil, LC_cons, LC_B, lcQ, accO, bls, Option.map_some, List.all_cons, List.all_nil, id_eq, Bool.and_true, OkO_some, OkI_t, OkI_f, Ok_ok, OkS_next, OkS_ret, deref_int, deref_bl, deref_str, deref_non, deref_tup, deref_lst, deref_fn, deref_frz, deref_r0, deref_r1, deref_r2, T_bl, T_int, T_tup, T_lst, T_non, B_addI, B_addL, B_addT, B_subI, C_ltI, C_leI, C_gtI, C_geI, C_eqI, C_eqB, C_neB, C_neI, I_tup, I_lst, L_tup, L_lst, L_abs, L_max, L_min, L_int, L_tupL, L_tupT, L_listT, L_listL, L_listF, L_all, L_any, It_L, It_T, It_r1, It_r2, negO_int, intO_int, isBo, setAll, atI_0, atI_1, atI_2, atI_3, get_0, get_1, get_2, get_3, get_4, get_5, get_6, get_7, get_8, get_9, get_10, get_11, get_12, get_13, get_14, get_15, get_16, set_0, set_1, set_2, set_3, set_4, set_5, set_6, set_7, set_8, set_9, set_10, set_11, set_12, set_13, set_14, set_15, set_16, List.map_cons, List.map_nil, List.cons_append, List.nil_append, List.replicate_succ, List.replicate_zero, List.append_nil, List.length_cons, List.length_nil, if_true, if_false, Bool.not_true, Bool.not_false, Bool.false_eq_true, Nat.sub_self, Nat.reduceSub, Nat.reduceAdd, Nat.zero_add, Nat.reduceLeDiff, lim, and_true, true_and, decide_true, decide_false, PV.isRef, wipeE, B_mulI', B_divI', B_modI', decT, decF, I_shr0, I_shr1, D_shr, OkS_for_nil, C_eqR, C_neR, C_eqNil, C_neNil, C_eqI1, C_eqI2, C_eqB1, Rv_tup, Rv_lst, List.reverse_cons, List.reverse_nil, isTy, isNo_shr, isNo_tup, isNo_non, isNo_int, isNo_bl, isNo_str, isNo_lst, isNo_ref, bne_self_eq_false, Bool.bne_true, Bool.bne_false, Bool.true_bne, Bool.false_bne, bindT_nm, bindT_tp, bindT_shr, bindTs_nil, bindTs_cons, Option.bind_some, Int.toNat_natCast, get_17, set_17, get_18, set_18, get_19, set_19, get_20, set_20, E_sst, E_lrg, Rg_l, Rg_t, L_sum, inl, get_21, set_21, get_22, set_22, get_23, set_23, get_24, set_24, get_25, set_25, get_26, set_26, get_27, set_27, get_28, set_28, get_29, set_29, get_30, set_30, E_ktp, E_cnt, scv, sp_lowered, way_eq]
theorem sp_reading_in {a b : Int} {r : Rat} (hn : 3 ≤ n) (hW : 5000 ≤ W) (ha : Sz 20 a) (hb : Sz 20 b) (hr : B 400 r) : callN Tb W n i_reading_in [scv a b, shr r] st = .ok (shr (atR a b r)) st := by
  obtain ⟨n, rfl⟩ : ∃ m, n = m + 1 := ⟨n - 1, by omega⟩
  refine call_eq T_reading_in rfl ?_
  have hp := den_pos' r
  simp -dsimp (disch := first | (refine OM.mk ?_; first | omega | assumption | rfl) | ((fail_if_success refine OM.mk ?_); first | assumption | omega | exact deref_int | exact ty_int | exact deref_tup | exact ty_tup | exact D_shr | exact ty_shr | exact deref_bl | exact ty_bl | exact deref_non | exact ty_non | exact deref_str | exact ty_str | exact deref_lst | exact ty_lst | (refine mulOk_sz ?_ ?_ <;> (repeat' (first | exact Sz.mono (by assumption) (by decide) | exact Sz.mono (B.n (by assumption)) (by decide) | exact Sz.mono (B.d (by assumption)) (by decide) | exact Sz.of (m := 1000000000000) (by omega) (by decide) | exact Sz.of (m := 1000000) (by omega) (by decide) | exact B.mono (by assumption) (by decide) | exact ⟨Sz.of (m := 1000000000000) (by omega) (by decide), Sz.of (m := 1000000000000) (by omega) (by decide)⟩ | apply Sz.mul2 | (refine Sz.add2 ?_ ?_ (by decide)) | (refine Sz.sub2 ?_ ?_ (by decide)) | apply Sz.neg | apply B.mul2 | (refine B.add2 ?_ ?_ (by decide)) | (refine B.sub2 ?_ ?_ (by decide)) | apply B.neg)); done) | (refine nice_ok ?_; (repeat' (first | exact nice_shr | exact nice_spt | exact nice_mpv | exact nice_int | exact nice_bl | exact nice_non | exact nicel_nil | refine nicel_cons ?_ ?_ | refine nice_tup (by simp) ?_ | refine nice_lst (by simp) ?_)); done) | ((repeat' (first | exact Sz.mono (by assumption) (by decide) | exact Sz.mono (B.n (by assumption)) (by decide) | exact Sz.mono (B.d (by assumption)) (by decide) | exact Sz.of (m := 1000000000000) (by omega) (by decide) | exact Sz.of (m := 1000000) (by omega) (by decide) | exact B.mono (by assumption) (by decide) | exact ⟨Sz.of (m := 1000000000000) (by omega) (by decide), Sz.of (m := 1000000000000) (by omega) (by decide)⟩ | apply Sz.mul2 | (refine Sz.add2 ?_ ?_ (by decide)) | (refine Sz.sub2 ?_ ?_ (by decide)) | apply Sz.neg | apply B.mul2 | (refine B.add2 ?_ ?_ (by decide)) | (refine B.sub2 ?_ ?_ (by decide)) | apply B.neg)); done) | (unfold tB; simp; done) | decide)) only [d_reading_in, b_reading_in, S_done, S_asg, S_asgT, S_par, S_sub, S_expr, S_if, S_for, S_forB, S_ret, S_retN, E_var, E_cst, E_gl, E_yes, E_tup, E_lst, E_mkl, E_bin, E_mkb, E_neg, E_not, E_cmp, E_chain, E_isN, E_isB, E_and, E_or, E_ite, E_idx, E_rev, E_slc, P_non, P_cst, P_var, P_bin, P_neg, P_call, P_blt, E_call, E_blt, E_mkt, E_isi, E_app, Es_nil, Es_cons, E_T, E_alloc, E_lc, E_mkc, LC_nil, LC_cons, LC_B, lcQ, accO, bls, Option.map_some, List.all_cons, List.all_nil, id_eq, Bool.and_true, OkO_some, OkI_t, OkI_f, Ok_ok, OkS_next, OkS_ret, deref_int, deref_bl, deref_str, deref_non, deref_tup, deref_lst, deref_fn, deref_frz, deref_r0, deref_r1, deref_r2, T_bl, T_int, T_tup, T_lst, T_non, B_addI, B_addL, B_addT, B_subI, C_ltI, C_leI, C_gtI, C_geI, C_eqI, C_eqB, C_neB, C_neI, I_tup, I_lst, L_tup, L_lst, L_abs, L_max, L_min, L_int, L_tupL, L_tupT, L_listT, L_listL, L_listF, L_all, L_any, It_L, It_T, It_r1, It_r2, negO_int, intO_int, isBo, setAll, atI_0, atI_1, atI_2, atI_3, get_0, get_1, get_2, get_3, get_4, get_5, get_6, get_7, get_8, get_9, get_10, get_11, get_12, get_13, get_14, get_15, get_16, set_0, set_1, set_2, set_3, set_4, set_5, set_6, set_7, set_8, set_9, set_10, set_11, set_12, set_13, set_14, set_15, set_16, List.map_cons, List.map_nil, List.cons_append, List.nil_append, List.replicate_succ, List.replicate_zero, List.append_nil, List.length_cons, List.length_nil, if_true, if_false, Bool.not_true, Bool.not_false, Bool.false_eq_true, Nat.sub_self, Nat.reduceSub, Nat.reduceAdd, Nat.zero_add, Nat.reduceLeDiff, lim, and_true, true_and, decide_true, decide_false, PV.isRef, wipeE, B_mulI', B_divI', B_modI', decT, decF, I_shr0, I_shr1, D_shr, OkS_for_nil, C_eqR, C_neR, C_eqNil, C_neNil, C_eqI1, C_eqI2, C_eqB1, Rv_tup, Rv_lst, List.reverse_cons, List.reverse_nil, isTy, isNo_shr, isNo_tup, isNo_non, isNo_int, isNo_bl, isNo_str, isNo_lst, isNo_ref, bne_self_eq_false, Bool.bne_true, Bool.bne_false, Bool.true_bne, Bool.false_bne, bindT_nm, bindT_tp, bindT_shr, bindTs_nil, bindTs_cons, Option.bind_some, Int.toNat_natCast, get_17, set_17, get_18, set_18, get_19, set_19, get_20, set_20, E_sst, E_lrg, Rg_l, Rg_t, L_sum, inl, get_21, set_21, get_22, set_22, get_23, set_23, get_24, set_24, get_25, set_25, get_26, set_26, get_27, set_27, get_28, set_28, get_29, set_29, get_30, set_30, E_ktp, E_cnt, scv, sp_lowered, at_eq]
theorem fsc.a {a b : Int} (h : fsc a b) : Sz 20 a := Sz.of (m := 1000) (by have := h.l; have := h.m; have := h.h; omega) (by decide)
theorem fsc.b {a b : Int} (h : fsc a b) : Sz 20 b := Sz.of (m := 1000) (by have := h.l; have := h.m; have := h.h; omega) (by decide)
theorem wayR_B {a b : Int} {r : Rat} (h : fsc a b) (hr : B 20 r) : B 100 (wayR a b r) := by
  rw [← way_eq h.m]
  have ha := h.a; have hb := h.b
  refine (B.divInt (k := 90) ?_ ?_ (Int.mul_pos (den_pos' r) (by have := h.m; omega))).mono
  · (repeat' (first | exact Sz.mono (by assumption) (by decide) | exact Sz.mono (B.n (by assumption)) (by decide) | exact Sz.mono (B.d (by assumption)) (by decide) | exact Sz.of (m := 1000000000000) (by omega) (by decide) | exact Sz.of (m := 1000000) (by omega) (by decide) | exact B.mono (by assumption) (by decide) | exact ⟨Sz.of (m := 1000000000000) (by omega) (by decide), Sz.of (m := 1000000000000) (by omega) (by decide)⟩ | apply Sz.mul2 | (refine Sz.add2 ?_ ?_ (by decide)) | (refine Sz.sub2 ?_ ?_ (by decide)) | apply Sz.neg | apply B.mul2 | (refine B.add2 ?_ ?_ (by decide)) | (refine B.sub2 ?_ ?_ (by decide)) | apply B.neg))
  · (repeat' (first | exact Sz.mono (by assumption) (by decide) | exact Sz.mono (B.n (by assumption)) (by decide) | exact Sz.mono (B.d (by assumption)) (by decide) | exact Sz.of (m := 1000000000000) (by omega) (by decide) | exact Sz.of (m := 1000000) (by omega) (by decide) | exact B.mono (by assumption) (by decide) | exact ⟨Sz.of (m := 1000000000000) (by omega) (by decide), Sz.of (m := 1000000000000) (by omega) (by decide)⟩ | apply Sz.mul2 | (refine Sz.add2 ?_ ?_ (by decide)) | (refine Sz.sub2 ?_ ?_ (by decide)) | apply Sz.neg | apply B.mul2 | (refine B.add2 ?_ ?_ (by decide)) | (refine B.sub2 ?_ ?_ (by decide)) | apply B.neg))
def turnR (a b c d : Int) (r : Rat) : Rat := atR c d (wayR a b r)
def riseR (a b c d : Int) (r : Rat) : Rat := r * (d - c) / (b - a)
theorem rise_eq {a b c d : Int} {r : Rat} (h : a < b) : Rat.divInt (r.num * (d - c)) (r.den * (b - a)) = riseR a b c d r := by
  obtain ⟨er, nr⟩ := rat_form r
  have := sub_ne h
  unfold riseR
  refine divInt_of (by simp only [Rat.intCast_mul, Rat.intCast_sub]; grind) ?_
  simp only [Rat.intCast_mul, Rat.intCast_sub, er]
  grind
end

end Ev.K83
end
section
set_option Elab.async false
set_option linter.all false
set_option maxRecDepth 100000
set_option maxHeartbeats 4000000
set_option exponentiation.threshold 5000
namespace Ev.K83
open PySem L2
variable {Tb : List Fd} [IsTab Tb]
section
variable {W n : Nat} {st : Store}
theorem lw_cup {v : PV} {ns : List Int} (hn : 1 ≤ n) (hb : ∀ z ∈ ns, PySem.Builtin.Int.intBits z ≤ 1048576) (hl : ns.length ≤ 63) (h3 : v = .frz (ns.map .int) ∨ v = .lst (ns.map .int)) : Okp (callN Tb W n i__law_cup [v] []) fun r st' => r = .ref 0 ∧ CupI st' := by
  obtain ⟨n, rfl⟩ : ∃ m, n = m + 1 := ⟨n - 1, by omega⟩
  refine call_ok T__law_cup rfl ?_
  have hd : ∀ st, deref st v = v := fun st => by rcases h3 with rfl | rfl <;> rfl
  have hL : pyBlt .list [v] = some (.lst (ns.map .int)) := by rcases h3 with rfl | rfl <;> rfl
  have main : ∀ c : Int, 0 ≤ c → Sz 1048576 c → OkS (evS (callN Tb W n) W (.ret (.mkl (.cons (.ite (.cmp .ge (.var 1) (.bin .pow (.cst (.int 10)) (.cst (.int 18)))) (.bin .fdiv (.var 1) (.cst (.int 181))) (.cst (.int 0))) (.cons (.bin .add (.bin .mod (.blt .int (.cons (.bin .add (.bin .mul (.var 1) (.cst (.int 5413))) (.cst (.int 7457))) .nil)) (.cst (.int 2041236707))) (.cst (.int 3967))) .nil)))) [some v, some (.int c)] []) (fun _ st' => PV.non = .ref 0 ∧ CupI (trunc [] .non st')) (fun r st' => r = .ref 0 ∧ CupI (trunc [] r st')) := by
    intro c h0 hc
    have m1 : mulOk c 5413 = true := hc.mulOk (k := 20) (Sz.of (m := 5413) (by decide) (by decide))
    have d1 : divOk 181 = true := by decide
    have p1 : powOk 10 18 = true := by decide
    have q1 : (0 : Int) < 2041236707 := by decide
    simp -dsimp only [S_done, S_asg, S_asgT, S_par, S_sub, S_expr, S_if, S_for, S_forB, S_ret, S_retN, E_var, E_cst, E_gl, E_yes, E_tup, E_lst, E_mkl, E_bin, E_mkb, E_neg, E_not, E_cmp, E_chain, E_isN, E_isB, E_and, E_or, E_ite, E_idx, E_rev, E_slc, P_non, P_cst, P_var, P_bin, P_neg, P_call, P_blt, E_call, E_blt, E_mkt, E_isi, E_app, Es_nil, Es_cons, E_T, E_alloc, E_lc, E_mkc, LC_nil, LC_cons, LC_B, lcQ, accO, bls, Option.map_some, List.all_cons, List.all_nil, id_eq, Bool.and_true, OkO_some, OkI_t, OkI_f, Ok_ok, OkS_next, OkS_ret, deref_int, deref_bl, deref_str, deref_non, deref_tup, deref_lst, deref_fn, deref_frz, deref_r0, deref_r1, deref_r2, T_bl, T_int, T_tup, T_lst, T_non, B_addI, B_addL, B_addT, B_subI, B_mulI, B_divI, B_modI, C_ltI, C_leI, C_gtI, C_geI, C_eqI, C_eqB, C_neB, C_neI, I_tup, I_lst, L_tup, L_lst, L_abs, L_max, L_min, L_int, L_tupL, L_tupT, L_listT, L_listL, L_listF, L_all, L_any, It_L, It_T, It_r1, It_r2, negO_int, intO_int, isNo, isBo, bindT, bindTs, setAll, atI_0, atI_1, atI_2, atI_3, get_0, get_1, get_2, get_3, get_4, get_5, get_6, get_7, get_8, get_9, get_10, get_11, get_12, get_13, get_14, get_15, get_16, set_0, set_1, set_2, set_3, set_4, set_5, set_6, set_7, set_8, set_9, set_10, set_11, set_12, set_13, set_14, set_15, set_16, List.map_cons, List.map_nil, List.cons_append, List.nil_append, List.replicate_succ, List.replicate_zero, List.append_nil, List.length_cons, List.length_nil, if_true, if_false, Bool.not_true, Bool.not_false, Bool.false_eq_true, Nat.sub_self, Nat.reduceSub, Nat.reduceAdd, Nat.zero_add, Nat.reduceLeDiff, lim, and_true, true_and, decide_true, decide_false, PV.isRef, wipeE, m1, d1, p1, q1, B_powI]
    have b1 := Int.emod_nonneg (c * 5413 + 7457) (b := 2041236707) (by decide)
    have b2 := Int.emod_lt_of_pos (c * 5413 + 7457) (b := 2041236707) (by decide)
    by_cases h : (10 : Int) ^ (18 : Int).toNat ≤ c
    · simp -dsimp only [h, S_done, S_asg, S_asgT, S_par, S_sub, S_expr, S_if, S_for, S_forB, S_ret, S_retN, E_var, E_cst, E_gl, E_yes, E_tup, E_lst, E_mkl, E_bin, E_mkb, E_neg, E_not, E_cmp, E_chain, E_isN, E_isB, E_and, E_or, E_ite, E_idx, E_rev, E_slc, P_non, P_cst, P_var, P_bin, P_neg, P_call, P_blt, E_call, E_blt, E_mkt, E_isi, E_app, Es_nil, Es_cons, E_T, E_alloc, E_lc, E_mkc, LC_nil, LC_cons, LC_B, lcQ, accO, bls, Option.map_some, List.all_cons, List.all_nil, id_eq, Bool.and_true, OkO_some, OkI_t, OkI_f, Ok_ok, OkS_next, OkS_ret, deref_int, deref_bl, deref_str, deref_non, deref_tup, deref_lst, deref_fn, deref_frz, deref_r0, deref_r1, deref_r2, T_bl, T_int, T_tup, T_lst, T_non, B_addI, B_addL, B_addT, B_subI, B_mulI, B_divI, B_modI, C_ltI, C_leI, C_gtI, C_geI, C_eqI, C_eqB, C_neB, C_neI, I_tup, I_lst, L_tup, L_lst, L_abs, L_max, L_min, L_int, L_tupL, L_tupT, L_listT, L_listL, L_listF, L_all, L_any, It_L, It_T, It_r1, It_r2, negO_int, intO_int, isNo, isBo, bindT, bindTs, setAll, atI_0, atI_1, atI_2, atI_3, get_0, get_1, get_2, get_3, get_4, get_5, get_6, get_7, get_8, get_9, get_10, get_11, get_12, get_13, get_14, get_15, get_16, set_0, set_1, set_2, set_3, set_4, set_5, set_6, set_7, set_8, set_9, set_10, set_11, set_12, set_13, set_14, set_15, set_16, List.map_cons, List.map_nil, List.cons_append, List.nil_append, List.replicate_succ, List.replicate_zero, List.append_nil, List.length_cons, List.length_nil, if_true, if_false, Bool.not_true, Bool.not_false, Bool.false_eq_true, Nat.sub_self, Nat.reduceSub, Nat.reduceAdd, Nat.zero_add, Nat.reduceLeDiff, lim, and_true, true_and, decide_true, decide_false, PV.isRef, wipeE, d1, m1, q1]
      exact ⟨_, _, rfl, Int.ediv_nonneg h0 (by decide), (hc.div _).mono, by omega, by omega⟩
    · simp -dsimp only [h, S_done, S_asg, S_asgT, S_par, S_sub, S_expr, S_if, S_for, S_forB, S_ret, S_retN, E_var, E_cst, E_gl, E_yes, E_tup, E_lst, E_mkl, E_bin, E_mkb, E_neg, E_not, E_cmp, E_chain, E_isN, E_isB, E_and, E_or, E_ite, E_idx, E_rev, E_slc, P_non, P_cst, P_var, P_bin, P_neg, P_call, P_blt, E_call, E_blt, E_mkt, E_isi, E_app, Es_nil, Es_cons, E_T, E_alloc, E_lc, E_mkc, LC_nil, LC_cons, LC_B, lcQ, accO, bls, Option.map_some, List.all_cons, List.all_nil, id_eq, Bool.and_true, OkO_some, OkI_t, OkI_f, Ok_ok, OkS_next, OkS_ret, deref_int, deref_bl, deref_str, deref_non, deref_tup, deref_lst, deref_fn, deref_frz, deref_r0, deref_r1, deref_r2, T_bl, T_int, T_tup, T_lst, T_non, B_addI, B_addL, B_addT, B_subI, B_mulI, B_divI, B_modI, C_ltI, C_leI, C_gtI, C_geI, C_eqI, C_eqB, C_neB, C_neI, I_tup, I_lst, L_tup, L_lst, L_abs, L_max, L_min, L_int, L_tupL, L_tupT, L_listT, L_listL, L_listF, L_all, L_any, It_L, It_T, It_r1, It_r2, negO_int, intO_int, isNo, isBo, bindT, bindTs, setAll, atI_0, atI_1, atI_2, atI_3, get_0, get_1, get_2, get_3, get_4, get_5, get_6, get_7, get_8, get_9, get_10, get_11, get_12, get_13, get_14, get_15, get_16, set_0, set_1, set_2, set_3, set_4, set_5, set_6, set_7, set_8, set_9, set_10, set_11, set_12, set_13, set_14, set_15, set_16, List.map_cons, List.map_nil, List.cons_append, List.nil_append, List.replicate_succ, List.replicate_zero, List.append_nil, List.length_cons, List.length_nil, if_true, if_false, Bool.not_true, Bool.not_false, Bool.false_eq_true, Nat.sub_self, Nat.reduceSub, Nat.reduceAdd, Nat.zero_add, Nat.reduceLeDiff, lim, and_true, true_and, decide_true, decide_false, PV.isRef, wipeE, m1, q1]
      exact ⟨_, _, rfl, Int.le_refl 0, Sz.of (m := 0) (by decide) (Nat.two_pow_pos _), by omega, by omega⟩
  cases ns with
  | nil =>
    have e : (if (0 : Int) < 0 then -0 else 0) = (0 : Int) := rfl
    simp -dsimp only [d__law_cup, b__law_cup, S_done, S_asg, S_asgT, S_par, S_sub, S_expr, S_if, S_for, S_forB, S_ret, S_retN, E_var, E_cst, E_gl, E_yes, E_tup, E_lst, E_mkl, E_bin, E_mkb, E_neg, E_not, E_cmp, E_chain, E_isN, E_isB, E_and, E_or, E_ite, E_idx, E_rev, E_slc, P_non, P_cst, P_var, P_bin, P_neg, P_call, P_blt, E_call, E_blt, E_mkt, E_isi, E_app, Es_nil, Es_cons, E_T, E_alloc, E_lc, E_mkc, LC_nil, LC_cons, LC_B, lcQ, accO, bls, Option.map_some, List.all_cons, List.all_nil, id_eq, Bool.and_true, OkO_some, OkI_t, OkI_f, Ok_ok, OkS_next, OkS_ret, deref_int, deref_bl, deref_str, deref_non, deref_tup, deref_lst, deref_fn, deref_frz, deref_r0, deref_r1, deref_r2, T_bl, T_int, T_tup, T_lst, T_non, B_addI, B_addL, B_addT, B_subI, B_mulI, B_divI, B_modI, C_ltI, C_leI, C_gtI, C_geI, C_eqI, C_eqB, C_neB, C_neI, I_tup, I_lst, L_tup, L_lst, L_abs, L_max, L_min, L_int, L_tupL, L_tupT, L_listT, L_listL, L_listF, L_all, L_any, It_L, It_T, It_r1, It_r2, negO_int, intO_int, isNo, isBo, bindT, bindTs, setAll, atI_0, atI_1, atI_2, atI_3, get_0, get_1, get_2, get_3, get_4, get_5, get_6, get_7, get_8, get_9, get_10, get_11, get_12, get_13, get_14, get_15, get_16, set_0, set_1, set_2, set_3, set_4, set_5, set_6, set_7, set_8, set_9, set_10, set_11, set_12, set_13, set_14, set_15, set_16, List.map_cons, List.map_nil, List.cons_append, List.nil_append, List.replicate_succ, List.replicate_zero, List.append_nil, List.length_cons, List.length_nil, if_true, if_false, Bool.not_true, Bool.not_false, Bool.false_eq_true, Nat.sub_self, Nat.reduceSub, Nat.reduceAdd, Nat.zero_add, Nat.reduceLeDiff, lim, and_true, true_and, decide_true, decide_false, PV.isRef, wipeE, hd, hL, e]
    have := main 0 (by decide) (Sz.of (m := 0) (by decide) (Nat.two_pow_pos _))
    simp -dsimp only [S_done, S_asg, S_asgT, S_par, S_sub, S_expr, S_if, S_for, S_forB, S_ret, S_retN, E_var, E_cst, E_gl, E_yes, E_tup, E_lst, E_mkl, E_bin, E_mkb, E_neg, E_not, E_cmp, E_chain, E_isN, E_isB, E_and, E_or, E_ite, E_idx, E_rev, E_slc, P_non, P_cst, P_var, P_bin, P_neg, P_call, P_blt, E_call, E_blt, E_mkt, E_isi, E_app, Es_nil, Es_cons, E_T, E_alloc, E_lc, E_mkc, LC_nil, LC_cons, LC_B, lcQ, accO, bls, Option.map_some, List.all_cons, List.all_nil, id_eq, Bool.and_true, OkO_some, OkI_t, OkI_f, Ok_ok, OkS_next, OkS_ret, deref_int, deref_bl, deref_str, deref_non, deref_tup, deref_lst, deref_fn, deref_frz, deref_r0, deref_r1, deref_r2, T_bl, T_int, T_tup, T_lst, T_non, B_addI, B_addL, B_addT, B_subI, B_mulI, B_divI, B_modI, C_ltI, C_leI, C_gtI, C_geI, C_eqI, C_eqB, C_neB, C_neI, I_tup, I_lst, L_tup, L_lst, L_abs, L_max, L_min, L_int, L_tupL, L_tupT, L_listT, L_listL, L_listF, L_all, L_any, It_L, It_T, It_r1, It_r2, negO_int, intO_int, isNo, isBo, bindT, bindTs, setAll, atI_0, atI_1, atI_2, atI_3, get_0, get_1, get_2, get_3, get_4, get_5, get_6, get_7, get_8, get_9, get_10, get_11, get_12, get_13, get_14, get_15, get_16, set_0, set_1, set_2, set_3, set_4, set_5, set_6, set_7, set_8, set_9, set_10, set_11, set_12, set_13, set_14, set_15, set_16, List.map_cons, List.map_nil, List.cons_append, List.nil_append, List.replicate_succ, List.replicate_zero, List.append_nil, List.length_cons, List.length_nil, if_true, if_false, Bool.not_true, Bool.not_false, Bool.false_eq_true, Nat.sub_self, Nat.reduceSub, Nat.reduceAdd, Nat.zero_add, Nat.reduceLeDiff, lim, and_true, true_and, decide_true, decide_false, PV.isRef, wipeE] at this
    exact this
  | cons z zs =>
    have hlen' : (List.map PV.int zs).length ≤ 999998 := by rw [List.length_map]; simp only [List.length_cons] at hl; omega
    have hz := Sz.bits (hb z (List.mem_cons_self ..))
    have e : (if z < 0 then -z else z) = (z.natAbs : Int) := by omega
    simp -dsimp only [d__law_cup, b__law_cup, S_done, S_asg, S_asgT, S_par, S_sub, S_expr, S_if, S_for, S_forB, S_ret, S_retN, E_var, E_cst, E_gl, E_yes, E_tup, E_lst, E_mkl, E_bin, E_mkb, E_neg, E_not, E_cmp, E_chain, E_isN, E_isB, E_and, E_or, E_ite, E_idx, E_rev, E_slc, P_non, P_cst, P_var, P_bin, P_neg, P_call, P_blt, E_call, E_blt, E_mkt, E_isi, E_app, Es_nil, Es_cons, E_T, E_alloc, E_lc, E_mkc, LC_nil, LC_cons, LC_B, lcQ, accO, bls, Option.map_some, List.all_cons, List.all_nil, id_eq, Bool.and_true, OkO_some, OkI_t, OkI_f, Ok_ok, OkS_next, OkS_ret, deref_int, deref_bl, deref_str, deref_non, deref_tup, deref_lst, deref_fn, deref_frz, deref_r0, deref_r1, deref_r2, T_bl, T_int, T_tup, T_lst, T_non, B_addI, B_addL, B_addT, B_subI, B_mulI, B_divI, B_modI, C_ltI, C_leI, C_gtI, C_geI, C_eqI, C_eqB, C_neB, C_neI, I_tup, I_lst, L_tup, L_lst, L_abs, L_max, L_min, L_int, L_tupL, L_tupT, L_listT, L_listL, L_listF, L_all, L_any, It_L, It_T, It_r1, It_r2, negO_int, intO_int, isNo, isBo, bindT, bindTs, setAll, atI_0, atI_1, atI_2, atI_3, get_0, get_1, get_2, get_3, get_4, get_5, get_6, get_7, get_8, get_9, get_10, get_11, get_12, get_13, get_14, get_15, get_16, set_0, set_1, set_2, set_3, set_4, set_5, set_6, set_7, set_8, set_9, set_10, set_11, set_12, set_13, set_14, set_15, set_16, List.map_cons, List.map_nil, List.cons_append, List.nil_append, List.replicate_succ, List.replicate_zero, List.append_nil, List.length_cons, List.length_nil, if_true, if_false, Bool.not_true, Bool.not_false, Bool.false_eq_true, Nat.sub_self, Nat.reduceSub, Nat.reduceAdd, Nat.zero_add, Nat.reduceLeDiff, lim, and_true, true_and, decide_true, decide_false, PV.isRef, wipeE, hd, hL, hlen', e]
    have := main z.natAbs (by omega) (by unfold Sz at *; simpa using hz)
    simp -dsimp only [S_done, S_asg, S_asgT, S_par, S_sub, S_expr, S_if, S_for, S_forB, S_ret, S_retN, E_var, E_cst, E_gl, E_yes, E_tup, E_lst, E_mkl, E_bin, E_mkb, E_neg, E_not, E_cmp, E_chain, E_isN, E_isB, E_and, E_or, E_ite, E_idx, E_rev, E_slc, P_non, P_cst, P_var, P_bin, P_neg, P_call, P_blt, E_call, E_blt, E_mkt, E_isi, E_app, Es_nil, Es_cons, E_T, E_alloc, E_lc, E_mkc, LC_nil, LC_cons, LC_B, lcQ, accO, bls, Option.map_some, List.all_cons, List.all_nil, id_eq, Bool.and_true, OkO_some, OkI_t, OkI_f, Ok_ok, OkS_next, OkS_ret, deref_int, deref_bl, deref_str, deref_non, deref_tup, deref_lst, deref_fn, deref_frz, deref_r0, deref_r1, deref_r2, T_bl, T_int, T_tup, T_lst, T_non, B_addI, B_addL, B_addT, B_subI, B_mulI, B_divI, B_modI, C_ltI, C_leI, C_gtI, C_geI, C_eqI, C_eqB, C_neB, C_neI, I_tup, I_lst, L_tup, L_lst, L_abs, L_max, L_min, L_int, L_tupL, L_tupT, L_listT, L_listL, L_listF, L_all, L_any, It_L, It_T, It_r1, It_r2, negO_int, intO_int, isNo, isBo, bindT, bindTs, setAll, atI_0, atI_1, atI_2, atI_3, get_0, get_1, get_2, get_3, get_4, get_5, get_6, get_7, get_8, get_9, get_10, get_11, get_12, get_13, get_14, get_15, get_16, set_0, set_1, set_2, set_3, set_4, set_5, set_6, set_7, set_8, set_9, set_10, set_11, set_12, set_13, set_14, set_15, set_16, List.map_cons, List.map_nil, List.cons_append, List.nil_append, List.replicate_succ, List.replicate_zero, List.append_nil, List.length_cons, List.length_nil, if_true, if_false, Bool.not_true, Bool.not_false, Bool.false_eq_true, Nat.sub_self, Nat.reduceSub, Nat.reduceAdd, Nat.zero_add, Nat.reduceLeDiff, lim, and_true, true_and, decide_true, decide_false, PV.isRef, wipeE] at this
    exact this
theorem lw_roll {many : Int} (hn : 1 ≤ n) (hm : 1 ≤ many) (hs : Sz 1000 many) (hc : CupI st) : Okp (callN Tb W n i__law_roll [.ref 0, .int many] st) fun r st' => ∃ i, r = .int i ∧ 0 ≤ i ∧ i < many ∧ CupI st' := by
  obtain ⟨n, rfl⟩ : ∃ m, n = m + 1 := ⟨n - 1, by omega⟩
  obtain ⟨a, b, rfl, ha, sa, hb, sb⟩ := hc
  refine call_ok T__law_roll rfl ?_
  have hm0 : (0 : Int) < many := by omega
  have d0 : divOk many = true := hs.divOk hm0
  have q1 : (0 : Int) < 2147483423 := by decide
  have q2 : (0 : Int) < 2147483587 := by decide
  have d1 : divOk 3361 = true := by decide
  by_cases h : 0 < a
  · simp -dsimp only [d__law_roll, b__law_roll, S_done, S_asg, S_asgT, S_par, S_sub, S_expr, S_if, S_for, S_forB, S_ret, S_retN, E_var, E_cst, E_gl, E_yes, E_tup, E_lst, E_mkl, E_bin, E_mkb, E_neg, E_not, E_cmp, E_chain, E_isN, E_isB, E_and, E_or, E_ite, E_idx, E_rev, E_slc, P_non, P_cst, P_var, P_bin, P_neg, P_call, P_blt, E_call, E_blt, E_mkt, E_isi, E_app, Es_nil, Es_cons, E_T, E_alloc, E_lc, E_mkc, LC_nil, LC_cons, LC_B, lcQ, accO, bls, Option.map_some, List.all_cons, List.all_nil, id_eq, Bool.and_true, OkO_some, OkI_t, OkI_f, Ok_ok, OkS_next, OkS_ret, deref_int, deref_bl, deref_str, deref_non, deref_tup, deref_lst, deref_fn, deref_frz, deref_r0, deref_r1, deref_r2, T_bl, T_int, T_tup, T_lst, T_non, B_addI, B_addL, B_addT, B_subI, B_mulI, B_divI, B_modI, C_ltI, C_leI, C_gtI, C_geI, C_eqI, C_eqB, C_neB, C_neI, I_tup, I_lst, L_tup, L_lst, L_abs, L_max, L_min, L_int, L_tupL, L_tupT, L_listT, L_listL, L_listF, L_all, L_any, It_L, It_T, It_r1, It_r2, negO_int, intO_int, isNo, isBo, bindT, bindTs, setAll, atI_0, atI_1, atI_2, atI_3, get_0, get_1, get_2, get_3, get_4, get_5, get_6, get_7, get_8, get_9, get_10, get_11, get_12, get_13, get_14, get_15, get_16, set_0, set_1, set_2, set_3, set_4, set_5, set_6, set_7, set_8, set_9, set_10, set_11, set_12, set_13, set_14, set_15, set_16, List.map_cons, List.map_nil, List.cons_append, List.nil_append, List.replicate_succ, List.replicate_zero, List.append_nil, List.length_cons, List.length_nil, if_true, if_false, Bool.not_true, Bool.not_false, Bool.false_eq_true, Nat.sub_self, Nat.reduceSub, Nat.reduceAdd, Nat.zero_add, Nat.reduceLeDiff, lim, and_true, true_and, decide_true, decide_false, PV.isRef, wipeE, h, hm0, d0, setAt, ixN_0, ixN_1]
    refine ⟨_, rfl, Int.emod_nonneg _ (by omega), Int.emod_lt_of_pos _ hm0, ?_⟩
    rw [trunc_same (by simp)]
    exact ⟨_, _, rfl, Int.ediv_nonneg ha (by omega), sa.div _, hb, sb⟩
  · have m1 : mulOk b 35773 = true := (Sz.ofLt (k := 40) hb sb).mulOk (k := 40) (Sz.of (m := 35773) (by decide) (by decide))
    have c1 := Int.emod_nonneg (b * 35773 + 9043) (b := 2147483423) (by decide)
    have c2 := Int.emod_lt_of_pos (b * 35773 + 9043) (b := 2147483423) (by decide)
    have m2 : mulOk ((b * 35773 + 9043) % 2147483423) ((b * 35773 + 9043) % 2147483423 + 6089) = true := (Sz.ofLt (k := 40) c1 c2).mulOk (k := 40) (Sz.ofLt (m := 2147483423 + 6089) (by omega) (by omega))
    simp -dsimp only [d__law_roll, b__law_roll, S_done, S_asg, S_asgT, S_par, S_sub, S_expr, S_if, S_for, S_forB, S_ret, S_retN, E_var, E_cst, E_gl, E_yes, E_tup, E_lst, E_mkl, E_bin, E_mkb, E_neg, E_not, E_cmp, E_chain, E_isN, E_isB, E_and, E_or, E_ite, E_idx, E_rev, E_slc, P_non, P_cst, P_var, P_bin, P_neg, P_call, P_blt, E_call, E_blt, E_mkt, E_isi, E_app, Es_nil, Es_cons, E_T, E_alloc, E_lc, E_mkc, LC_nil, LC_cons, LC_B, lcQ, accO, bls, Option.map_some, List.all_cons, List.all_nil, id_eq, Bool.and_true, OkO_some, OkI_t, OkI_f, Ok_ok, OkS_next, OkS_ret, deref_int, deref_bl, deref_str, deref_non, deref_tup, deref_lst, deref_fn, deref_frz, deref_r0, deref_r1, deref_r2, T_bl, T_int, T_tup, T_lst, T_non, B_addI, B_addL, B_addT, B_subI, B_mulI, B_divI, B_modI, C_ltI, C_leI, C_gtI, C_geI, C_eqI, C_eqB, C_neB, C_neI, I_tup, I_lst, L_tup, L_lst, L_abs, L_max, L_min, L_int, L_tupL, L_tupT, L_listT, L_listL, L_listF, L_all, L_any, It_L, It_T, It_r1, It_r2, negO_int, intO_int, isNo, isBo, bindT, bindTs, setAll, atI_0, atI_1, atI_2, atI_3, get_0, get_1, get_2, get_3, get_4, get_5, get_6, get_7, get_8, get_9, get_10, get_11, get_12, get_13, get_14, get_15, get_16, set_0, set_1, set_2, set_3, set_4, set_5, set_6, set_7, set_8, set_9, set_10, set_11, set_12, set_13, set_14, set_15, set_16, List.map_cons, List.map_nil, List.cons_append, List.nil_append, List.replicate_succ, List.replicate_zero, List.append_nil, List.length_cons, List.length_nil, if_true, if_false, Bool.not_true, Bool.not_false, Bool.false_eq_true, Nat.sub_self, Nat.reduceSub, Nat.reduceAdd, Nat.zero_add, Nat.reduceLeDiff, lim, and_true, true_and, decide_true, decide_false, PV.isRef, wipeE, h, hm0, d0, d1, q1, q2, m1, m2, setAt, ixN_0, ixN_1]
    refine ⟨_, rfl, Int.emod_nonneg _ (by omega), Int.emod_lt_of_pos _ hm0, ?_⟩
    rw [trunc_same (by simp)]
    exact ⟨_, _, rfl, ha, sa, c1, by omega⟩
theorem lw_share {a b : Int} (hn : 1 ≤ n) (hW : 5000 ≤ W) (hb : b ≠ 0) (hs : Sz 2000 b) : callN Tb W n i__law_share [.int a, .int b] st = .ok (shr (Rat.divInt a b)) st := by
  obtain ⟨n, rfl⟩ : ∃ m, n = m + 1 := ⟨n - 1, by omega⟩
  refine call_eq T__law_share rfl ?_
  have main : ∀ x y : Int, 0 < y → Sz 2000 y → OkS (evS (callN Tb W n) W (.par [2, 3] (.cons (.blt .max (.cons (.var 0) (.cons (.neg (.var 0)) .nil))) (.cons (.var 1) .nil)) (.whil (.cmp .gt (.var 3) (.cst (.int 0))) (.par [2, 3] (.cons (.var 3) (.cons (.bin .mod (.blt .int (.cons (.var 2) .nil)) (.var 3)) .nil)) .done)
      (.ret (.tup (.cons (.blt .int (.cons (.bin .fdiv (.var 0) (.var 2)) .nil)) (.cons (.blt .int (.cons (.bin .fdiv (.var 1) (.var 2)) .nil)) .nil)))))) [some (.int x), some (.int y), none, none] st) (fun _ st' => shr (Rat.divInt x y) = .non ∧ st' = st) (fun v' st' => v' = shr (Rat.divInt x y) ∧ st' = st) := by
    intro x y hy sy
    simp -dsimp only [S_done, S_asg, S_asgT, S_par, S_sub, S_expr, S_if, S_for, S_forB, S_ret, S_retN, E_var, E_cst, E_gl, E_yes, E_tup, E_lst, E_mkl, E_bin, E_mkb, E_neg, E_not, E_cmp, E_chain, E_isN, E_isB, E_and, E_or, E_ite, E_idx, E_rev, E_slc, P_non, P_cst, P_var, P_bin, P_neg, P_call, P_blt, E_call, E_blt, E_mkt, E_isi, E_app, Es_nil, Es_cons, E_T, E_alloc, E_lc, E_mkc, LC_nil, LC_cons, LC_B, lcQ, accO, bls, Option.map_some, List.all_cons, List.all_nil, id_eq, Bool.and_true, OkO_some, OkI_t, OkI_f, Ok_ok, OkS_next, OkS_ret, deref_int, deref_bl, deref_str, deref_non, deref_tup, deref_lst, deref_fn, deref_frz, deref_r0, deref_r1, deref_r2, T_bl, T_int, T_tup, T_lst, T_non, B_addI, B_addL, B_addT, B_subI, B_mulI, B_divI, B_modI, C_ltI, C_leI, C_gtI, C_geI, C_eqI, C_eqB, C_neB, C_neI, I_tup, I_lst, L_tup, L_lst, L_abs, L_max, L_min, L_int, L_tupL, L_tupT, L_listT, L_listL, L_listF, L_all, L_any, It_L, It_T, It_r1, It_r2, negO_int, intO_int, isNo, isBo, bindT, bindTs, setAll, atI_0, atI_1, atI_2, atI_3, get_0, get_1, get_2, get_3, get_4, get_5, get_6, get_7, get_8, get_9, get_10, get_11, get_12, get_13, get_14, get_15, get_16, set_0, set_1, set_2, set_3, set_4, set_5, set_6, set_7, set_8, set_9, set_10, set_11, set_12, set_13, set_14, set_15, set_16, List.map_cons, List.map_nil, List.cons_append, List.nil_append, List.replicate_succ, List.replicate_zero, List.append_nil, List.length_cons, List.length_nil, if_true, if_false, Bool.not_true, Bool.not_false, Bool.false_eq_true, Nat.sub_self, Nat.reduceSub, Nat.reduceAdd, Nat.zero_add, Nat.reduceLeDiff, lim, and_true, true_and, decide_true, decide_false, PV.isRef, wipeE, S_whil]
    obtain ⟨b, rfl⟩ := Int.eq_ofNat_of_zero_le (a := y) (by omega)
    have e : (if -x > x then -x else x) = (x.natAbs : Int) := by omega
    rw [e, euclid (F := fun p q => [some (.int x), some (.int (b : Nat)), some (.int (p : Nat)), some (.int (q : Nat))]) 2000 ?_ ?_ 2000 (Nat.le_refl _) x.natAbs b W (by simpa [Sz] using sy) (by omega)]
    · have hg : 0 < Nat.gcd x.natAbs b := Nat.gcd_pos_of_pos_right _ (by omega)
      have hgs : Sz 2000 (Nat.gcd x.natAbs b : Nat) := by
        refine Nat.lt_of_le_of_lt ?_ sy
        exact Nat.le_of_dvd (by omega) (by simpa using Nat.gcd_dvd_right x.natAbs b)
      have hd : divOk (Nat.gcd x.natAbs b : Nat) = true := Sz.divOk hgs (by omega)
      simp -dsimp only [S_done, S_asg, S_asgT, S_par, S_sub, S_expr, S_if, S_for, S_forB, S_ret, S_retN, E_var, E_cst, E_gl, E_yes, E_tup, E_lst, E_mkl, E_bin, E_mkb, E_neg, E_not, E_cmp, E_chain, E_isN, E_isB, E_and, E_or, E_ite, E_idx, E_rev, E_slc, P_non, P_cst, P_var, P_bin, P_neg, P_call, P_blt, E_call, E_blt, E_mkt, E_isi, E_app, Es_nil, Es_cons, E_T, E_alloc, E_lc, E_mkc, LC_nil, LC_cons, LC_B, lcQ, accO, bls, Option.map_some, List.all_cons, List.all_nil, id_eq, Bool.and_true, OkO_some, OkI_t, OkI_f, Ok_ok, OkS_next, OkS_ret, deref_int, deref_bl, deref_str, deref_non, deref_tup, deref_lst, deref_fn, deref_frz, deref_r0, deref_r1, deref_r2, T_bl, T_int, T_tup, T_lst, T_non, B_addI, B_addL, B_addT, B_subI, B_mulI, B_divI, B_modI, C_ltI, C_leI, C_gtI, C_geI, C_eqI, C_eqB, C_neB, C_neI, I_tup, I_lst, L_tup, L_lst, L_abs, L_max, L_min, L_int, L_tupL, L_tupT, L_listT, L_listL, L_listF, L_all, L_any, It_L, It_T, It_r1, It_r2, negO_int, intO_int, isNo, isBo, bindT, bindTs, setAll, atI_0, atI_1, atI_2, atI_3, get_0, get_1, get_2, get_3, get_4, get_5, get_6, get_7, get_8, get_9, get_10, get_11, get_12, get_13, get_14, get_15, get_16, set_0, set_1, set_2, set_3, set_4, set_5, set_6, set_7, set_8, set_9, set_10, set_11, set_12, set_13, set_14, set_15, set_16, List.map_cons, List.map_nil, List.cons_append, List.nil_append, List.replicate_succ, List.replicate_zero, List.append_nil, List.length_cons, List.length_nil, if_true, if_false, Bool.not_true, Bool.not_false, Bool.false_eq_true, Nat.sub_self, Nat.reduceSub, Nat.reduceAdd, Nat.zero_add, Nat.reduceLeDiff, lim, and_true, true_and, decide_true, decide_false, PV.isRef, wipeE, hd]
      obtain ⟨e1, e2⟩ := divInt_form (a := x) hy
      have e3 : Nat.gcd x.natAbs b = Int.gcd x b := by simp [Int.gcd]
      rw [e3]
      unfold shr
      rw [e1, e2]
    · intro p q
      refine eq_of_ok ?_
      simp -dsimp only [S_done, S_asg, S_asgT, S_par, S_sub, S_expr, S_if, S_for, S_forB, S_ret, S_retN, E_var, E_cst, E_gl, E_yes, E_tup, E_lst, E_mkl, E_bin, E_mkb, E_neg, E_not, E_cmp, E_chain, E_isN, E_isB, E_and, E_or, E_ite, E_idx, E_rev, E_slc, P_non, P_cst, P_var, P_bin, P_neg, P_call, P_blt, E_call, E_blt, E_mkt, E_isi, E_app, Es_nil, Es_cons, E_T, E_alloc, E_lc, E_mkc, LC_nil, LC_cons, LC_B, lcQ, accO, bls, Option.map_some, List.all_cons, List.all_nil, id_eq, Bool.and_true, OkO_some, OkI_t, OkI_f, Ok_ok, OkS_next, OkS_ret, deref_int, deref_bl, deref_str, deref_non, deref_tup, deref_lst, deref_fn, deref_frz, deref_r0, deref_r1, deref_r2, T_bl, T_int, T_tup, T_lst, T_non, B_addI, B_addL, B_addT, B_subI, B_mulI, B_divI, B_modI, C_ltI, C_leI, C_gtI, C_geI, C_eqI, C_eqB, C_neB, C_neI, I_tup, I_lst, L_tup, L_lst, L_abs, L_max, L_min, L_int, L_tupL, L_tupT, L_listT, L_listL, L_listF, L_all, L_any, It_L, It_T, It_r1, It_r2, negO_int, intO_int, isNo, isBo, bindT, bindTs, setAll, atI_0, atI_1, atI_2, atI_3, get_0, get_1, get_2, get_3, get_4, get_5, get_6, get_7, get_8, get_9, get_10, get_11, get_12, get_13, get_14, get_15, get_16, set_0, set_1, set_2, set_3, set_4, set_5, set_6, set_7, set_8, set_9, set_10, set_11, set_12, set_13, set_14, set_15, set_16, List.map_cons, List.map_nil, List.cons_append, List.nil_append, List.replicate_succ, List.replicate_zero, List.append_nil, List.length_cons, List.length_nil, if_true, if_false, Bool.not_true, Bool.not_false, Bool.false_eq_true, Nat.sub_self, Nat.reduceSub, Nat.reduceAdd, Nat.zero_add, Nat.reduceLeDiff, lim, and_true, true_and, decide_true, decide_false, PV.isRef, wipeE]
      simp
    · intro p q h hM
      have hd : divOk (q : Int) = true := Sz.divOk (k := 2000) (by simpa [Sz] using hM) (by omega)
      have hp : (0 : Int) < (q : Int) := by omega
      refine eq_of_okS ?_
      simp -dsimp only [S_done, S_asg, S_asgT, S_par, S_sub, S_expr, S_if, S_for, S_forB, S_ret, S_retN, E_var, E_cst, E_gl, E_yes, E_tup, E_lst, E_mkl, E_bin, E_mkb, E_neg, E_not, E_cmp, E_chain, E_isN, E_isB, E_and, E_or, E_ite, E_idx, E_rev, E_slc, P_non, P_cst, P_var, P_bin, P_neg, P_call, P_blt, E_call, E_blt, E_mkt, E_isi, E_app, Es_nil, Es_cons, E_T, E_alloc, E_lc, E_mkc, LC_nil, LC_cons, LC_B, lcQ, accO, bls, Option.map_some, List.all_cons, List.all_nil, id_eq, Bool.and_true, OkO_some, OkI_t, OkI_f, Ok_ok, OkS_next, OkS_ret, deref_int, deref_bl, deref_str, deref_non, deref_tup, deref_lst, deref_fn, deref_frz, deref_r0, deref_r1, deref_r2, T_bl, T_int, T_tup, T_lst, T_non, B_addI, B_addL, B_addT, B_subI, B_mulI, B_divI, B_modI, C_ltI, C_leI, C_gtI, C_geI, C_eqI, C_eqB, C_neB, C_neI, I_tup, I_lst, L_tup, L_lst, L_abs, L_max, L_min, L_int, L_tupL, L_tupT, L_listT, L_listL, L_listF, L_all, L_any, It_L, It_T, It_r1, It_r2, negO_int, intO_int, isNo, isBo, bindT, bindTs, setAll, atI_0, atI_1, atI_2, atI_3, get_0, get_1, get_2, get_3, get_4, get_5, get_6, get_7, get_8, get_9, get_10, get_11, get_12, get_13, get_14, get_15, get_16, set_0, set_1, set_2, set_3, set_4, set_5, set_6, set_7, set_8, set_9, set_10, set_11, set_12, set_13, set_14, set_15, set_16, List.map_cons, List.map_nil, List.cons_append, List.nil_append, List.replicate_succ, List.replicate_zero, List.append_nil, List.length_cons, List.length_nil, if_true, if_false, Bool.not_true, Bool.not_false, Bool.false_eq_true, Nat.sub_self, Nat.reduceSub, Nat.reduceAdd, Nat.zero_add, Nat.reduceLeDiff, lim, and_true, true_and, decide_true, decide_false, PV.isRef, wipeE, hd, hp]
      rfl
  simp -dsimp only [d__law_share, b__law_share, S_done, S_asg, S_asgT, S_par, S_sub, S_expr, S_if, S_for, S_forB, S_ret, S_retN, E_var, E_cst, E_gl, E_yes, E_tup, E_lst, E_mkl, E_bin, E_mkb, E_neg, E_not, E_cmp, E_chain, E_isN, E_isB, E_and, E_or, E_ite, E_idx, E_rev, E_slc, P_non, P_cst, P_var, P_bin, P_neg, P_call, P_blt, E_call, E_blt, E_mkt, E_isi, E_app, Es_nil, Es_cons, E_T, E_alloc, E_lc, E_mkc, LC_nil, LC_cons, LC_B, lcQ, accO, bls, Option.map_some, List.all_cons, List.all_nil, id_eq, Bool.and_true, OkO_some, OkI_t, OkI_f, Ok_ok, OkS_next, OkS_ret, deref_int, deref_bl, deref_str, deref_non, deref_tup, deref_lst, deref_fn, deref_frz, deref_r0, deref_r1, deref_r2, T_bl, T_int, T_tup, T_lst, T_non, B_addI, B_addL, B_addT, B_subI, B_mulI, B_divI, B_modI, C_ltI, C_leI, C_gtI, C_geI, C_eqI, C_eqB, C_neB, C_neI, I_tup, I_lst, L_tup, L_lst, L_abs, L_max, L_min, L_int, L_tupL, L_tupT, L_listT, L_listL, L_listF, L_all, L_any, It_L, It_T, It_r1, It_r2, negO_int, intO_int, isNo, isBo, bindT, bindTs, setAll, atI_0, atI_1, atI_2, atI_3, get_0, get_1, get_2, get_3, get_4, get_5, get_6, get_7, get_8, get_9, get_10, get_11, get_12, get_13, get_14, get_15, get_16, set_0, set_1, set_2, set_3, set_4, set_5, set_6, set_7, set_8, set_9, set_10, set_11, set_12, set_13, set_14, set_15, set_16, List.map_cons, List.map_nil, List.cons_append, List.nil_append, List.replicate_succ, List.replicate_zero, List.append_nil, List.length_cons, List.length_nil, if_true, if_false, Bool.not_true, Bool.not_false, Bool.false_eq_true, Nat.sub_self, Nat.reduceSub, Nat.reduceAdd, Nat.zero_add, Nat.reduceLeDiff, lim, and_true, true_and, decide_true, decide_false, PV.isRef, wipeE]
  by_cases h : b < 0
  · simp -dsimp only [h, S_done, S_asg, S_asgT, S_par, S_sub, S_expr, S_if, S_for, S_forB, S_ret, S_retN, E_var, E_cst, E_gl, E_yes, E_tup, E_lst, E_mkl, E_bin, E_mkb, E_neg, E_not, E_cmp, E_chain, E_isN, E_isB, E_and, E_or, E_ite, E_idx, E_rev, E_slc, P_non, P_cst, P_var, P_bin, P_neg, P_call, P_blt, E_call, E_blt, E_mkt, E_isi, E_app, Es_nil, Es_cons, E_T, E_alloc, E_lc, E_mkc, LC_nil, LC_cons, LC_B, lcQ, accO, bls, Option.map_some, List.all_cons, List.all_nil, id_eq, Bool.and_true, OkO_some, OkI_t, OkI_f, Ok_ok, OkS_next, OkS_ret, deref_int, deref_bl, deref_str, deref_non, deref_tup, deref_lst, deref_fn, deref_frz, deref_r0, deref_r1, deref_r2, T_bl, T_int, T_tup, T_lst, T_non, B_addI, B_addL, B_addT, B_subI, B_mulI, B_divI, B_modI, C_ltI, C_leI, C_gtI, C_geI, C_eqI, C_eqB, C_neB, C_neI, I_tup, I_lst, L_tup, L_lst, L_abs, L_max, L_min, L_int, L_tupL, L_tupT, L_listT, L_listL, L_listF, L_all, L_any, It_L, It_T, It_r1, It_r2, negO_int, intO_int, isNo, isBo, bindT, bindTs, setAll, atI_0, atI_1, atI_2, atI_3, get_0, get_1, get_2, get_3, get_4, get_5, get_6, get_7, get_8, get_9, get_10, get_11, get_12, get_13, get_14, get_15, get_16, set_0, set_1, set_2, set_3, set_4, set_5, set_6, set_7, set_8, set_9, set_10, set_11, set_12, set_13, set_14, set_15, set_16, List.map_cons, List.map_nil, List.cons_append, List.nil_append, List.replicate_succ, List.replicate_zero, List.append_nil, List.length_cons, List.length_nil, if_true, if_false, Bool.not_true, Bool.not_false, Bool.false_eq_true, Nat.sub_self, Nat.reduceSub, Nat.reduceAdd, Nat.zero_add, Nat.reduceLeDiff, lim, and_true, true_and, decide_true, decide_false, PV.isRef, wipeE]
    have := main (-a) (-b) (by omega) hs.neg
    rw [Rat.neg_divInt_neg] at this
    simp -dsimp only [S_done, S_asg, S_asgT, S_par, S_sub, S_expr, S_if, S_for, S_forB, S_ret, S_retN, E_var, E_cst, E_gl, E_yes, E_tup, E_lst, E_mkl, E_bin, E_mkb, E_neg, E_not, E_cmp, E_chain, E_isN, E_isB, E_and, E_or, E_ite, E_idx, E_rev, E_slc, P_non, P_cst, P_var, P_bin, P_neg, P_call, P_blt, E_call, E_blt, E_mkt, E_isi, E_app, Es_nil, Es_cons, E_T, E_alloc, E_lc, E_mkc, LC_nil, LC_cons, LC_B, lcQ, accO, bls, Option.map_some, List.all_cons, List.all_nil, id_eq, Bool.and_true, OkO_some, OkI_t, OkI_f, Ok_ok, OkS_next, OkS_ret, deref_int, deref_bl, deref_str, deref_non, deref_tup, deref_lst, deref_fn, deref_frz, deref_r0, deref_r1, deref_r2, T_bl, T_int, T_tup, T_lst, T_non, B_addI, B_addL, B_addT, B_subI, B_mulI, B_divI, B_modI, C_ltI, C_leI, C_gtI, C_geI, C_eqI, C_eqB, C_neB, C_neI, I_tup, I_lst, L_tup, L_lst, L_abs, L_max, L_min, L_int, L_tupL, L_tupT, L_listT, L_listL, L_listF, L_all, L_any, It_L, It_T, It_r1, It_r2, negO_int, intO_int, isNo, isBo, bindT, bindTs, setAll, atI_0, atI_1, atI_2, atI_3, get_0, get_1, get_2, get_3, get_4, get_5, get_6, get_7, get_8, get_9, get_10, get_11, get_12, get_13, get_14, get_15, get_16, set_0, set_1, set_2, set_3, set_4, set_5, set_6, set_7, set_8, set_9, set_10, set_11, set_12, set_13, set_14, set_15, set_16, List.map_cons, List.map_nil, List.cons_append, List.nil_append, List.replicate_succ, List.replicate_zero, List.append_nil, List.length_cons, List.length_nil, if_true, if_false, Bool.not_true, Bool.not_false, Bool.false_eq_true, Nat.sub_self, Nat.reduceSub, Nat.reduceAdd, Nat.zero_add, Nat.reduceLeDiff, lim, and_true, true_and, decide_true, decide_false, PV.isRef, wipeE] at this
    exact this
  · simp -dsimp only [h, S_done, S_asg, S_asgT, S_par, S_sub, S_expr, S_if, S_for, S_forB, S_ret, S_retN, E_var, E_cst, E_gl, E_yes, E_tup, E_lst, E_mkl, E_bin, E_mkb, E_neg, E_not, E_cmp, E_chain, E_isN, E_isB, E_and, E_or, E_ite, E_idx, E_rev, E_slc, P_non, P_cst, P_var, P_bin, P_neg, P_call, P_blt, E_call, E_blt, E_mkt, E_isi, E_app, Es_nil, Es_cons, E_T, E_alloc, E_lc, E_mkc, LC_nil, LC_cons, LC_B, lcQ, accO, bls, Option.map_some, List.all_cons, List.all_nil, id_eq, Bool.and_true, OkO_some, OkI_t, OkI_f, Ok_ok, OkS_next, OkS_ret, deref_int, deref_bl, deref_str, deref_non, deref_tup, deref_lst, deref_fn, deref_frz, deref_r0, deref_r1, deref_r2, T_bl, T_int, T_tup, T_lst, T_non, B_addI, B_addL, B_addT, B_subI, B_mulI, B_divI, B_modI, C_ltI, C_leI, C_gtI, C_geI, C_eqI, C_eqB, C_neB, C_neI, I_tup, I_lst, L_tup, L_lst, L_abs, L_max, L_min, L_int, L_tupL, L_tupT, L_listT, L_listL, L_listF, L_all, L_any, It_L, It_T, It_r1, It_r2, negO_int, intO_int, isNo, isBo, bindT, bindTs, setAll, atI_0, atI_1, atI_2, atI_3, get_0, get_1, get_2, get_3, get_4, get_5, get_6, get_7, get_8, get_9, get_10, get_11, get_12, get_13, get_14, get_15, get_16, set_0, set_1, set_2, set_3, set_4, set_5, set_6, set_7, set_8, set_9, set_10, set_11, set_12, set_13, set_14, set_15, set_16, List.map_cons, List.map_nil, List.cons_append, List.nil_append, List.replicate_succ, List.replicate_zero, List.append_nil, List.length_cons, List.length_nil, if_true, if_false, Bool.not_true, Bool.not_false, Bool.false_eq_true, Nat.sub_self, Nat.reduceSub, Nat.reduceAdd, Nat.zero_add, Nat.reduceLeDiff, lim, and_true, true_and, decide_true, decide_false, PV.isRef, wipeE]
    have := main a b (by omega) hs
    simp -dsimp only [S_done, S_asg, S_asgT, S_par, S_sub, S_expr, S_if, S_for, S_forB, S_ret, S_retN, E_var, E_cst, E_gl, E_yes, E_tup, E_lst, E_mkl, E_bin, E_mkb, E_neg, E_not, E_cmp, E_chain, E_isN, E_isB, E_and, E_or, E_ite, E_idx, E_rev, E_slc, P_non, P_cst, P_var, P_bin, P_neg, P_call, P_blt, E_call, E_blt, E_mkt, E_isi, E_app, Es_nil, Es_cons, E_T, E_alloc, E_lc, E_mkc, LC_nil, LC_cons, LC_B, lcQ, accO, bls, Option.map_some, List.all_cons, List.all_nil, id_eq, Bool.and_true, OkO_some, OkI_t, OkI_f, Ok_ok, OkS_next, OkS_ret, deref_int, deref_bl, deref_str, deref_non, deref_tup, deref_lst, deref_fn, deref_frz, deref_r0, deref_r1, deref_r2, T_bl, T_int, T_tup, T_lst, T_non, B_addI, B_addL, B_addT, B_subI, B_mulI, B_divI, B_modI, C_ltI, C_leI, C_gtI, C_geI, C_eqI, C_eqB, C_neB, C_neI, I_tup, I_lst, L_tup, L_lst, L_abs, L_max, L_min, L_int, L_tupL, L_tupT, L_listT, L_listL, L_listF, L_all, L_any, It_L, It_T, It_r1, It_r2, negO_int, intO_int, isNo, isBo, bindT, bindTs, setAll, atI_0, atI_1, atI_2, atI_3, get_0, get_1, get_2, get_3, get_4, get_5, get_6, get_7, get_8, get_9, get_10, get_11, get_12, get_13, get_14, get_15, get_16, set_0, set_1, set_2, set_3, set_4, set_5, set_6, set_7, set_8, set_9, set_10, set_11, set_12, set_13, set_14, set_15, set_16, List.map_cons, List.map_nil, List.cons_append, List.nil_append, List.replicate_succ, List.replicate_zero, List.append_nil, List.length_cons, List.length_nil, if_true, if_false, Bool.not_true, Bool.not_false, Bool.false_eq_true, Nat.sub_self, Nat.reduceSub, Nat.reduceAdd, Nat.zero_add, Nat.reduceLeDiff, lim, and_true, true_and, decide_true, decide_false, PV.isRef, wipeE] at this
    exact this
end

section
variable {W n : Nat} {st : Store}
theorem lw_some {xs : List PV} (hn : 2 ≤ n) (h1 : 1 ≤ xs.length) (h2 : xs.length ≤ 1000) (hc : CupI st) : Okp (callN Tb W n i__law_some [.ref 0, .lst xs] st) fun r st' => r ∈ xs ∧ CupI st' := by
  obtain ⟨n, rfl⟩ : ∃ m, n = m + 1 := ⟨n - 1, by omega⟩
  refine call_ok T__law_some rfl ?_
  simp -dsimp only [d__law_some, b__law_some, S_done, S_asg, S_asgT, S_par, S_sub, S_expr, S_if, S_for, S_forB, S_ret, S_retN, E_var, E_cst, E_gl, E_yes, E_tup, E_lst, E_mkl, E_bin, E_mkb, E_neg, E_not, E_cmp, E_chain, E_isN, E_isB, E_and, E_or, E_ite, E_idx, E_rev, E_slc, P_non, P_cst, P_var, P_bin, P_neg, P_call, P_blt, E_call, E_blt, E_mkt, E_isi, E_app, Es_nil, Es_cons, E_T, E_alloc, E_lc, E_mkc, LC_nil, LC_cons, LC_B, lcQ, accO, bls, Option.map_some, List.all_cons, List.all_nil, id_eq, Bool.and_true, OkO_some, OkI_t, OkI_f, Ok_ok, OkS_next, OkS_ret, deref_int, deref_bl, deref_str, deref_non, deref_tup, deref_lst, deref_fn, deref_frz, deref_r0, deref_r1, deref_r2, T_bl, T_int, T_tup, T_lst, T_non, B_addI, B_addL, B_addT, B_subI, B_mulI, B_divI, B_modI, C_ltI, C_leI, C_gtI, C_geI, C_eqI, C_eqB, C_neB, C_neI, I_tup, I_lst, L_tup, L_lst, L_abs, L_max, L_min, L_int, L_tupL, L_tupT, L_listT, L_listL, L_listF, L_all, L_any, It_L, It_T, It_r1, It_r2, negO_int, intO_int, isNo, isBo, bindT, bindTs, setAll, atI_0, atI_1, atI_2, atI_3, get_0, get_1, get_2, get_3, get_4, get_5, get_6, get_7, get_8, get_9, get_10, get_11, get_12, get_13, get_14, get_15, get_16, set_0, set_1, set_2, set_3, set_4, set_5, set_6, set_7, set_8, set_9, set_10, set_11, set_12, set_13, set_14, set_15, set_16, List.map_cons, List.map_nil, List.cons_append, List.nil_append, List.replicate_succ, List.replicate_zero, List.append_nil, List.length_cons, List.length_nil, if_true, if_false, Bool.not_true, Bool.not_false, Bool.false_eq_true, Nat.sub_self, Nat.reduceSub, Nat.reduceAdd, Nat.zero_add, Nat.reduceLeDiff, lim, and_true, true_and, decide_true, decide_false, PV.isRef, wipeE]
  refine (lw_roll (many := xs.length) (by omega) (by omega) (Sz.of (m := 1000) (by omega) (by decide)) hc).to fun r st1 ⟨i, e, h0, hi, hc1⟩ => ?_
  subst e
  obtain ⟨j, rfl⟩ := Int.eq_ofNat_of_zero_le h0
  have hj : j < xs.length := by omega
  simp -dsimp only [S_done, S_asg, S_asgT, S_par, S_sub, S_expr, S_if, S_for, S_forB, S_ret, S_retN, E_var, E_cst, E_gl, E_yes, E_tup, E_lst, E_mkl, E_bin, E_mkb, E_neg, E_not, E_cmp, E_chain, E_isN, E_isB, E_and, E_or, E_ite, E_idx, E_rev, E_slc, P_non, P_cst, P_var, P_bin, P_neg, P_call, P_blt, E_call, E_blt, E_mkt, E_isi, E_app, Es_nil, Es_cons, E_T, E_alloc, E_lc, E_mkc, LC_nil, LC_cons, LC_B, lcQ, accO, bls, Option.map_some, List.all_cons, List.all_nil, id_eq, Bool.and_true, OkO_some, OkI_t, OkI_f, Ok_ok, OkS_next, OkS_ret, deref_int, deref_bl, deref_str, deref_non, deref_tup, deref_lst, deref_fn, deref_frz, deref_r0, deref_r1, deref_r2, T_bl, T_int, T_tup, T_lst, T_non, B_addI, B_addL, B_addT, B_subI, B_mulI, B_divI, B_modI, C_ltI, C_leI, C_gtI, C_geI, C_eqI, C_eqB, C_neB, C_neI, I_tup, I_lst, L_tup, L_lst, L_abs, L_max, L_min, L_int, L_tupL, L_tupT, L_listT, L_listL, L_listF, L_all, L_any, It_L, It_T, It_r1, It_r2, negO_int, intO_int, isNo, isBo, bindT, bindTs, setAll, atI_0, atI_1, atI_2, atI_3, get_0, get_1, get_2, get_3, get_4, get_5, get_6, get_7, get_8, get_9, get_10, get_11, get_12, get_13, get_14, get_15, get_16, set_0, set_1, set_2, set_3, set_4, set_5, set_6, set_7, set_8, set_9, set_10, set_11, set_12, set_13, set_14, set_15, set_16, List.map_cons, List.map_nil, List.cons_append, List.nil_append, List.replicate_succ, List.replicate_zero, List.append_nil, List.length_cons, List.length_nil, if_true, if_false, Bool.not_true, Bool.not_false, Bool.false_eq_true, Nat.sub_self, Nat.reduceSub, Nat.reduceAdd, Nat.zero_add, Nat.reduceLeDiff, lim, and_true, true_and, decide_true, decide_false, PV.isRef, wipeE, atI_n, List.getElem?_eq_getElem hj]
  obtain ⟨a, b, e, hh⟩ := hc1
  obtain ⟨a', b', e', hh'⟩ := hc
  refine ⟨List.getElem_mem hj, ?_⟩
  rw [trunc_same (by rw [e, e']; simp)]
  exact ⟨a, b, e, hh⟩
/-- what a drawn share is -/
def shB (far most : Int) (x : Rat) : Prop := -far * (x.den : Int) ≤ x.num ∧ x.num ≤ far * (x.den : Int) ∧ (x.den : Int) ≤ most
theorem shB.fsh {far most : Int} {x : Rat} (h : shB far most x) (f : far * most ≤ 1000000 := by decide) (f0 : 0 ≤ far := by decide) (m : most ≤ 1000 := by decide) : fsh x := by
  obtain ⟨h1, h2, h3⟩ := h
  have := Int.mul_le_mul_of_nonneg_left h3 f0
  rw [Int.neg_mul] at h1
  refine ⟨?_, ?_⟩ <;> omega
end

section
variable {W : Nat} {st : Store}
theorem lw_same : ∀ (d : Nat) (v : PV), nice d v → ∀ n, d ≤ n → callN Tb W n i__law_same [v, v] st = .ok (.bl true) st := by
  intro d
  induction d with
  | zero => exact fun v h => h.elim
  | succ d ih =>
    intro v h n hn
    obtain ⟨n, rfl⟩ : ∃ m, n = m + 1 := ⟨n - 1, by omega⟩
    refine call_eq T__law_same rfl ?_
    have seq : ∀ (mk : List PV → PV) (xs : List PV), (mk = .tup ∨ mk = .lst) → xs.length ≤ 1000 → (∀ x ∈ xs, nice d x) →
        Ok (lcLoop (lcB (callN Tb W n) (.nm 2) [2] (.not (.call i__law_same (.cons (.idx (.var 0) (.var 2)) (.cons (.idx (.var 1) (.var 2)) .nil)))) (.cst (.int 1)) [some (mk xs), some (mk xs), none]) (rgV' 0 (xs.length : Int).toNat) [] st) fun acc st' => acc = [] ∧ st' = st := by
      intro mk xs hmk hl hx
      rw [lc_map (g := fun _ => none)]
      · rw [filterMap_no]
        exact ⟨rfl, rfl⟩
      · refine lim_le ?_
        rw [rgV_len, List.length_nil, Int.toNat_natCast]
        omega
      · intro x hx'
        obtain ⟨i, hi, rfl⟩ := mem_rgV hx'
        have hi' : i < xs.length := by omega
        rcases hmk with rfl | rfl
        all_goals
          refine lcB_ok ?_
          simp -dsimp only [S_done, S_asg, S_asgT, S_par, S_sub, S_expr, S_if, S_for, S_forB, S_ret, S_retN, E_var, E_cst, E_gl, E_yes, E_tup, E_lst, E_mkl, E_bin, E_mkb, E_neg, E_not, E_cmp, E_chain, E_isN, E_isB, E_and, E_or, E_ite, E_idx, E_rev, E_slc, P_non, P_cst, P_var, P_bin, P_neg, P_call, P_blt, E_call, E_blt, E_mkt, E_isi, E_app, Es_nil, Es_cons, E_T, E_alloc, E_lc, E_mkc, LC_nil, LC_cons, LC_B, lcQ, accO, bls, Option.map_some, List.all_cons, List.all_nil, id_eq, Bool.and_true, OkO_some, OkI_t, OkI_f, Ok_ok, OkS_next, OkS_ret, deref_int, deref_bl, deref_str, deref_non, deref_tup, deref_lst, deref_fn, deref_frz, deref_r0, deref_r1, deref_r2, T_bl, T_int, T_tup, T_lst, T_non, B_addI, B_addL, B_addT, B_subI, B_mulI, B_divI, B_modI, C_ltI, C_leI, C_gtI, C_geI, C_eqI, C_eqB, C_neB, C_neI, I_tup, I_lst, L_tup, L_lst, L_abs, L_max, L_min, L_int, L_tupL, L_tupT, L_listT, L_listL, L_listF, L_all, L_any, It_L, It_T, It_r1, It_r2, negO_int, intO_int, isNo, isBo, bindT, bindTs, setAll, atI_0, atI_1, atI_2, atI_3, get_0, get_1, get_2, get_3, get_4, get_5, get_6, get_7, get_8, get_9, get_10, get_11, get_12, get_13, get_14, get_15, get_16, set_0, set_1, set_2, set_3, set_4, set_5, set_6, set_7, set_8, set_9, set_10, set_11, set_12, set_13, set_14, set_15, set_16, List.map_cons, List.map_nil, List.cons_append, List.nil_append, List.replicate_succ, List.replicate_zero, List.append_nil, List.length_cons, List.length_nil, if_true, if_false, Bool.not_true, Bool.not_false, Bool.false_eq_true, Nat.sub_self, Nat.reduceSub, Nat.reduceAdd, Nat.zero_add, Nat.reduceLeDiff, lim, and_true, true_and, decide_true, decide_false, PV.isRef, wipeE, atI_n, List.getElem?_eq_getElem hi']
          rw [ih _ (hx _ (List.getElem_mem hi')) n (by omega)]
          simp -dsimp only [S_done, S_asg, S_asgT, S_par, S_sub, S_expr, S_if, S_for, S_forB, S_ret, S_retN, E_var, E_cst, E_gl, E_yes, E_tup, E_lst, E_mkl, E_bin, E_mkb, E_neg, E_not, E_cmp, E_chain, E_isN, E_isB, E_and, E_or, E_ite, E_idx, E_rev, E_slc, P_non, P_cst, P_var, P_bin, P_neg, P_call, P_blt, E_call, E_blt, E_mkt, E_isi, E_app, Es_nil, Es_cons, E_T, E_alloc, E_lc, E_mkc, LC_nil, LC_cons, LC_B, lcQ, accO, bls, Option.map_some, List.all_cons, List.all_nil, id_eq, Bool.and_true, OkO_some, OkI_t, OkI_f, Ok_ok, OkS_next, OkS_ret, deref_int, deref_bl, deref_str, deref_non, deref_tup, deref_lst, deref_fn, deref_frz, deref_r0, deref_r1, deref_r2, T_bl, T_int, T_tup, T_lst, T_non, B_addI, B_addL, B_addT, B_subI, B_mulI, B_divI, B_modI, C_ltI, C_leI, C_gtI, C_geI, C_eqI, C_eqB, C_neB, C_neI, I_tup, I_lst, L_tup, L_lst, L_abs, L_max, L_min, L_int, L_tupL, L_tupT, L_listT, L_listL, L_listF, L_all, L_any, It_L, It_T, It_r1, It_r2, negO_int, intO_int, isNo, isBo, bindT, bindTs, setAll, atI_0, atI_1, atI_2, atI_3, get_0, get_1, get_2, get_3, get_4, get_5, get_6, get_7, get_8, get_9, get_10, get_11, get_12, get_13, get_14, get_15, get_16, set_0, set_1, set_2, set_3, set_4, set_5, set_6, set_7, set_8, set_9, set_10, set_11, set_12, set_13, set_14, set_15, set_16, List.map_cons, List.map_nil, List.cons_append, List.nil_append, List.replicate_succ, List.replicate_zero, List.append_nil, List.length_cons, List.length_nil, if_true, if_false, Bool.not_true, Bool.not_false, Bool.false_eq_true, Nat.sub_self, Nat.reduceSub, Nat.reduceAdd, Nat.zero_add, Nat.reduceLeDiff, lim, and_true, true_and, decide_true, decide_false, PV.isRef, wipeE]
    cases v with
    | tup xs =>
      have hr := rgOk_nat (k := xs.length) (by have := h.1; omega)
      simp -dsimp only [d__law_same, b__law_same, S_done, S_asg, S_asgT, S_par, S_sub, S_expr, S_if, S_for, S_forB, S_ret, S_retN, E_var, E_cst, E_gl, E_yes, E_tup, E_lst, E_mkl, E_bin, E_mkb, E_neg, E_not, E_cmp, E_chain, E_isN, E_isB, E_and, E_or, E_ite, E_idx, E_rev, E_slc, P_non, P_cst, P_var, P_bin, P_neg, P_call, P_blt, E_call, E_blt, E_mkt, E_isi, E_app, Es_nil, Es_cons, E_T, E_alloc, E_lc, E_mkc, LC_nil, LC_cons, LC_B, lcQ, accO, bls, Option.map_some, List.all_cons, List.all_nil, id_eq, Bool.and_true, OkO_some, OkI_t, OkI_f, Ok_ok, OkS_next, OkS_ret, deref_int, deref_bl, deref_str, deref_non, deref_tup, deref_lst, deref_fn, deref_frz, deref_r0, deref_r1, deref_r2, T_bl, T_int, T_tup, T_lst, T_non, B_addI, B_addL, B_addT, B_subI, B_mulI, B_divI, B_modI, C_ltI, C_leI, C_gtI, C_geI, C_eqI, C_eqB, C_neB, C_neI, I_tup, I_lst, L_tup, L_lst, L_abs, L_max, L_min, L_int, L_tupL, L_tupT, L_listT, L_listL, L_listF, L_all, L_any, It_L, It_T, It_r1, It_r2, negO_int, intO_int, isNo, isBo, bindT, bindTs, setAll, atI_0, atI_1, atI_2, atI_3, get_0, get_1, get_2, get_3, get_4, get_5, get_6, get_7, get_8, get_9, get_10, get_11, get_12, get_13, get_14, get_15, get_16, set_0, set_1, set_2, set_3, set_4, set_5, set_6, set_7, set_8, set_9, set_10, set_11, set_12, set_13, set_14, set_15, set_16, List.map_cons, List.map_nil, List.cons_append, List.nil_append, List.replicate_succ, List.replicate_zero, List.append_nil, List.length_cons, List.length_nil, if_true, if_false, Bool.not_true, Bool.not_false, Bool.false_eq_true, Nat.sub_self, Nat.reduceSub, Nat.reduceAdd, Nat.zero_add, Nat.reduceLeDiff, lim, and_true, true_and, decide_true, decide_false, PV.isRef, wipeE, isTy, tyOk, bne_self_eq_false, hr]
      refine (seq .tup xs (.inl rfl) h.1 h.2).mono fun acc st' ⟨e1, e2⟩ => ?_
      subst e1 e2
      simp -dsimp only [S_done, S_asg, S_asgT, S_par, S_sub, S_expr, S_if, S_for, S_forB, S_ret, S_retN, E_var, E_cst, E_gl, E_yes, E_tup, E_lst, E_mkl, E_bin, E_mkb, E_neg, E_not, E_cmp, E_chain, E_isN, E_isB, E_and, E_or, E_ite, E_idx, E_rev, E_slc, P_non, P_cst, P_var, P_bin, P_neg, P_call, P_blt, E_call, E_blt, E_mkt, E_isi, E_app, Es_nil, Es_cons, E_T, E_alloc, E_lc, E_mkc, LC_nil, LC_cons, LC_B, lcQ, accO, bls, Option.map_some, List.all_cons, List.all_nil, id_eq, Bool.and_true, OkO_some, OkI_t, OkI_f, Ok_ok, OkS_next, OkS_ret, deref_int, deref_bl, deref_str, deref_non, deref_tup, deref_lst, deref_fn, deref_frz, deref_r0, deref_r1, deref_r2, T_bl, T_int, T_tup, T_lst, T_non, B_addI, B_addL, B_addT, B_subI, B_mulI, B_divI, B_modI, C_ltI, C_leI, C_gtI, C_geI, C_eqI, C_eqB, C_neB, C_neI, I_tup, I_lst, L_tup, L_lst, L_abs, L_max, L_min, L_int, L_tupL, L_tupT, L_listT, L_listL, L_listF, L_all, L_any, It_L, It_T, It_r1, It_r2, negO_int, intO_int, isNo, isBo, bindT, bindTs, setAll, atI_0, atI_1, atI_2, atI_3, get_0, get_1, get_2, get_3, get_4, get_5, get_6, get_7, get_8, get_9, get_10, get_11, get_12, get_13, get_14, get_15, get_16, set_0, set_1, set_2, set_3, set_4, set_5, set_6, set_7, set_8, set_9, set_10, set_11, set_12, set_13, set_14, set_15, set_16, List.map_cons, List.map_nil, List.cons_append, List.nil_append, List.replicate_succ, List.replicate_zero, List.append_nil, List.length_cons, List.length_nil, if_true, if_false, Bool.not_true, Bool.not_false, Bool.false_eq_true, Nat.sub_self, Nat.reduceSub, Nat.reduceAdd, Nat.zero_add, Nat.reduceLeDiff, lim, and_true, true_and, decide_true, decide_false, PV.isRef, wipeE, C_eqNil]
    | lst xs =>
      have hr := rgOk_nat (k := xs.length) (by have := h.1; omega)
      simp -dsimp only [d__law_same, b__law_same, S_done, S_asg, S_asgT, S_par, S_sub, S_expr, S_if, S_for, S_forB, S_ret, S_retN, E_var, E_cst, E_gl, E_yes, E_tup, E_lst, E_mkl, E_bin, E_mkb, E_neg, E_not, E_cmp, E_chain, E_isN, E_isB, E_and, E_or, E_ite, E_idx, E_rev, E_slc, P_non, P_cst, P_var, P_bin, P_neg, P_call, P_blt, E_call, E_blt, E_mkt, E_isi, E_app, Es_nil, Es_cons, E_T, E_alloc, E_lc, E_mkc, LC_nil, LC_cons, LC_B, lcQ, accO, bls, Option.map_some, List.all_cons, List.all_nil, id_eq, Bool.and_true, OkO_some, OkI_t, OkI_f, Ok_ok, OkS_next, OkS_ret, deref_int, deref_bl, deref_str, deref_non, deref_tup, deref_lst, deref_fn, deref_frz, deref_r0, deref_r1, deref_r2, T_bl, T_int, T_tup, T_lst, T_non, B_addI, B_addL, B_addT, B_subI, B_mulI, B_divI, B_modI, C_ltI, C_leI, C_gtI, C_geI, C_eqI, C_eqB, C_neB, C_neI, I_tup, I_lst, L_tup, L_lst, L_abs, L_max, L_min, L_int, L_tupL, L_tupT, L_listT, L_listL, L_listF, L_all, L_any, It_L, It_T, It_r1, It_r2, negO_int, intO_int, isNo, isBo, bindT, bindTs, setAll, atI_0, atI_1, atI_2, atI_3, get_0, get_1, get_2, get_3, get_4, get_5, get_6, get_7, get_8, get_9, get_10, get_11, get_12, get_13, get_14, get_15, get_16, set_0, set_1, set_2, set_3, set_4, set_5, set_6, set_7, set_8, set_9, set_10, set_11, set_12, set_13, set_14, set_15, set_16, List.map_cons, List.map_nil, List.cons_append, List.nil_append, List.replicate_succ, List.replicate_zero, List.append_nil, List.length_cons, List.length_nil, if_true, if_false, Bool.not_true, Bool.not_false, Bool.false_eq_true, Nat.sub_self, Nat.reduceSub, Nat.reduceAdd, Nat.zero_add, Nat.reduceLeDiff, lim, and_true, true_and, decide_true, decide_false, PV.isRef, wipeE, isTy, tyOk, bne_self_eq_false, hr]
      refine (seq .lst xs (.inr rfl) h.1 h.2).mono fun acc st' ⟨e1, e2⟩ => ?_
      subst e1 e2
      simp -dsimp only [S_done, S_asg, S_asgT, S_par, S_sub, S_expr, S_if, S_for, S_forB, S_ret, S_retN, E_var, E_cst, E_gl, E_yes, E_tup, E_lst, E_mkl, E_bin, E_mkb, E_neg, E_not, E_cmp, E_chain, E_isN, E_isB, E_and, E_or, E_ite, E_idx, E_rev, E_slc, P_non, P_cst, P_var, P_bin, P_neg, P_call, P_blt, E_call, E_blt, E_mkt, E_isi, E_app, Es_nil, Es_cons, E_T, E_alloc, E_lc, E_mkc, LC_nil, LC_cons, LC_B, lcQ, accO, bls, Option.map_some, List.all_cons, List.all_nil, id_eq, Bool.and_true, OkO_some, OkI_t, OkI_f, Ok_ok, OkS_next, OkS_ret, deref_int, deref_bl, deref_str, deref_non, deref_tup, deref_lst, deref_fn, deref_frz, deref_r0, deref_r1, deref_r2, T_bl, T_int, T_tup, T_lst, T_non, B_addI, B_addL, B_addT, B_subI, B_mulI, B_divI, B_modI, C_ltI, C_leI, C_gtI, C_geI, C_eqI, C_eqB, C_neB, C_neI, I_tup, I_lst, L_tup, L_lst, L_abs, L_max, L_min, L_int, L_tupL, L_tupT, L_listT, L_listL, L_listF, L_all, L_any, It_L, It_T, It_r1, It_r2, negO_int, intO_int, isNo, isBo, bindT, bindTs, setAll, atI_0, atI_1, atI_2, atI_3, get_0, get_1, get_2, get_3, get_4, get_5, get_6, get_7, get_8, get_9, get_10, get_11, get_12, get_13, get_14, get_15, get_16, set_0, set_1, set_2, set_3, set_4, set_5, set_6, set_7, set_8, set_9, set_10, set_11, set_12, set_13, set_14, set_15, set_16, List.map_cons, List.map_nil, List.cons_append, List.nil_append, List.replicate_succ, List.replicate_zero, List.append_nil, List.length_cons, List.length_nil, if_true, if_false, Bool.not_true, Bool.not_false, Bool.false_eq_true, Nat.sub_self, Nat.reduceSub, Nat.reduceAdd, Nat.zero_add, Nat.reduceLeDiff, lim, and_true, true_and, decide_true, decide_false, PV.isRef, wipeE, C_eqNil]
    | int i => simp -dsimp only [d__law_same, b__law_same, S_done, S_asg, S_asgT, S_par, S_sub, S_expr, S_if, S_for, S_forB, S_ret, S_retN, E_var, E_cst, E_gl, E_yes, E_tup, E_lst, E_mkl, E_bin, E_mkb, E_neg, E_not, E_cmp, E_chain, E_isN, E_isB, E_and, E_or, E_ite, E_idx, E_rev, E_slc, P_non, P_cst, P_var, P_bin, P_neg, P_call, P_blt, E_call, E_blt, E_mkt, E_isi, E_app, Es_nil, Es_cons, E_T, E_alloc, E_lc, E_mkc, LC_nil, LC_cons, LC_B, lcQ, accO, bls, Option.map_some, List.all_cons, List.all_nil, id_eq, Bool.and_true, OkO_some, OkI_t, OkI_f, Ok_ok, OkS_next, OkS_ret, deref_int, deref_bl, deref_str, deref_non, deref_tup, deref_lst, deref_fn, deref_frz, deref_r0, deref_r1, deref_r2, T_bl, T_int, T_tup, T_lst, T_non, B_addI, B_addL, B_addT, B_subI, B_mulI, B_divI, B_modI, C_ltI, C_leI, C_gtI, C_geI, C_eqI, C_eqB, C_neB, C_neI, I_tup, I_lst, L_tup, L_lst, L_abs, L_max, L_min, L_int, L_tupL, L_tupT, L_listT, L_listL, L_listF, L_all, L_any, It_L, It_T, It_r1, It_r2, negO_int, intO_int, isNo, isBo, bindT, bindTs, setAll, atI_0, atI_1, atI_2, atI_3, get_0, get_1, get_2, get_3, get_4, get_5, get_6, get_7, get_8, get_9, get_10, get_11, get_12, get_13, get_14, get_15, get_16, set_0, set_1, set_2, set_3, set_4, set_5, set_6, set_7, set_8, set_9, set_10, set_11, set_12, set_13, set_14, set_15, set_16, List.map_cons, List.map_nil, List.cons_append, List.nil_append, List.replicate_succ, List.replicate_zero, List.append_nil, List.length_cons, List.length_nil, if_true, if_false, Bool.not_true, Bool.not_false, Bool.false_eq_true, Nat.sub_self, Nat.reduceSub, Nat.reduceAdd, Nat.zero_add, Nat.reduceLeDiff, lim, and_true, true_and, decide_true, decide_false, PV.isRef, wipeE, isTy, tyOk]
    | bl b => cases b <;> simp -dsimp only [d__law_same, b__law_same, S_done, S_asg, S_asgT, S_par, S_sub, S_expr, S_if, S_for, S_forB, S_ret, S_retN, E_var, E_cst, E_gl, E_yes, E_tup, E_lst, E_mkl, E_bin, E_mkb, E_neg, E_not, E_cmp, E_chain, E_isN, E_isB, E_and, E_or, E_ite, E_idx, E_rev, E_slc, P_non, P_cst, P_var, P_bin, P_neg, P_call, P_blt, E_call, E_blt, E_mkt, E_isi, E_app, Es_nil, Es_cons, E_T, E_alloc, E_lc, E_mkc, LC_nil, LC_cons, LC_B, lcQ, accO, bls, Option.map_some, List.all_cons, List.all_nil, id_eq, Bool.and_true, OkO_some, OkI_t, OkI_f, Ok_ok, OkS_next, OkS_ret, deref_int, deref_bl, deref_str, deref_non, deref_tup, deref_lst, deref_fn, deref_frz, deref_r0, deref_r1, deref_r2, T_bl, T_int, T_tup, T_lst, T_non, B_addI, B_addL, B_addT, B_subI, B_mulI, B_divI, B_modI, C_ltI, C_leI, C_gtI, C_geI, C_eqI, C_eqB, C_neB, C_neI, I_tup, I_lst, L_tup, L_lst, L_abs, L_max, L_min, L_int, L_tupL, L_tupT, L_listT, L_listL, L_listF, L_all, L_any, It_L, It_T, It_r1, It_r2, negO_int, intO_int, isNo, isBo, bindT, bindTs, setAll, atI_0, atI_1, atI_2, atI_3, get_0, get_1, get_2, get_3, get_4, get_5, get_6, get_7, get_8, get_9, get_10, get_11, get_12, get_13, get_14, get_15, get_16, set_0, set_1, set_2, set_3, set_4, set_5, set_6, set_7, set_8, set_9, set_10, set_11, set_12, set_13, set_14, set_15, set_16, List.map_cons, List.map_nil, List.cons_append, List.nil_append, List.replicate_succ, List.replicate_zero, List.append_nil, List.length_cons, List.length_nil, if_true, if_false, Bool.not_true, Bool.not_false, Bool.false_eq_true, Nat.sub_self, Nat.reduceSub, Nat.reduceAdd, Nat.zero_add, Nat.reduceLeDiff, lim, and_true, true_and, decide_true, decide_false, PV.isRef, wipeE, isTy, tyOk]
    | non => simp -dsimp only [d__law_same, b__law_same, S_done, S_asg, S_asgT, S_par, S_sub, S_expr, S_if, S_for, S_forB, S_ret, S_retN, E_var, E_cst, E_gl, E_yes, E_tup, E_lst, E_mkl, E_bin, E_mkb, E_neg, E_not, E_cmp, E_chain, E_isN, E_isB, E_and, E_or, E_ite, E_idx, E_rev, E_slc, P_non, P_cst, P_var, P_bin, P_neg, P_call, P_blt, E_call, E_blt, E_mkt, E_isi, E_app, Es_nil, Es_cons, E_T, E_alloc, E_lc, E_mkc, LC_nil, LC_cons, LC_B, lcQ, accO, bls, Option.map_some, List.all_cons, List.all_nil, id_eq, Bool.and_true, OkO_some, OkI_t, OkI_f, Ok_ok, OkS_next, OkS_ret, deref_int, deref_bl, deref_str, deref_non, deref_tup, deref_lst, deref_fn, deref_frz, deref_r0, deref_r1, deref_r2, T_bl, T_int, T_tup, T_lst, T_non, B_addI, B_addL, B_addT, B_subI, B_mulI, B_divI, B_modI, C_ltI, C_leI, C_gtI, C_geI, C_eqI, C_eqB, C_neB, C_neI, I_tup, I_lst, L_tup, L_lst, L_abs, L_max, L_min, L_int, L_tupL, L_tupT, L_listT, L_listL, L_listF, L_all, L_any, It_L, It_T, It_r1, It_r2, negO_int, intO_int, isNo, isBo, bindT, bindTs, setAll, atI_0, atI_1, atI_2, atI_3, get_0, get_1, get_2, get_3, get_4, get_5, get_6, get_7, get_8, get_9, get_10, get_11, get_12, get_13, get_14, get_15, get_16, set_0, set_1, set_2, set_3, set_4, set_5, set_6, set_7, set_8, set_9, set_10, set_11, set_12, set_13, set_14, set_15, set_16, List.map_cons, List.map_nil, List.cons_append, List.nil_append, List.replicate_succ, List.replicate_zero, List.append_nil, List.length_cons, List.length_nil, if_true, if_false, Bool.not_true, Bool.not_false, Bool.false_eq_true, Nat.sub_self, Nat.reduceSub, Nat.reduceAdd, Nat.zero_add, Nat.reduceLeDiff, lim, and_true, true_and, decide_true, decide_false, PV.isRef, wipeE, isTy, tyOk]
    | _ => exact h.elim
theorem lw_same1 {v : PV} {n : Nat} (hn : 10 ≤ n) (h : niceP 10 v) : callN Tb W n i__law_same [v, v] st = .ok (.bl true) st := lw_same 10 v h n hn
end

end Ev.K83
end
section
set_option Elab.async false
set_option linter.all false
set_option maxRecDepth 100000
set_option maxHeartbeats 4000000
set_option exponentiation.threshold 5000
namespace Ev.K83
open PySem L2
variable {Tb : List Fd} [IsTab Tb]
section
variable {W n : Nat} {st : Store}
structure dsc (far a b : Int) : Prop where
  l : -far ≤ a
  m : a < b
  h : b ≤ far
theorem dsc.fsc {far a b : Int} (h : dsc far a b) (f : far ≤ 1000) : fsc a b := ⟨by have := h.l; omega, h.m, by have := h.h; omega⟩
theorem lw_scale {far : Int} (hn : 2 ≤ n) (f0 : 1 ≤ far) (f1 : far ≤ 1000) (hc : CupI st) : Okp (callN Tb W n i__law_scale [.ref 0, .int far] st) fun r st' => ∃ a b, r = scv a b ∧ dsc far a b ∧ CupI st' := by
  obtain ⟨n, rfl⟩ : ∃ m, n = m + 1 := ⟨n - 1, by omega⟩
  refine call_ok T__law_scale rfl ?_
  simp -dsimp (disch := first | (refine OM.mk ?_; first | omega | assumption | rfl) | ((fail_if_success refine OM.mk ?_); first | assumption | omega | exact deref_int | exact ty_int | exact deref_tup | exact ty_tup | exact D_shr | exact ty_shr | exact deref_bl | exact ty_bl | exact deref_non | exact ty_non | exact deref_str | exact ty_str | exact deref_lst | exact ty_lst | (refine mulOk_sz ?_ ?_ <;> (repeat' (first | exact Sz.mono (by assumption) (by decide) | exact Sz.mono (B.n (by assumption)) (by decide) | exact Sz.mono (B.d (by assumption)) (by decide) | exact Sz.of (m := 1000000000000) (by omega) (by decide) | exact Sz.of (m := 1000000) (by omega) (by decide) | exact B.mono (by assumption) (by decide) | exact ⟨Sz.of (m := 1000000000000) (by omega) (by decide), Sz.of (m := 1000000000000) (by omega) (by decide)⟩ | apply Sz.mul2 | (refine Sz.add2 ?_ ?_ (by decide)) | (refine Sz.sub2 ?_ ?_ (by decide)) | apply Sz.neg | apply B.mul2 | (refine B.add2 ?_ ?_ (by decide)) | (refine B.sub2 ?_ ?_ (by decide)) | apply B.neg)); done) | (refine nice_ok ?_; (repeat' (first | exact nice_shr | exact nice_spt | exact nice_mpv | exact nice_int | exact nice_bl | exact nice_non | exact nicel_nil | refine nicel_cons ?_ ?_ | refine nice_tup (by simp) ?_ | refine nice_lst (by simp) ?_)); done) | ((repeat' (first | exact Sz.mono (by assumption) (by decide) | exact Sz.mono (B.n (by assumption)) (by decide) | exact Sz.mono (B.d (by assumption)) (by decide) | exact Sz.of (m := 1000000000000) (by omega) (by decide) | exact Sz.of (m := 1000000) (by omega) (by decide) | exact B.mono (by assumption) (by decide) | exact ⟨Sz.of (m := 1000000000000) (by omega) (by decide), Sz.of (m := 1000000000000) (by omega) (by decide)⟩ | apply Sz.mul2 | (refine Sz.add2 ?_ ?_ (by decide)) | (refine Sz.sub2 ?_ ?_ (by decide)) | apply Sz.neg | apply B.mul2 | (refine B.add2 ?_ ?_ (by decide)) | (refine B.sub2 ?_ ?_ (by decide)) | apply B.neg)); done) | (unfold tB; simp; done) | decide)) only [d__law_scale, b__law_scale, S_done, S_asg, S_asgT, S_par, S_sub, S_expr, S_if, S_for, S_forB, S_ret, S_retN, E_var, E_cst, E_gl, E_yes, E_tup, E_lst, E_mkl, E_bin, E_mkb, E_neg, E_not, E_cmp, E_chain, E_isN, E_isB, E_and, E_or, E_ite, E_idx, E_rev, E_slc, P_non, P_cst, P_var, P_bin, P_neg, P_call, P_blt, E_call, E_blt, E_mkt, E_isi, E_app, Es_nil, Es_cons, E_T, E_alloc, E_lc, E_mkc, LC_nil, LC_cons, LC_B, lcQ, accO, bls, Option.map_some, List.all_cons, List.all_nil, id_eq, Bool.and_true, OkO_some, OkI_t, OkI_f, Ok_ok, OkS_next, OkS_ret, deref_int, deref_bl, deref_str, deref_non, deref_tup, deref_lst, deref_fn, deref_frz, deref_r0, deref_r1, deref_r2, T_bl, T_int, T_tup, T_lst, T_non, B_addI, B_addL, B_addT, B_subI, C_ltI, C_leI, C_gtI, C_geI, C_eqI, C_eqB, C_neB, C_neI, I_tup, I_lst, L_tup, L_lst, L_abs, L_max, L_min, L_int, L_tupL, L_tupT, L_listT, L_listL, L_listF, L_all, L_any, It_L, It_T, It_r1, It_r2, negO_int, intO_int, isBo, setAll, atI_0, atI_1, atI_2, atI_3, get_0, get_1, get_2, get_3, get_4, get_5, get_6, get_7, get_8, get_9, get_10, get_11, get_12, get_13, get_14, get_15, get_16, set_0, set_1, set_2, set_3, set_4, set_5, set_6, set_7, set_8, set_9, set_10, set_11, set_12, set_13, set_14, set_15, set_16, List.map_cons, List.map_nil, List.cons_append, List.nil_append, List.replicate_succ, List.replicate_zero, List.append_nil, List.length_cons, List.length_nil, if_true, if_false, Bool.not_true, Bool.not_false, Bool.false_eq_true, Nat.sub_self, Nat.reduceSub, Nat.reduceAdd, Nat.zero_add, Nat.reduceLeDiff, lim, and_true, true_and, decide_true, decide_false, PV.isRef, wipeE, B_mulI', B_divI', B_modI', decT, decF, I_shr0, I_shr1, D_shr, OkS_for_nil, C_eqR, C_neR, C_eqNil, C_neNil, C_eqI1, C_eqI2, C_eqB1, Rv_tup, Rv_lst, List.reverse_cons, List.reverse_nil, isTy, isNo_shr, isNo_tup, isNo_non, isNo_int, isNo_bl, isNo_str, isNo_lst, isNo_ref, bne_self_eq_false, Bool.bne_true, Bool.bne_false, Bool.true_bne, Bool.false_bne, bindT_nm, bindT_tp, bindT_shr, bindTs_nil, bindTs_cons, Option.bind_some, Int.toNat_natCast, get_17, set_17, get_18, set_18, get_19, set_19, get_20, set_20, E_sst, E_lrg, Rg_l, Rg_t, L_sum, inl, get_21, set_21, get_22, set_22, get_23, set_23, get_24, set_24, get_25, set_25, get_26, set_26, get_27, set_27, get_28, set_28, get_29, set_29, get_30, set_30, E_ktp, E_cnt]
  refine (lw_roll (by omega) (by omega) (Sz.of (m := 2000) (by omega) (by decide)) hc).to fun r st1 ⟨i, e, i0, i1, hc1⟩ => ?_
  subst e
  simp -dsimp (disch := first | (refine OM.mk ?_; first | omega | assumption | rfl) | ((fail_if_success refine OM.mk ?_); first | assumption | omega | exact deref_int | exact ty_int | exact deref_tup | exact ty_tup | exact D_shr | exact ty_shr | exact deref_bl | exact ty_bl | exact deref_non | exact ty_non | exact deref_str | exact ty_str | exact deref_lst | exact ty_lst | (refine mulOk_sz ?_ ?_ <;> (repeat' (first | exact Sz.mono (by assumption) (by decide) | exact Sz.mono (B.n (by assumption)) (by decide) | exact Sz.mono (B.d (by assumption)) (by decide) | exact Sz.of (m := 1000000000000) (by omega) (by decide) | exact Sz.of (m := 1000000) (by omega) (by decide) | exact B.mono (by assumption) (by decide) | exact ⟨Sz.of (m := 1000000000000) (by omega) (by decide), Sz.of (m := 1000000000000) (by omega) (by decide)⟩ | apply Sz.mul2 | (refine Sz.add2 ?_ ?_ (by decide)) | (refine Sz.sub2 ?_ ?_ (by decide)) | apply Sz.neg | apply B.mul2 | (refine B.add2 ?_ ?_ (by decide)) | (refine B.sub2 ?_ ?_ (by decide)) | apply B.neg)); done) | (refine nice_ok ?_; (repeat' (first | exact nice_shr | exact nice_spt | exact nice_mpv | exact nice_int | exact nice_bl | exact nice_non | exact nicel_nil | refine nicel_cons ?_ ?_ | refine nice_tup (by simp) ?_ | refine nice_lst (by simp) ?_)); done) | ((repeat' (first | exact Sz.mono (by assumption) (by decide) | exact Sz.mono (B.n (by assumption)) (by decide) | exact Sz.mono (B.d (by assumption)) (by decide) | exact Sz.of (m := 1000000000000) (by omega) (by decide) | exact Sz.of (m := 1000000) (by omega) (by decide) | exact B.mono (by assumption) (by decide) | exact ⟨Sz.of (m := 1000000000000) (by omega) (by decide), Sz.of (m := 1000000000000) (by omega) (by decide)⟩ | apply Sz.mul2 | (refine Sz.add2 ?_ ?_ (by decide)) | (refine Sz.sub2 ?_ ?_ (by decide)) | apply Sz.neg | apply B.mul2 | (refine B.add2 ?_ ?_ (by decide)) | (refine B.sub2 ?_ ?_ (by decide)) | apply B.neg)); done) | (unfold tB; simp; done) | decide)) only [S_done, S_asg, S_asgT, S_par, S_sub, S_expr, S_if, S_for, S_forB, S_ret, S_retN, E_var, E_cst, E_gl, E_yes, E_tup, E_lst, E_mkl, E_bin, E_mkb, E_neg, E_not, E_cmp, E_chain, E_isN, E_isB, E_and, E_or, E_ite, E_idx, E_rev, E_slc, P_non, P_cst, P_var, P_bin, P_neg, P_call, P_blt, E_call, E_blt, E_mkt, E_isi, E_app, Es_nil, Es_cons, E_T, E_alloc, E_lc, E_mkc, LC_nil, LC_cons, LC_B, lcQ, accO, bls, Option.map_some, List.all_cons, List.all_nil, id_eq, Bool.and_true, OkO_some, OkI_t, OkI_f, Ok_ok, OkS_next, OkS_ret, deref_int, deref_bl, deref_str, deref_non, deref_tup, deref_lst, deref_fn, deref_frz, deref_r0, deref_r1, deref_r2, T_bl, T_int, T_tup, T_lst, T_non, B_addI, B_addL, B_addT, B_subI, C_ltI, C_leI, C_gtI, C_geI, C_eqI, C_eqB, C_neB, C_neI, I_tup, I_lst, L_tup, L_lst, L_abs, L_max, L_min, L_int, L_tupL, L_tupT, L_listT, L_listL, L_listF, L_all, L_any, It_L, It_T, It_r1, It_r2, negO_int, intO_int, isBo, setAll, atI_0, atI_1, atI_2, atI_3, get_0, get_1, get_2, get_3, get_4, get_5, get_6, get_7, get_8, get_9, get_10, get_11, get_12, get_13, get_14, get_15, get_16, set_0, set_1, set_2, set_3, set_4, set_5, set_6, set_7, set_8, set_9, set_10, set_11, set_12, set_13, set_14, set_15, set_16, List.map_cons, List.map_nil, List.cons_append, List.nil_append, List.replicate_succ, List.replicate_zero, List.append_nil, List.length_cons, List.length_nil, if_true, if_false, Bool.not_true, Bool.not_false, Bool.false_eq_true, Nat.sub_self, Nat.reduceSub, Nat.reduceAdd, Nat.zero_add, Nat.reduceLeDiff, lim, and_true, true_and, decide_true, decide_false, PV.isRef, wipeE, B_mulI', B_divI', B_modI', decT, decF, I_shr0, I_shr1, D_shr, OkS_for_nil, C_eqR, C_neR, C_eqNil, C_neNil, C_eqI1, C_eqI2, C_eqB1, Rv_tup, Rv_lst, List.reverse_cons, List.reverse_nil, isTy, isNo_shr, isNo_tup, isNo_non, isNo_int, isNo_bl, isNo_str, isNo_lst, isNo_ref, bne_self_eq_false, Bool.bne_true, Bool.bne_false, Bool.true_bne, Bool.false_bne, bindT_nm, bindT_tp, bindT_shr, bindTs_nil, bindTs_cons, Option.bind_some, Int.toNat_natCast, get_17, set_17, get_18, set_18, get_19, set_19, get_20, set_20, E_sst, E_lrg, Rg_l, Rg_t, L_sum, inl, get_21, set_21, get_22, set_22, get_23, set_23, get_24, set_24, get_25, set_25, get_26, set_26, get_27, set_27, get_28, set_28, get_29, set_29, get_30, set_30, E_ktp, E_cnt]
  refine (lw_roll (by omega) (by omega) (Sz.of (m := 4000) (by omega) (by decide)) hc1).to fun r st2 ⟨j, e, j0, j1, hc2⟩ => ?_
  subst e
  simp -dsimp (disch := first | (refine OM.mk ?_; first | omega | assumption | rfl) | ((fail_if_success refine OM.mk ?_); first | assumption | omega | exact deref_int | exact ty_int | exact deref_tup | exact ty_tup | exact D_shr | exact ty_shr | exact deref_bl | exact ty_bl | exact deref_non | exact ty_non | exact deref_str | exact ty_str | exact deref_lst | exact ty_lst | (refine mulOk_sz ?_ ?_ <;> (repeat' (first | exact Sz.mono (by assumption) (by decide) | exact Sz.mono (B.n (by assumption)) (by decide) | exact Sz.mono (B.d (by assumption)) (by decide) | exact Sz.of (m := 1000000000000) (by omega) (by decide) | exact Sz.of (m := 1000000) (by omega) (by decide) | exact B.mono (by assumption) (by decide) | exact ⟨Sz.of (m := 1000000000000) (by omega) (by decide), Sz.of (m := 1000000000000) (by omega) (by decide)⟩ | apply Sz.mul2 | (refine Sz.add2 ?_ ?_ (by decide)) | (refine Sz.sub2 ?_ ?_ (by decide)) | apply Sz.neg | apply B.mul2 | (refine B.add2 ?_ ?_ (by decide)) | (refine B.sub2 ?_ ?_ (by decide)) | apply B.neg)); done) | (refine nice_ok ?_; (repeat' (first | exact nice_shr | exact nice_spt | exact nice_mpv | exact nice_int | exact nice_bl | exact nice_non | exact nicel_nil | refine nicel_cons ?_ ?_ | refine nice_tup (by simp) ?_ | refine nice_lst (by simp) ?_)); done) | ((repeat' (first | exact Sz.mono (by assumption) (by decide) | exact Sz.mono (B.n (by assumption)) (by decide) | exact Sz.mono (B.d (by assumption)) (by decide) | exact Sz.of (m := 1000000000000) (by omega) (by decide) | exact Sz.of (m := 1000000) (by omega) (by decide) | exact B.mono (by assumption) (by decide) | exact ⟨Sz.of (m := 1000000000000) (by omega) (by decide), Sz.of (m := 1000000000000) (by omega) (by decide)⟩ | apply Sz.mul2 | (refine Sz.add2 ?_ ?_ (by decide)) | (refine Sz.sub2 ?_ ?_ (by decide)) | apply Sz.neg | apply B.mul2 | (refine B.add2 ?_ ?_ (by decide)) | (refine B.sub2 ?_ ?_ (by decide)) | apply B.neg)); done) | (unfold tB; simp; done) | decide)) only [S_done, S_asg, S_asgT, S_par, S_sub, S_expr, S_if, S_for, S_forB, S_ret, S_retN, E_var, E_cst, E_gl, E_yes, E_tup, E_lst, E_mkl, E_bin, E_mkb, E_neg, E_not, E_cmp, E_chain, E_isN, E_isB, E_and, E_or, E_ite, E_idx, E_rev, E_slc, P_non, P_cst, P_var, P_bin, P_neg, P_call, P_blt, E_call, E_blt, E_mkt, E_isi, E_app, Es_nil, Es_cons, E_T, E_alloc, E_lc, E_mkc, LC_nil, LC_cons, LC_B, lcQ, accO, bls, Option.map_some, List.all_cons, List.all_nil, id_eq, Bool.and_true, OkO_some, OkI_t, OkI_f, Ok_ok, OkS_next, OkS_ret, deref_int, deref_bl, deref_str, deref_non, deref_tup, deref_lst, deref_fn, deref_frz, deref_r0, deref_r1, deref_r2, T_bl, T_int, T_tup, T_lst, T_non, B_addI, B_addL, B_addT, B_subI, C_ltI, C_leI, C_gtI, C_geI, C_eqI, C_eqB, C_neB, C_neI, I_tup, I_lst, L_tup, L_lst, L_abs, L_max, L_min, L_int, L_tupL, L_tupT, L_listT, L_listL, L_listF, L_all, L_any, It_L, It_T, It_r1, It_r2, negO_int, intO_int, isBo, setAll, atI_0, atI_1, atI_2, atI_3, get_0, get_1, get_2, get_3, get_4, get_5, get_6, get_7, get_8, get_9, get_10, get_11, get_12, get_13, get_14, get_15, get_16, set_0, set_1, set_2, set_3, set_4, set_5, set_6, set_7, set_8, set_9, set_10, set_11, set_12, set_13, set_14, set_15, set_16, List.map_cons, List.map_nil, List.cons_append, List.nil_append, List.replicate_succ, List.replicate_zero, List.append_nil, List.length_cons, List.length_nil, if_true, if_false, Bool.not_true, Bool.not_false, Bool.false_eq_true, Nat.sub_self, Nat.reduceSub, Nat.reduceAdd, Nat.zero_add, Nat.reduceLeDiff, lim, and_true, true_and, decide_true, decide_false, PV.isRef, wipeE, B_mulI', B_divI', B_modI', decT, decF, I_shr0, I_shr1, D_shr, OkS_for_nil, C_eqR, C_neR, C_eqNil, C_neNil, C_eqI1, C_eqI2, C_eqB1, Rv_tup, Rv_lst, List.reverse_cons, List.reverse_nil, isTy, isNo_shr, isNo_tup, isNo_non, isNo_int, isNo_bl, isNo_str, isNo_lst, isNo_ref, bne_self_eq_false, Bool.bne_true, Bool.bne_false, Bool.true_bne, Bool.false_bne, bindT_nm, bindT_tp, bindT_shr, bindTs_nil, bindTs_cons, Option.bind_some, Int.toNat_natCast, get_17, set_17, get_18, set_18, get_19, set_19, get_20, set_20, E_sst, E_lrg, Rg_l, Rg_t, L_sum, inl, get_21, set_21, get_22, set_22, get_23, set_23, get_24, set_24, get_25, set_25, get_26, set_26, get_27, set_27, get_28, set_28, get_29, set_29, get_30, set_30, E_ktp, E_cnt]
  exact ⟨_, _, rfl, ⟨by omega, by omega, by omega⟩, hc.trunc hc2⟩
theorem way_eq' {a b : Int} {r : Rat} (h : a < b) : Rat.divInt (r.num - a * r.den) ((b - a) * r.den) = wayR a b r := by
  rw [Int.mul_comm (b - a), way_eq h]
theorem at_eq' {a b : Int} {w : Rat} : Rat.divInt (a * w.den + (b - a) * w.num) w.den = atR a b w := by
  rw [Int.mul_comm (b - a), at_eq]
theorem turn_eq {a b c d : Int} {r : Rat} (h : a < b) : Rat.divInt ((r.num - a * r.den) * (d - c) + c * r.den * (b - a)) (r.den * (b - a)) = turnR a b c d r := by
  obtain ⟨er, nr⟩ := rat_form r
  have := sub_ne h
  unfold turnR wayR atR
  refine divInt_of (by simp only [Rat.intCast_mul, Rat.intCast_sub]; grind) ?_
  simp only [Rat.intCast_mul, Rat.intCast_sub, Rat.intCast_add, er]
  grind
theorem lw_turned_to {a b c d : Int} {r : Rat} (hn : 2 ≤ n) (hW : 5000 ≤ W) (h : a < b) (ha : Sz 20 a) (hb : Sz 20 b) (hc : Sz 20 c) (hd : Sz 20 d) (hr : B 300 r) : callN Tb W n i__law_turned_to [scv a b, scv c d, shr r] st = .ok (shr (turnR a b c d r)) st := by
  obtain ⟨n, rfl⟩ : ∃ m, n = m + 1 := ⟨n - 1, by omega⟩
  refine call_eq T__law_turned_to rfl ?_
  have hz : (r.den : Int) * (b - a) ≠ 0 := Int.ne_of_gt (Int.mul_pos (den_pos' r) (by omega))
  simp -dsimp (disch := first | (refine OM.mk ?_; first | omega | assumption | rfl) | ((fail_if_success refine OM.mk ?_); first | assumption | omega | exact deref_int | exact ty_int | exact deref_tup | exact ty_tup | exact D_shr | exact ty_shr | exact deref_bl | exact ty_bl | exact deref_non | exact ty_non | exact deref_str | exact ty_str | exact deref_lst | exact ty_lst | (refine mulOk_sz ?_ ?_ <;> (repeat' (first | exact Sz.mono (by assumption) (by decide) | exact Sz.mono (B.n (by assumption)) (by decide) | exact Sz.mono (B.d (by assumption)) (by decide) | exact Sz.of (m := 1000000000000) (by omega) (by decide) | exact Sz.of (m := 1000000) (by omega) (by decide) | exact B.mono (by assumption) (by decide) | exact ⟨Sz.of (m := 1000000000000) (by omega) (by decide), Sz.of (m := 1000000000000) (by omega) (by decide)⟩ | apply Sz.mul2 | (refine Sz.add2 ?_ ?_ (by decide)) | (refine Sz.sub2 ?_ ?_ (by decide)) | apply Sz.neg | apply B.mul2 | (refine B.add2 ?_ ?_ (by decide)) | (refine B.sub2 ?_ ?_ (by decide)) | apply B.neg)); done) | (refine nice_ok ?_; (repeat' (first | exact nice_shr | exact nice_spt | exact nice_mpv | exact nice_int | exact nice_bl | exact nice_non | exact nicel_nil | refine nicel_cons ?_ ?_ | refine nice_tup (by simp) ?_ | refine nice_lst (by simp) ?_)); done) | ((repeat' (first | exact Sz.mono (by assumption) (by decide) | exact Sz.mono (B.n (by assumption)) (by decide) | exact Sz.mono (B.d (by assumption)) (by decide) | exact Sz.of (m := 1000000000000) (by omega) (by decide) | exact Sz.of (m := 1000000) (by omega) (by decide) | exact B.mono (by assumption) (by decide) | exact ⟨Sz.of (m := 1000000000000) (by omega) (by decide), Sz.of (m := 1000000000000) (by omega) (by decide)⟩ | apply Sz.mul2 | (refine Sz.add2 ?_ ?_ (by decide)) | (refine Sz.sub2 ?_ ?_ (by decide)) | apply Sz.neg | apply B.mul2 | (refine B.add2 ?_ ?_ (by decide)) | (refine B.sub2 ?_ ?_ (by decide)) | apply B.neg)); done) | (unfold tB; simp; done) | decide)) only [d__law_turned_to, b__law_turned_to, S_done, S_asg, S_asgT, S_par, S_sub, S_expr, S_if, S_for, S_forB, S_ret, S_retN, E_var, E_cst, E_gl, E_yes, E_tup, E_lst, E_mkl, E_bin, E_mkb, E_neg, E_not, E_cmp, E_chain, E_isN, E_isB, E_and, E_or, E_ite, E_idx, E_rev, E_slc, P_non, P_cst, P_var, P_bin, P_neg, P_call, P_blt, E_call, E_blt, E_mkt, E_isi, E_app, Es_nil, Es_cons, E_T, E_alloc, E_lc, E_mkc, LC_nil, LC_cons, LC_B, lcQ, accO, bls, Option.map_some, List.all_cons, List.all_nil, id_eq, Bool.and_true, OkO_some, OkI_t, OkI_f, Ok_ok, OkS_next, OkS_ret, deref_int, deref_bl, deref_str, deref_non, deref_tup, deref_lst, deref_fn, deref_frz, deref_r0, deref_r1, deref_r2, T_bl, T_int, T_tup, T_lst, T_non, B_addI, B_addL, B_addT, B_subI, C_ltI, C_leI, C_gtI, C_geI, C_eqI, C_eqB, C_neB, C_neI, I_tup, I_lst, L_tup, L_lst, L_abs, L_max, L_min, L_int, L_tupL, L_tupT, L_listT, L_listL, L_listF, L_all, L_any, It_L, It_T, It_r1, It_r2, negO_int, intO_int, isBo, setAll, atI_0, atI_1, atI_2, atI_3, get_0, get_1, get_2, get_3, get_4, get_5, get_6, get_7, get_8, get_9, get_10, get_11, get_12, get_13, get_14, get_15, get_16, set_0, set_1, set_2, set_3, set_4, set_5, set_6, set_7, set_8, set_9, set_10, set_11, set_12, set_13, set_14, set_15, set_16, List.map_cons, List.map_nil, List.cons_append, List.nil_append, List.replicate_succ, List.replicate_zero, List.append_nil, List.length_cons, List.length_nil, if_true, if_false, Bool.not_true, Bool.not_false, Bool.false_eq_true, Nat.sub_self, Nat.reduceSub, Nat.reduceAdd, Nat.zero_add, Nat.reduceLeDiff, lim, and_true, true_and, decide_true, decide_false, PV.isRef, wipeE, B_mulI', B_divI', B_modI', decT, decF, I_shr0, I_shr1, D_shr, OkS_for_nil, C_eqR, C_neR, C_eqNil, C_neNil, C_eqI1, C_eqI2, C_eqB1, Rv_tup, Rv_lst, List.reverse_cons, List.reverse_nil, isTy, isNo_shr, isNo_tup, isNo_non, isNo_int, isNo_bl, isNo_str, isNo_lst, isNo_ref, bne_self_eq_false, Bool.bne_true, Bool.bne_false, Bool.true_bne, Bool.false_bne, bindT_nm, bindT_tp, bindT_shr, bindTs_nil, bindTs_cons, Option.bind_some, Int.toNat_natCast, get_17, set_17, get_18, set_18, get_19, set_19, get_20, set_20, E_sst, E_lrg, Rg_l, Rg_t, L_sum, inl, get_21, set_21, get_22, set_22, get_23, set_23, get_24, set_24, get_25, set_25, get_26, set_26, get_27, set_27, get_28, set_28, get_29, set_29, get_30, set_30, E_ktp, E_cnt, scv, lw_share, turn_eq]
end

end Ev.K83
end
section
set_option Elab.async false
set_option linter.all false
set_option maxRecDepth 100000
set_option maxHeartbeats 4000000
set_option exponentiation.threshold 5000
namespace Ev.K83
open PySem L2
variable {Tb : List Fd} [IsTab Tb]
section
variable {W n : Nat} {st : Store}
/-- the integer nearest to a share, of two the greater one -/
def nr (x : Rat) : Int := (2 * x.num + x.den) / (2 * x.den)
theorem sp_rounded {x : Rat} (hn : 1 ≤ n) (hx : B 900 x) : callN Tb W n i_rounded [shr x] st = .ok (.int (nr x)) st := by
  obtain ⟨n, rfl⟩ : ∃ m, n = m + 1 := ⟨n - 1, by omega⟩
  refine call_eq T_rounded rfl ?_
  have hp := den_pos' x
  have s2 : Sz 10 (2 : Int) := Sz.of (m := 2) (by decide) (by decide)
  have hd : divOk (2 * (x.den : Int)) = true := Sz.divOk (k := 910) ((s2.mul hx.d).mono) (by omega)
  simp -dsimp (disch := first | (refine OM.mk ?_; first | omega | assumption | rfl) | ((fail_if_success refine OM.mk ?_); first | assumption | omega | exact deref_int | exact ty_int | exact deref_tup | exact ty_tup | exact D_shr | exact ty_shr | exact deref_bl | exact ty_bl | exact deref_non | exact ty_non | exact deref_str | exact ty_str | exact deref_lst | exact ty_lst | (refine mulOk_sz ?_ ?_ <;> (repeat' (first | exact Sz.mono (by assumption) (by decide) | exact Sz.mono (B.n (by assumption)) (by decide) | exact Sz.mono (B.d (by assumption)) (by decide) | exact Sz.of (m := 1000000000000) (by omega) (by decide) | exact Sz.of (m := 1000000) (by omega) (by decide) | exact B.mono (by assumption) (by decide) | exact ⟨Sz.of (m := 1000000000000) (by omega) (by decide), Sz.of (m := 1000000000000) (by omega) (by decide)⟩ | apply Sz.mul2 | (refine Sz.add2 ?_ ?_ (by decide)) | (refine Sz.sub2 ?_ ?_ (by decide)) | apply Sz.neg | apply B.mul2 | (refine B.add2 ?_ ?_ (by decide)) | (refine B.sub2 ?_ ?_ (by decide)) | apply B.neg)); done) | (refine nice_ok ?_; (repeat' (first | exact nice_shr | exact nice_spt | exact nice_mpv | exact nice_int | exact nice_bl | exact nice_non | exact nicel_nil | refine nicel_cons ?_ ?_ | refine nice_tup (by simp) ?_ | refine nice_lst (by simp) ?_)); done) | ((repeat' (first | exact Sz.mono (by assumption) (by decide) | exact Sz.mono (B.n (by assumption)) (by decide) | exact Sz.mono (B.d (by assumption)) (by decide) | exact Sz.of (m := 1000000000000) (by omega) (by decide) | exact Sz.of (m := 1000000) (by omega) (by decide) | exact B.mono (by assumption) (by decide) | exact ⟨Sz.of (m := 1000000000000) (by omega) (by decide), Sz.of (m := 1000000000000) (by omega) (by decide)⟩ | apply Sz.mul2 | (refine Sz.add2 ?_ ?_ (by decide)) | (refine Sz.sub2 ?_ ?_ (by decide)) | apply Sz.neg | apply B.mul2 | (refine B.add2 ?_ ?_ (by decide)) | (refine B.sub2 ?_ ?_ (by decide)) | apply B.neg)); done) | (unfold tB; simp; done) | decide)) only [d_rounded, b_rounded, S_done, S_asg, S_asgT, S_par, S_sub, S_expr, S_if, S_for, S_forB, S_ret, S_retN, E_var, E_cst, E_gl, E_yes, E_tup, E_lst, E_mkl, E_bin, E_mkb, E_neg, E_not, E_cmp, E_chain, E_isN, E_isB, E_and, E_or, E_ite, E_idx, E_rev, E_slc, P_non, P_cst, P_var, P_bin, P_neg, P_call, P_blt, E_call, E_blt, E_mkt, E_isi, E_app, Es_nil, Es_cons, E_T, E_alloc, E_lc, E_mkc, LC_nil, LC_cons, LC_B, lcQ, accO, bls, Option.map_some, List.all_cons, List.all_nil, id_eq, Bool.and_true, OkO_some, OkI_t, OkI_f, Ok_ok, OkS_next, OkS_ret, deref_int, deref_bl, deref_str, deref_non, deref_tup, deref_lst, deref_fn, deref_frz, deref_r0, deref_r1, deref_r2, T_bl, T_int, T_tup, T_lst, T_non, B_addI, B_addL, B_addT, B_subI, C_ltI, C_leI, C_gtI, C_geI, C_eqI, C_eqB, C_neB, C_neI, I_tup, I_lst, L_tup, L_lst, L_abs, L_max, L_min, L_int, L_tupL, L_tupT, L_listT, L_listL, L_listF, L_all, L_any, It_L, It_T, It_r1, It_r2, negO_int, intO_int, isBo, setAll, atI_0, atI_1, atI_2, atI_3, get_0, get_1, get_2, get_3, get_4, get_5, get_6, get_7, get_8, get_9, get_10, get_11, get_12, get_13, get_14, get_15, get_16, set_0, set_1, set_2, set_3, set_4, set_5, set_6, set_7, set_8, set_9, set_10, set_11, set_12, set_13, set_14, set_15, set_16, List.map_cons, List.map_nil, List.cons_append, List.nil_append, List.replicate_succ, List.replicate_zero, List.append_nil, List.length_cons, List.length_nil, if_true, if_false, Bool.not_true, Bool.not_false, Bool.false_eq_true, Nat.sub_self, Nat.reduceSub, Nat.reduceAdd, Nat.zero_add, Nat.reduceLeDiff, lim, and_true, true_and, decide_true, decide_false, PV.isRef, wipeE, B_mulI', B_divI', B_modI', decT, decF, I_shr0, I_shr1, D_shr, OkS_for_nil, C_eqR, C_neR, C_eqNil, C_neNil, C_eqI1, C_eqI2, C_eqB1, Rv_tup, Rv_lst, List.reverse_cons, List.reverse_nil, isTy, isNo_shr, isNo_tup, isNo_non, isNo_int, isNo_bl, isNo_str, isNo_lst, isNo_ref, bne_self_eq_false, Bool.bne_true, Bool.bne_false, Bool.true_bne, Bool.false_bne, bindT_nm, bindT_tp, bindT_shr, bindTs_nil, bindTs_cons, Option.bind_some, Int.toNat_natCast, get_17, set_17, get_18, set_18, get_19, set_19, get_20, set_20, E_sst, E_lrg, Rg_l, Rg_t, L_sum, inl, get_21, set_21, get_22, set_22, get_23, set_23, get_24, set_24, get_25, set_25, get_26, set_26, get_27, set_27, get_28, set_28, get_29, set_29, get_30, set_30, E_ktp, E_cnt, hd]
  rfl
structure rng (lo hi : Int) : Prop where
  l : -1000 ≤ lo
  m : lo ≤ hi
  h : hi ≤ 1000
  w : hi - lo ≤ 200
theorem sp_need_range {lo hi : Int} (hn : 3 ≤ n) (h : rng lo hi) : callN Tb W n i_need_range [.int lo, .int hi] st = .ok .non st := by
  obtain ⟨n, rfl⟩ : ∃ m, n = m + 1 := ⟨n - 1, by omega⟩
  refine call_eq T_need_range rfl ?_
  have h1 := h.l; have h2 := h.m; have h3 := h.h; have h4 := h.w
  have a1 : lo ≤ 1000 := by omega
  have a2 : -(1000 : Int) ≤ hi := by omega
  have a3 : ¬ hi < lo := by omega
  have a4 : ¬ 200 < hi - lo := by omega
  simp -dsimp (disch := first | (refine OM.mk ?_; first | omega | assumption | rfl) | ((fail_if_success refine OM.mk ?_); first | assumption | omega | exact deref_int | exact ty_int | exact deref_tup | exact ty_tup | exact D_shr | exact ty_shr | exact deref_bl | exact ty_bl | exact deref_non | exact ty_non | exact deref_str | exact ty_str | exact deref_lst | exact ty_lst | (refine mulOk_sz ?_ ?_ <;> (repeat' (first | exact Sz.mono (by assumption) (by decide) | exact Sz.mono (B.n (by assumption)) (by decide) | exact Sz.mono (B.d (by assumption)) (by decide) | exact Sz.of (m := 1000000000000) (by omega) (by decide) | exact Sz.of (m := 1000000) (by omega) (by decide) | exact B.mono (by assumption) (by decide) | exact ⟨Sz.of (m := 1000000000000) (by omega) (by decide), Sz.of (m := 1000000000000) (by omega) (by decide)⟩ | apply Sz.mul2 | (refine Sz.add2 ?_ ?_ (by decide)) | (refine Sz.sub2 ?_ ?_ (by decide)) | apply Sz.neg | apply B.mul2 | (refine B.add2 ?_ ?_ (by decide)) | (refine B.sub2 ?_ ?_ (by decide)) | apply B.neg)); done) | (refine nice_ok ?_; (repeat' (first | exact nice_shr | exact nice_spt | exact nice_mpv | exact nice_int | exact nice_bl | exact nice_non | exact nicel_nil | refine nicel_cons ?_ ?_ | refine nice_tup (by simp) ?_ | refine nice_lst (by simp) ?_)); done) | ((repeat' (first | exact Sz.mono (by assumption) (by decide) | exact Sz.mono (B.n (by assumption)) (by decide) | exact Sz.mono (B.d (by assumption)) (by decide) | exact Sz.of (m := 1000000000000) (by omega) (by decide) | exact Sz.of (m := 1000000) (by omega) (by decide) | exact B.mono (by assumption) (by decide) | exact ⟨Sz.of (m := 1000000000000) (by omega) (by decide), Sz.of (m := 1000000000000) (by omega) (by decide)⟩ | apply Sz.mul2 | (refine Sz.add2 ?_ ?_ (by decide)) | (refine Sz.sub2 ?_ ?_ (by decide)) | apply Sz.neg | apply B.mul2 | (refine B.add2 ?_ ?_ (by decide)) | (refine B.sub2 ?_ ?_ (by decide)) | apply B.neg)); done) | (unfold tB; simp; done) | decide)) only [d_need_range, b_need_range, S_done, S_asg, S_asgT, S_par, S_sub, S_expr, S_if, S_for, S_forB, S_ret, S_retN, E_var, E_cst, E_gl, E_yes, E_tup, E_lst, E_mkl, E_bin, E_mkb, E_neg, E_not, E_cmp, E_chain, E_isN, E_isB, E_and, E_or, E_ite, E_idx, E_rev, E_slc, P_non, P_cst, P_var, P_bin, P_neg, P_call, P_blt, E_call, E_blt, E_mkt, E_isi, E_app, Es_nil, Es_cons, E_T, E_alloc, E_lc, E_mkc, LC_nil, LC_cons, LC_B, lcQ, accO, bls, Option.map_some, List.all_cons, List.all_nil, id_eq, Bool.and_true, OkO_some, OkI_t, OkI_f, Ok_ok, OkS_next, OkS_ret, deref_int, deref_bl, deref_str, deref_non, deref_tup, deref_lst, deref_fn, deref_frz, deref_r0, deref_r1, deref_r2, T_bl, T_int, T_tup, T_lst, T_non, B_addI, B_addL, B_addT, B_subI, C_ltI, C_leI, C_gtI, C_geI, C_eqI, C_eqB, C_neB, C_neI, I_tup, I_lst, L_tup, L_lst, L_abs, L_max, L_min, L_int, L_tupL, L_tupT, L_listT, L_listL, L_listF, L_all, L_any, It_L, It_T, It_r1, It_r2, negO_int, intO_int, isBo, setAll, atI_0, atI_1, atI_2, atI_3, get_0, get_1, get_2, get_3, get_4, get_5, get_6, get_7, get_8, get_9, get_10, get_11, get_12, get_13, get_14, get_15, get_16, set_0, set_1, set_2, set_3, set_4, set_5, set_6, set_7, set_8, set_9, set_10, set_11, set_12, set_13, set_14, set_15, set_16, List.map_cons, List.map_nil, List.cons_append, List.nil_append, List.replicate_succ, List.replicate_zero, List.append_nil, List.length_cons, List.length_nil, if_true, if_false, Bool.not_true, Bool.not_false, Bool.false_eq_true, Nat.sub_self, Nat.reduceSub, Nat.reduceAdd, Nat.zero_add, Nat.reduceLeDiff, lim, and_true, true_and, decide_true, decide_false, PV.isRef, wipeE, B_mulI', B_divI', B_modI', decT, decF, I_shr0, I_shr1, D_shr, OkS_for_nil, C_eqR, C_neR, C_eqNil, C_neNil, C_eqI1, C_eqI2, C_eqB1, Rv_tup, Rv_lst, List.reverse_cons, List.reverse_nil, isTy, isNo_shr, isNo_tup, isNo_non, isNo_int, isNo_bl, isNo_str, isNo_lst, isNo_ref, bne_self_eq_false, Bool.bne_true, Bool.bne_false, Bool.true_bne, Bool.false_bne, bindT_nm, bindT_tp, bindT_shr, bindTs_nil, bindTs_cons, Option.bind_some, Int.toNat_natCast, get_17, set_17, get_18, set_18, get_19, set_19, get_20, set_20, E_sst, E_lrg, Rg_l, Rg_t, L_sum, inl, get_21, set_21, get_22, set_22, get_23, set_23, get_24, set_24, get_25, set_25, get_26, set_26, get_27, set_27, get_28, set_28, get_29, set_29, get_30, set_30, E_ktp, E_cnt, sp_fits_whole, wB, h1, h3, a1, a2, a3, a4, Bool.and_self]
theorem shr_one {j : Int} : (.tup [.int j, .int 1] : PV) = shr (j : Rat) := shr_whole
theorem rgV_ra {n : Nat} {a : Int} : rgV' a n = rl n fun i => .int (a + (i : Nat)) := rfl
theorem int_B {j : Int} (h : j.natAbs ≤ 1000) : B 20 (j : Rat) := ⟨by rw [Rat.num_intCast]; exact Sz.of (m := 1000) h (by decide), by rw [Rat.den_intCast]; exact Sz.of (m := 1) (by decide) (by decide)⟩
/-- what the other scale reads at an integer -/
def rowR (a b c d lo : Int) (i : Nat) : Rat := turnR a b c d ((lo + (i : Nat) : Int) : Rat)
theorem turn_B {a b c d : Int} {r : Rat} (h : fsc a b) (g : fsc c d) (hr : B 20 r) : B 300 (turnR a b c d r) := by
  have hw := wayR_B h hr
  have := g.a; have := g.b
  rw [turnR, ← at_eq]
  refine (B.divInt (k := 250) ?_ ?_ (den_pos' _)).mono
  · (repeat' (first | exact Sz.mono (by assumption) (by decide) | exact Sz.mono (B.n (by assumption)) (by decide) | exact Sz.mono (B.d (by assumption)) (by decide) | exact Sz.of (m := 1000000000000) (by omega) (by decide) | exact Sz.of (m := 1000000) (by omega) (by decide) | exact B.mono (by assumption) (by decide) | exact ⟨Sz.of (m := 1000000000000) (by omega) (by decide), Sz.of (m := 1000000000000) (by omega) (by decide)⟩ | apply Sz.mul2 | (refine Sz.add2 ?_ ?_ (by decide)) | (refine Sz.sub2 ?_ ?_ (by decide)) | apply Sz.neg | apply B.mul2 | (refine B.add2 ?_ ?_ (by decide)) | (refine B.sub2 ?_ ?_ (by decide)) | apply B.neg))
  · (repeat' (first | exact Sz.mono (by assumption) (by decide) | exact Sz.mono (B.n (by assumption)) (by decide) | exact Sz.mono (B.d (by assumption)) (by decide) | exact Sz.of (m := 1000000000000) (by omega) (by decide) | exact Sz.of (m := 1000000) (by omega) (by decide) | exact B.mono (by assumption) (by decide) | exact ⟨Sz.of (m := 1000000000000) (by omega) (by decide), Sz.of (m := 1000000000000) (by omega) (by decide)⟩ | apply Sz.mul2 | (refine Sz.add2 ?_ ?_ (by decide)) | (refine Sz.sub2 ?_ ?_ (by decide)) | apply Sz.neg | apply B.mul2 | (refine B.add2 ?_ ?_ (by decide)) | (refine B.sub2 ?_ ?_ (by decide)) | apply B.neg))
theorem rg2_ok {lo hi : Int} (h : rng lo hi) : rgOk lo (hi + 1) = true := by
  have h1 := h.l; have h2 := h.m; have h3 := h.h; have h4 := h.w
  unfold rgOk
  simp only [Bool.and_eq_true, Nat.ble_eq]
  have : lim = 1000000 := rfl
  omega
theorem sp_nearest {a b c d lo hi : Int} (hn : 6 ≤ n) (hW : 5000 ≤ W) (h : fsc a b) (g : fsc c d) (hr : rng lo hi) : callN Tb W n i_nearest_table [scv a b, scv c d, .int lo, .int hi] st = .ok (.ktp (rl (hi + 1 - lo).toNat fun i => .int (nr (rowR a b c d lo i)))) st := by
  obtain ⟨n, rfl⟩ : ∃ m, n = m + 1 := ⟨n - 1, by omega⟩
  refine call_eq T_nearest_table rfl ?_
  have rg := rg2_ok hr
  simp -dsimp (disch := first | (refine OM.mk ?_; first | omega | assumption | rfl) | ((fail_if_success refine OM.mk ?_); first | assumption | omega | exact deref_int | exact ty_int | exact deref_tup | exact ty_tup | exact D_shr | exact ty_shr | exact deref_bl | exact ty_bl | exact deref_non | exact ty_non | exact deref_str | exact ty_str | exact deref_lst | exact ty_lst | (refine mulOk_sz ?_ ?_ <;> (repeat' (first | exact Sz.mono (by assumption) (by decide) | exact Sz.mono (B.n (by assumption)) (by decide) | exact Sz.mono (B.d (by assumption)) (by decide) | exact Sz.of (m := 1000000000000) (by omega) (by decide) | exact Sz.of (m := 1000000) (by omega) (by decide) | exact B.mono (by assumption) (by decide) | exact ⟨Sz.of (m := 1000000000000) (by omega) (by decide), Sz.of (m := 1000000000000) (by omega) (by decide)⟩ | apply Sz.mul2 | (refine Sz.add2 ?_ ?_ (by decide)) | (refine Sz.sub2 ?_ ?_ (by decide)) | apply Sz.neg | apply B.mul2 | (refine B.add2 ?_ ?_ (by decide)) | (refine B.sub2 ?_ ?_ (by decide)) | apply B.neg)); done) | (refine nice_ok ?_; (repeat' (first | exact nice_shr | exact nice_spt | exact nice_mpv | exact nice_int | exact nice_bl | exact nice_non | exact nicel_nil | refine nicel_cons ?_ ?_ | refine nice_tup (by simp) ?_ | refine nice_lst (by simp) ?_)); done) | ((repeat' (first | exact Sz.mono (by assumption) (by decide) | exact Sz.mono (B.n (by assumption)) (by decide) | exact Sz.mono (B.d (by assumption)) (by decide) | exact Sz.of (m := 1000000000000) (by omega) (by decide) | exact Sz.of (m := 1000000) (by omega) (by decide) | exact B.mono (by assumption) (by decide) | exact ⟨Sz.of (m := 1000000000000) (by omega) (by decide), Sz.of (m := 1000000000000) (by omega) (by decide)⟩ | apply Sz.mul2 | (refine Sz.add2 ?_ ?_ (by decide)) | (refine Sz.sub2 ?_ ?_ (by decide)) | apply Sz.neg | apply B.mul2 | (refine B.add2 ?_ ?_ (by decide)) | (refine B.sub2 ?_ ?_ (by decide)) | apply B.neg)); done) | (unfold tB; simp; done) | decide)) only [d_nearest_table, b_nearest_table, S_done, S_asg, S_asgT, S_par, S_sub, S_expr, S_if, S_for, S_forB, S_ret, S_retN, E_var, E_cst, E_gl, E_yes, E_tup, E_lst, E_mkl, E_bin, E_mkb, E_neg, E_not, E_cmp, E_chain, E_isN, E_isB, E_and, E_or, E_ite, E_idx, E_rev, E_slc, P_non, P_cst, P_var, P_bin, P_neg, P_call, P_blt, E_call, E_blt, E_mkt, E_isi, E_app, Es_nil, Es_cons, E_T, E_alloc, E_lc, E_mkc, LC_nil, LC_cons, LC_B, lcQ, accO, bls, Option.map_some, List.all_cons, List.all_nil, id_eq, Bool.and_true, OkO_some, OkI_t, OkI_f, Ok_ok, OkS_next, OkS_ret, deref_int, deref_bl, deref_str, deref_non, deref_tup, deref_lst, deref_fn, deref_frz, deref_r0, deref_r1, deref_r2, T_bl, T_int, T_tup, T_lst, T_non, B_addI, B_addL, B_addT, B_subI, C_ltI, C_leI, C_gtI, C_geI, C_eqI, C_eqB, C_neB, C_neI, I_tup, I_lst, L_tup, L_lst, L_abs, L_max, L_min, L_int, L_tupL, L_tupT, L_listT, L_listL, L_listF, L_all, L_any, It_L, It_T, It_r1, It_r2, negO_int, intO_int, isBo, setAll, atI_0, atI_1, atI_2, atI_3, get_0, get_1, get_2, get_3, get_4, get_5, get_6, get_7, get_8, get_9, get_10, get_11, get_12, get_13, get_14, get_15, get_16, set_0, set_1, set_2, set_3, set_4, set_5, set_6, set_7, set_8, set_9, set_10, set_11, set_12, set_13, set_14, set_15, set_16, List.map_cons, List.map_nil, List.cons_append, List.nil_append, List.replicate_succ, List.replicate_zero, List.append_nil, List.length_cons, List.length_nil, if_true, if_false, Bool.not_true, Bool.not_false, Bool.false_eq_true, Nat.sub_self, Nat.reduceSub, Nat.reduceAdd, Nat.zero_add, Nat.reduceLeDiff, lim, and_true, true_and, decide_true, decide_false, PV.isRef, wipeE, B_mulI', B_divI', B_modI', decT, decF, I_shr0, I_shr1, D_shr, OkS_for_nil, C_eqR, C_neR, C_eqNil, C_neNil, C_eqI1, C_eqI2, C_eqB1, Rv_tup, Rv_lst, List.reverse_cons, List.reverse_nil, isTy, isNo_shr, isNo_tup, isNo_non, isNo_int, isNo_bl, isNo_str, isNo_lst, isNo_ref, bne_self_eq_false, Bool.bne_true, Bool.bne_false, Bool.true_bne, Bool.false_bne, bindT_nm, bindT_tp, bindT_shr, bindTs_nil, bindTs_cons, Option.bind_some, Int.toNat_natCast, get_17, set_17, get_18, set_18, get_19, set_19, get_20, set_20, E_sst, E_lrg, Rg_l, Rg_t, L_sum, inl, get_21, set_21, get_22, set_22, get_23, set_23, get_24, set_24, get_25, set_25, get_26, set_26, get_27, set_27, get_28, set_28, get_29, set_29, get_30, set_30, E_ktp, E_cnt, sp_need_two, sp_need_range, rg, rgV_ra]
  have h1 := hr.l; have h2 := hr.m; have h3 := hr.h; have h4 := hr.w
  refine Ok_eq (lc_rl (n := (hi + 1 - lo).toNat) (g := fun i => .int (nr (rowR a b c d lo i))) (by omega) fun i hi2 => lcB_ok ?_) ?_
  · have := h.m; have := h.a; have := h.b; have := g.a; have := g.b
    have hB := int_B (j := lo + (i : Nat)) (by omega)
    have hB3 : B 300 ((lo + (i : Nat) : Int) : Rat) := hB.mono
    have hw := wayR_B h hB
    have hw4 : B 400 (wayR a b ((lo + (i : Nat) : Int) : Rat)) := hw.mono
    have ht := turn_B h g hB
    have ht9 : B 900 (turnR a b c d ((lo + (i : Nat) : Int) : Rat)) := ht.mono
    have e : atR c d (wayR a b ((lo + (i : Nat) : Int) : Rat)) = turnR a b c d ((lo + (i : Nat) : Int) : Rat) := rfl
    simp -dsimp (disch := first | (refine OM.mk ?_; first | omega | assumption | rfl) | ((fail_if_success refine OM.mk ?_); first | assumption | omega | exact deref_int | exact ty_int | exact deref_tup | exact ty_tup | exact D_shr | exact ty_shr | exact deref_bl | exact ty_bl | exact deref_non | exact ty_non | exact deref_str | exact ty_str | exact deref_lst | exact ty_lst | (refine mulOk_sz ?_ ?_ <;> (repeat' (first | exact Sz.mono (by assumption) (by decide) | exact Sz.mono (B.n (by assumption)) (by decide) | exact Sz.mono (B.d (by assumption)) (by decide) | exact Sz.of (m := 1000000000000) (by omega) (by decide) | exact Sz.of (m := 1000000) (by omega) (by decide) | exact B.mono (by assumption) (by decide) | exact ⟨Sz.of (m := 1000000000000) (by omega) (by decide), Sz.of (m := 1000000000000) (by omega) (by decide)⟩ | apply Sz.mul2 | (refine Sz.add2 ?_ ?_ (by decide)) | (refine Sz.sub2 ?_ ?_ (by decide)) | apply Sz.neg | apply B.mul2 | (refine B.add2 ?_ ?_ (by decide)) | (refine B.sub2 ?_ ?_ (by decide)) | apply B.neg)); done) | (refine nice_ok ?_; (repeat' (first | exact nice_shr | exact nice_spt | exact nice_mpv | exact nice_int | exact nice_bl | exact nice_non | exact nicel_nil | refine nicel_cons ?_ ?_ | refine nice_tup (by simp) ?_ | refine nice_lst (by simp) ?_)); done) | ((repeat' (first | exact Sz.mono (by assumption) (by decide) | exact Sz.mono (B.n (by assumption)) (by decide) | exact Sz.mono (B.d (by assumption)) (by decide) | exact Sz.of (m := 1000000000000) (by omega) (by decide) | exact Sz.of (m := 1000000) (by omega) (by decide) | exact B.mono (by assumption) (by decide) | exact ⟨Sz.of (m := 1000000000000) (by omega) (by decide), Sz.of (m := 1000000000000) (by omega) (by decide)⟩ | apply Sz.mul2 | (refine Sz.add2 ?_ ?_ (by decide)) | (refine Sz.sub2 ?_ ?_ (by decide)) | apply Sz.neg | apply B.mul2 | (refine B.add2 ?_ ?_ (by decide)) | (refine B.sub2 ?_ ?_ (by decide)) | apply B.neg)); done) | (unfold tB; simp; done) | decide)) only [S_done, S_asg, S_asgT, S_par, S_sub, S_expr, S_if, S_for, S_forB, S_ret, S_retN, E_var, E_cst, E_gl, E_yes, E_tup, E_lst, E_mkl, E_bin, E_mkb, E_neg, E_not, E_cmp, E_chain, E_isN, E_isB, E_and, E_or, E_ite, E_idx, E_rev, E_slc, P_non, P_cst, P_var, P_bin, P_neg, P_call, P_blt, E_call, E_blt, E_mkt, E_isi, E_app, Es_nil, Es_cons, E_T, E_alloc, E_lc, E_mkc, LC_nil, LC_cons, LC_B, lcQ, accO, bls, Option.map_some, List.all_cons, List.all_nil, id_eq, Bool.and_true, OkO_some, OkI_t, OkI_f, Ok_ok, OkS_next, OkS_ret, deref_int, deref_bl, deref_str, deref_non, deref_tup, deref_lst, deref_fn, deref_frz, deref_r0, deref_r1, deref_r2, T_bl, T_int, T_tup, T_lst, T_non, B_addI, B_addL, B_addT, B_subI, C_ltI, C_leI, C_gtI, C_geI, C_eqI, C_eqB, C_neB, C_neI, I_tup, I_lst, L_tup, L_lst, L_abs, L_max, L_min, L_int, L_tupL, L_tupT, L_listT, L_listL, L_listF, L_all, L_any, It_L, It_T, It_r1, It_r2, negO_int, intO_int, isBo, setAll, atI_0, atI_1, atI_2, atI_3, get_0, get_1, get_2, get_3, get_4, get_5, get_6, get_7, get_8, get_9, get_10, get_11, get_12, get_13, get_14, get_15, get_16, set_0, set_1, set_2, set_3, set_4, set_5, set_6, set_7, set_8, set_9, set_10, set_11, set_12, set_13, set_14, set_15, set_16, List.map_cons, List.map_nil, List.cons_append, List.nil_append, List.replicate_succ, List.replicate_zero, List.append_nil, List.length_cons, List.length_nil, if_true, if_false, Bool.not_true, Bool.not_false, Bool.false_eq_true, Nat.sub_self, Nat.reduceSub, Nat.reduceAdd, Nat.zero_add, Nat.reduceLeDiff, lim, and_true, true_and, decide_true, decide_false, PV.isRef, wipeE, B_mulI', B_divI', B_modI', decT, decF, I_shr0, I_shr1, D_shr, OkS_for_nil, C_eqR, C_neR, C_eqNil, C_neNil, C_eqI1, C_eqI2, C_eqB1, Rv_tup, Rv_lst, List.reverse_cons, List.reverse_nil, isTy, isNo_shr, isNo_tup, isNo_non, isNo_int, isNo_bl, isNo_str, isNo_lst, isNo_ref, bne_self_eq_false, Bool.bne_true, Bool.bne_false, Bool.true_bne, Bool.false_bne, bindT_nm, bindT_tp, bindT_shr, bindTs_nil, bindTs_cons, Option.bind_some, Int.toNat_natCast, get_17, set_17, get_18, set_18, get_19, set_19, get_20, set_20, E_sst, E_lrg, Rg_l, Rg_t, L_sum, inl, get_21, set_21, get_22, set_22, get_23, set_23, get_24, set_24, get_25, set_25, get_26, set_26, get_27, set_27, get_28, set_28, get_29, set_29, get_30, set_30, E_ktp, E_cnt, shr_one (j := lo + (i : Nat)), sp_way_in, sp_reading_in, e, sp_rounded]
    rfl
  simp -dsimp (disch := first | (refine OM.mk ?_; first | omega | assumption | rfl) | ((fail_if_success refine OM.mk ?_); first | assumption | omega | exact deref_int | exact ty_int | exact deref_tup | exact ty_tup | exact D_shr | exact ty_shr | exact deref_bl | exact ty_bl | exact deref_non | exact ty_non | exact deref_str | exact ty_str | exact deref_lst | exact ty_lst | (refine mulOk_sz ?_ ?_ <;> (repeat' (first | exact Sz.mono (by assumption) (by decide) | exact Sz.mono (B.n (by assumption)) (by decide) | exact Sz.mono (B.d (by assumption)) (by decide) | exact Sz.of (m := 1000000000000) (by omega) (by decide) | exact Sz.of (m := 1000000) (by omega) (by decide) | exact B.mono (by assumption) (by decide) | exact ⟨Sz.of (m := 1000000000000) (by omega) (by decide), Sz.of (m := 1000000000000) (by omega) (by decide)⟩ | apply Sz.mul2 | (refine Sz.add2 ?_ ?_ (by decide)) | (refine Sz.sub2 ?_ ?_ (by decide)) | apply Sz.neg | apply B.mul2 | (refine B.add2 ?_ ?_ (by decide)) | (refine B.sub2 ?_ ?_ (by decide)) | apply B.neg)); done) | (refine nice_ok ?_; (repeat' (first | exact nice_shr | exact nice_spt | exact nice_mpv | exact nice_int | exact nice_bl | exact nice_non | exact nicel_nil | refine nicel_cons ?_ ?_ | refine nice_tup (by simp) ?_ | refine nice_lst (by simp) ?_)); done) | ((repeat' (first | exact Sz.mono (by assumption) (by decide) | exact Sz.mono (B.n (by assumption)) (by decide) | exact Sz.mono (B.d (by assumption)) (by decide) | exact Sz.of (m := 1000000000000) (by omega) (by decide) | exact Sz.of (m := 1000000) (by omega) (by decide) | exact B.mono (by assumption) (by decide) | exact ⟨Sz.of (m := 1000000000000) (by omega) (by decide), Sz.of (m := 1000000000000) (by omega) (by decide)⟩ | apply Sz.mul2 | (refine Sz.add2 ?_ ?_ (by decide)) | (refine Sz.sub2 ?_ ?_ (by decide)) | apply Sz.neg | apply B.mul2 | (refine B.add2 ?_ ?_ (by decide)) | (refine B.sub2 ?_ ?_ (by decide)) | apply B.neg)); done) | (unfold tB; simp; done) | decide)) only [S_done, S_asg, S_asgT, S_par, S_sub, S_expr, S_if, S_for, S_forB, S_ret, S_retN, E_var, E_cst, E_gl, E_yes, E_tup, E_lst, E_mkl, E_bin, E_mkb, E_neg, E_not, E_cmp, E_chain, E_isN, E_isB, E_and, E_or, E_ite, E_idx, E_rev, E_slc, P_non, P_cst, P_var, P_bin, P_neg, P_call, P_blt, E_call, E_blt, E_mkt, E_isi, E_app, Es_nil, Es_cons, E_T, E_alloc, E_lc, E_mkc, LC_nil, LC_cons, LC_B, lcQ, accO, bls, Option.map_some, List.all_cons, List.all_nil, id_eq, Bool.and_true, OkO_some, OkI_t, OkI_f, Ok_ok, OkS_next, OkS_ret, deref_int, deref_bl, deref_str, deref_non, deref_tup, deref_lst, deref_fn, deref_frz, deref_r0, deref_r1, deref_r2, T_bl, T_int, T_tup, T_lst, T_non, B_addI, B_addL, B_addT, B_subI, C_ltI, C_leI, C_gtI, C_geI, C_eqI, C_eqB, C_neB, C_neI, I_tup, I_lst, L_tup, L_lst, L_abs, L_max, L_min, L_int, L_tupL, L_tupT, L_listT, L_listL, L_listF, L_all, L_any, It_L, It_T, It_r1, It_r2, negO_int, intO_int, isBo, setAll, atI_0, atI_1, atI_2, atI_3, get_0, get_1, get_2, get_3, get_4, get_5, get_6, get_7, get_8, get_9, get_10, get_11, get_12, get_13, get_14, get_15, get_16, set_0, set_1, set_2, set_3, set_4, set_5, set_6, set_7, set_8, set_9, set_10, set_11, set_12, set_13, set_14, set_15, set_16, List.map_cons, List.map_nil, List.cons_append, List.nil_append, List.replicate_succ, List.replicate_zero, List.append_nil, List.length_cons, List.length_nil, if_true, if_false, Bool.not_true, Bool.not_false, Bool.false_eq_true, Nat.sub_self, Nat.reduceSub, Nat.reduceAdd, Nat.zero_add, Nat.reduceLeDiff, lim, and_true, true_and, decide_true, decide_false, PV.isRef, wipeE, B_mulI', B_divI', B_modI', decT, decF, I_shr0, I_shr1, D_shr, OkS_for_nil, C_eqR, C_neR, C_eqNil, C_neNil, C_eqI1, C_eqI2, C_eqB1, Rv_tup, Rv_lst, List.reverse_cons, List.reverse_nil, isTy, isNo_shr, isNo_tup, isNo_non, isNo_int, isNo_bl, isNo_str, isNo_lst, isNo_ref, bne_self_eq_false, Bool.bne_true, Bool.bne_false, Bool.true_bne, Bool.false_bne, bindT_nm, bindT_tp, bindT_shr, bindTs_nil, bindTs_cons, Option.bind_some, Int.toNat_natCast, get_17, set_17, get_18, set_18, get_19, set_19, get_20, set_20, E_sst, E_lrg, Rg_l, Rg_t, L_sum, inl, get_21, set_21, get_22, set_22, get_23, set_23, get_24, set_24, get_25, set_25, get_26, set_26, get_27, set_27, get_28, set_28, get_29, set_29, get_30, set_30, E_ktp, E_cnt, pyKt]
end

end Ev.K83
end
section
set_option Elab.async false
set_option linter.all false
set_option maxRecDepth 100000
set_option maxHeartbeats 4000000
set_option exponentiation.threshold 5000
namespace Ev.K83
open PySem L2
variable {Tb : List Fd} [IsTab Tb]
section
variable {W n : Nat} {st : Store}
theorem inl_rl {m : Nat} {f : Nat → Int} : inl (rl m fun i => .int (f i)) = some ((List.range m).map f) := by
  unfold rl
  induction List.range m with
  | nil => rfl
  | cons a l ih => simp only [List.map_cons, inl, ih, Option.map_some]
theorem cnt_rl {m : Nat} {f : Nat → Int} {k : Int} : pyCnt (rl m fun i => .int (f i)) (.int k) = some (.int (((List.range m).map f).count k : Nat)) := by
  unfold pyCnt
  simp only [inl_rl, Option.map_some]
theorem inl_map {α : Type} {l : List α} {f : α → Int} : inl (l.map fun i => .int (f i)) = some (l.map f) := by
  induction l with
  | nil => rfl
  | cons a l ih => simp only [List.map_cons, inl, ih, Option.map_some]
theorem sp_meeting {a b c d lo hi : Int} (hn : 6 ≤ n) (hW : 5000 ≤ W) (h : fsc a b) (g : fsc c d) (hr : rng lo hi) : callN Tb W n i_meeting_marks [scv a b, scv c d, .int lo, .int hi] st =
    .ok (.tup (((List.range (hi + 1 - lo).toNat).filter fun i => decide (((rowR a b c d lo i).den : Int) = 1)).map fun i => .tup [.int (lo + (i : Nat)), .int (rowR a b c d lo i).num])) st := by
  obtain ⟨n, rfl⟩ : ∃ m, n = m + 1 := ⟨n - 1, by omega⟩
  refine call_eq T_meeting_marks rfl ?_
  have rg := rg2_ok hr
  simp -dsimp (disch := first | (refine OM.mk ?_; first | omega | assumption | rfl) | ((fail_if_success refine OM.mk ?_); first | assumption | omega | exact deref_int | exact ty_int | exact deref_tup | exact ty_tup | exact D_shr | exact ty_shr | exact deref_bl | exact ty_bl | exact deref_non | exact ty_non | exact deref_str | exact ty_str | exact deref_lst | exact ty_lst | (refine mulOk_sz ?_ ?_ <;> (repeat' (first | exact Sz.mono (by assumption) (by decide) | exact Sz.mono (B.n (by assumption)) (by decide) | exact Sz.mono (B.d (by assumption)) (by decide) | exact Sz.of (m := 1000000000000) (by omega) (by decide) | exact Sz.of (m := 1000000) (by omega) (by decide) | exact B.mono (by assumption) (by decide) | exact ⟨Sz.of (m := 1000000000000) (by omega) (by decide), Sz.of (m := 1000000000000) (by omega) (by decide)⟩ | apply Sz.mul2 | (refine Sz.add2 ?_ ?_ (by decide)) | (refine Sz.sub2 ?_ ?_ (by decide)) | apply Sz.neg | apply B.mul2 | (refine B.add2 ?_ ?_ (by decide)) | (refine B.sub2 ?_ ?_ (by decide)) | apply B.neg)); done) | (refine nice_ok ?_; (repeat' (first | exact nice_shr | exact nice_spt | exact nice_mpv | exact nice_int | exact nice_bl | exact nice_non | exact nicel_nil | refine nicel_cons ?_ ?_ | refine nice_tup (by simp) ?_ | refine nice_lst (by simp) ?_)); done) | ((repeat' (first | exact Sz.mono (by assumption) (by decide) | exact Sz.mono (B.n (by assumption)) (by decide) | exact Sz.mono (B.d (by assumption)) (by decide) | exact Sz.of (m := 1000000000000) (by omega) (by decide) | exact Sz.of (m := 1000000) (by omega) (by decide) | exact B.mono (by assumption) (by decide) | exact ⟨Sz.of (m := 1000000000000) (by omega) (by decide), Sz.of (m := 1000000000000) (by omega) (by decide)⟩ | apply Sz.mul2 | (refine Sz.add2 ?_ ?_ (by decide)) | (refine Sz.sub2 ?_ ?_ (by decide)) | apply Sz.neg | apply B.mul2 | (refine B.add2 ?_ ?_ (by decide)) | (refine B.sub2 ?_ ?_ (by decide)) | apply B.neg)); done) | (unfold tB; simp; done) | decide)) only [d_meeting_marks, b_meeting_marks, S_done, S_asg, S_asgT, S_par, S_sub, S_expr, S_if, S_for, S_forB, S_ret, S_retN, E_var, E_cst, E_gl, E_yes, E_tup, E_lst, E_mkl, E_bin, E_mkb, E_neg, E_not, E_cmp, E_chain, E_isN, E_isB, E_and, E_or, E_ite, E_idx, E_rev, E_slc, P_non, P_cst, P_var, P_bin, P_neg, P_call, P_blt, E_call, E_blt, E_mkt, E_isi, E_app, Es_nil, Es_cons, E_T, E_alloc, E_lc, E_mkc, LC_nil, LC_cons, LC_B, lcQ, accO, bls, Option.map_some, List.all_cons, List.all_nil, id_eq, Bool.and_true, OkO_some, OkI_t, OkI_f, Ok_ok, OkS_next, OkS_ret, deref_int, deref_bl, deref_str, deref_non, deref_tup, deref_lst, deref_fn, deref_frz, deref_r0, deref_r1, deref_r2, T_bl, T_int, T_tup, T_lst, T_non, B_addI, B_addL, B_addT, B_subI, C_ltI, C_leI, C_gtI, C_geI, C_eqI, C_eqB, C_neB, C_neI, I_tup, I_lst, L_tup, L_lst, L_abs, L_max, L_min, L_int, L_tupL, L_tupT, L_listT, L_listL, L_listF, L_all, L_any, It_L, It_T, It_r1, It_r2, negO_int, intO_int, isBo, setAll, atI_0, atI_1, atI_2, atI_3, get_0, get_1, get_2, get_3, get_4, get_5, get_6, get_7, get_8, get_9, get_10, get_11, get_12, get_13, get_14, get_15, get_16, set_0, set_1, set_2, set_3, set_4, set_5, set_6, set_7, set_8, set_9, set_10, set_11, set_12, set_13, set_14, set_15, set_16, List.map_cons, List.map_nil, List.cons_append, List.nil_append, List.replicate_succ, List.replicate_zero, List.append_nil, List.length_cons, List.length_nil, if_true, if_false, Bool.not_true, Bool.not_false, Bool.false_eq_true, Nat.sub_self, Nat.reduceSub, Nat.reduceAdd, Nat.zero_add, Nat.reduceLeDiff, lim, and_true, true_and, decide_true, decide_false, PV.isRef, wipeE, B_mulI', B_divI', B_modI', decT, decF, I_shr0, I_shr1, D_shr, OkS_for_nil, C_eqR, C_neR, C_eqNil, C_neNil, C_eqI1, C_eqI2, C_eqB1, Rv_tup, Rv_lst, List.reverse_cons, List.reverse_nil, isTy, isNo_shr, isNo_tup, isNo_non, isNo_int, isNo_bl, isNo_str, isNo_lst, isNo_ref, bne_self_eq_false, Bool.bne_true, Bool.bne_false, Bool.true_bne, Bool.false_bne, bindT_nm, bindT_tp, bindT_shr, bindTs_nil, bindTs_cons, Option.bind_some, Int.toNat_natCast, get_17, set_17, get_18, set_18, get_19, set_19, get_20, set_20, E_sst, E_lrg, Rg_l, Rg_t, L_sum, inl, get_21, set_21, get_22, set_22, get_23, set_23, get_24, set_24, get_25, set_25, get_26, set_26, get_27, set_27, get_28, set_28, get_29, set_29, get_30, set_30, E_ktp, E_cnt, sp_need_two, sp_need_range, rg, rgV_ra]
  have h1 := hr.l; have h2 := hr.m; have h3 := hr.h; have h4 := hr.w
  refine Ok_eq (lc_rl (n := (hi + 1 - lo).toNat) (g := fun i => .tup [.int (lo + (i : Nat)), shr (rowR a b c d lo i)]) (by omega) fun i hi2 => lcB_ok ?_) ?_
  · have := h.m; have := h.a; have := h.b; have := g.a; have := g.b
    have hB := int_B (j := lo + (i : Nat)) (by omega)
    have hB3 : B 300 ((lo + (i : Nat) : Int) : Rat) := hB.mono
    have hw := wayR_B h hB
    have hw4 : B 400 (wayR a b ((lo + (i : Nat) : Int) : Rat)) := hw.mono
    have e : atR c d (wayR a b ((lo + (i : Nat) : Int) : Rat)) = rowR a b c d lo i := rfl
    simp -dsimp (disch := first | (refine OM.mk ?_; first | omega | assumption | rfl) | ((fail_if_success refine OM.mk ?_); first | assumption | omega | exact deref_int | exact ty_int | exact deref_tup | exact ty_tup | exact D_shr | exact ty_shr | exact deref_bl | exact ty_bl | exact deref_non | exact ty_non | exact deref_str | exact ty_str | exact deref_lst | exact ty_lst | (refine mulOk_sz ?_ ?_ <;> (repeat' (first | exact Sz.mono (by assumption) (by decide) | exact Sz.mono (B.n (by assumption)) (by decide) | exact Sz.mono (B.d (by assumption)) (by decide) | exact Sz.of (m := 1000000000000) (by omega) (by decide) | exact Sz.of (m := 1000000) (by omega) (by decide) | exact B.mono (by assumption) (by decide) | exact ⟨Sz.of (m := 1000000000000) (by omega) (by decide), Sz.of (m := 1000000000000) (by omega) (by decide)⟩ | apply Sz.mul2 | (refine Sz.add2 ?_ ?_ (by decide)) | (refine Sz.sub2 ?_ ?_ (by decide)) | apply Sz.neg | apply B.mul2 | (refine B.add2 ?_ ?_ (by decide)) | (refine B.sub2 ?_ ?_ (by decide)) | apply B.neg)); done) | (refine nice_ok ?_; (repeat' (first | exact nice_shr | exact nice_spt | exact nice_mpv | exact nice_int | exact nice_bl | exact nice_non | exact nicel_nil | refine nicel_cons ?_ ?_ | refine nice_tup (by simp) ?_ | refine nice_lst (by simp) ?_)); done) | ((repeat' (first | exact Sz.mono (by assumption) (by decide) | exact Sz.mono (B.n (by assumption)) (by decide) | exact Sz.mono (B.d (by assumption)) (by decide) | exact Sz.of (m := 1000000000000) (by omega) (by decide) | exact Sz.of (m := 1000000) (by omega) (by decide) | exact B.mono (by assumption) (by decide) | exact ⟨Sz.of (m := 1000000000000) (by omega) (by decide), Sz.of (m := 1000000000000) (by omega) (by decide)⟩ | apply Sz.mul2 | (refine Sz.add2 ?_ ?_ (by decide)) | (refine Sz.sub2 ?_ ?_ (by decide)) | apply Sz.neg | apply B.mul2 | (refine B.add2 ?_ ?_ (by decide)) | (refine B.sub2 ?_ ?_ (by decide)) | apply B.neg)); done) | (unfold tB; simp; done) | decide)) only [S_done, S_asg, S_asgT, S_par, S_sub, S_expr, S_if, S_for, S_forB, S_ret, S_retN, E_var, E_cst, E_gl, E_yes, E_tup, E_lst, E_mkl, E_bin, E_mkb, E_neg, E_not, E_cmp, E_chain, E_isN, E_isB, E_and, E_or, E_ite, E_idx, E_rev, E_slc, P_non, P_cst, P_var, P_bin, P_neg, P_call, P_blt, E_call, E_blt, E_mkt, E_isi, E_app, Es_nil, Es_cons, E_T, E_alloc, E_lc, E_mkc, LC_nil, LC_cons, LC_B, lcQ, accO, bls, Option.map_some, List.all_cons, List.all_nil, id_eq, Bool.and_true, OkO_some, OkI_t, OkI_f, Ok_ok, OkS_next, OkS_ret, deref_int, deref_bl, deref_str, deref_non, deref_tup, deref_lst, deref_fn, deref_frz, deref_r0, deref_r1, deref_r2, T_bl, T_int, T_tup, T_lst, T_non, B_addI, B_addL, B_addT, B_subI, C_ltI, C_leI, C_gtI, C_geI, C_eqI, C_eqB, C_neB, C_neI, I_tup, I_lst, L_tup, L_lst, L_abs, L_max, L_min, L_int, L_tupL, L_tupT, L_listT, L_listL, L_listF, L_all, L_any, It_L, It_T, It_r1, It_r2, negO_int, intO_int, isBo, setAll, atI_0, atI_1, atI_2, atI_3, get_0, get_1, get_2, get_3, get_4, get_5, get_6, get_7, get_8, get_9, get_10, get_11, get_12, get_13, get_14, get_15, get_16, set_0, set_1, set_2, set_3, set_4, set_5, set_6, set_7, set_8, set_9, set_10, set_11, set_12, set_13, set_14, set_15, set_16, List.map_cons, List.map_nil, List.cons_append, List.nil_append, List.replicate_succ, List.replicate_zero, List.append_nil, List.length_cons, List.length_nil, if_true, if_false, Bool.not_true, Bool.not_false, Bool.false_eq_true, Nat.sub_self, Nat.reduceSub, Nat.reduceAdd, Nat.zero_add, Nat.reduceLeDiff, lim, and_true, true_and, decide_true, decide_false, PV.isRef, wipeE, B_mulI', B_divI', B_modI', decT, decF, I_shr0, I_shr1, D_shr, OkS_for_nil, C_eqR, C_neR, C_eqNil, C_neNil, C_eqI1, C_eqI2, C_eqB1, Rv_tup, Rv_lst, List.reverse_cons, List.reverse_nil, isTy, isNo_shr, isNo_tup, isNo_non, isNo_int, isNo_bl, isNo_str, isNo_lst, isNo_ref, bne_self_eq_false, Bool.bne_true, Bool.bne_false, Bool.true_bne, Bool.false_bne, bindT_nm, bindT_tp, bindT_shr, bindTs_nil, bindTs_cons, Option.bind_some, Int.toNat_natCast, get_17, set_17, get_18, set_18, get_19, set_19, get_20, set_20, E_sst, E_lrg, Rg_l, Rg_t, L_sum, inl, get_21, set_21, get_22, set_22, get_23, set_23, get_24, set_24, get_25, set_25, get_26, set_26, get_27, set_27, get_28, set_28, get_29, set_29, get_30, set_30, E_ktp, E_cnt, shr_one (j := lo + (i : Nat)), sp_way_in, sp_reading_in, e]
  simp -dsimp (disch := first | (refine OM.mk ?_; first | omega | assumption | rfl) | ((fail_if_success refine OM.mk ?_); first | assumption | omega | exact deref_int | exact ty_int | exact deref_tup | exact ty_tup | exact D_shr | exact ty_shr | exact deref_bl | exact ty_bl | exact deref_non | exact ty_non | exact deref_str | exact ty_str | exact deref_lst | exact ty_lst | (refine mulOk_sz ?_ ?_ <;> (repeat' (first | exact Sz.mono (by assumption) (by decide) | exact Sz.mono (B.n (by assumption)) (by decide) | exact Sz.mono (B.d (by assumption)) (by decide) | exact Sz.of (m := 1000000000000) (by omega) (by decide) | exact Sz.of (m := 1000000) (by omega) (by decide) | exact B.mono (by assumption) (by decide) | exact ⟨Sz.of (m := 1000000000000) (by omega) (by decide), Sz.of (m := 1000000000000) (by omega) (by decide)⟩ | apply Sz.mul2 | (refine Sz.add2 ?_ ?_ (by decide)) | (refine Sz.sub2 ?_ ?_ (by decide)) | apply Sz.neg | apply B.mul2 | (refine B.add2 ?_ ?_ (by decide)) | (refine B.sub2 ?_ ?_ (by decide)) | apply B.neg)); done) | (refine nice_ok ?_; (repeat' (first | exact nice_shr | exact nice_spt | exact nice_mpv | exact nice_int | exact nice_bl | exact nice_non | exact nicel_nil | refine nicel_cons ?_ ?_ | refine nice_tup (by simp) ?_ | refine nice_lst (by simp) ?_)); done) | ((repeat' (first | exact Sz.mono (by assumption) (by decide) | exact Sz.mono (B.n (by assumption)) (by decide) | exact Sz.mono (B.d (by assumption)) (by decide) | exact Sz.of (m := 1000000000000) (by omega) (by decide) | exact Sz.of (m := 1000000) (by omega) (by decide) | exact B.mono (by assumption) (by decide) | exact ⟨Sz.of (m := 1000000000000) (by omega) (by decide), Sz.of (m := 1000000000000) (by omega) (by decide)⟩ | apply Sz.mul2 | (refine Sz.add2 ?_ ?_ (by decide)) | (refine Sz.sub2 ?_ ?_ (by decide)) | apply Sz.neg | apply B.mul2 | (refine B.add2 ?_ ?_ (by decide)) | (refine B.sub2 ?_ ?_ (by decide)) | apply B.neg)); done) | (unfold tB; simp; done) | decide)) only [S_done, S_asg, S_asgT, S_par, S_sub, S_expr, S_if, S_for, S_forB, S_ret, S_retN, E_var, E_cst, E_gl, E_yes, E_tup, E_lst, E_mkl, E_bin, E_mkb, E_neg, E_not, E_cmp, E_chain, E_isN, E_isB, E_and, E_or, E_ite, E_idx, E_rev, E_slc, P_non, P_cst, P_var, P_bin, P_neg, P_call, P_blt, E_call, E_blt, E_mkt, E_isi, E_app, Es_nil, Es_cons, E_T, E_alloc, E_lc, E_mkc, LC_nil, LC_cons, LC_B, lcQ, accO, bls, Option.map_some, List.all_cons, List.all_nil, id_eq, Bool.and_true, OkO_some, OkI_t, OkI_f, Ok_ok, OkS_next, OkS_ret, deref_int, deref_bl, deref_str, deref_non, deref_tup, deref_lst, deref_fn, deref_frz, deref_r0, deref_r1, deref_r2, T_bl, T_int, T_tup, T_lst, T_non, B_addI, B_addL, B_addT, B_subI, C_ltI, C_leI, C_gtI, C_geI, C_eqI, C_eqB, C_neB, C_neI, I_tup, I_lst, L_tup, L_lst, L_abs, L_max, L_min, L_int, L_tupL, L_tupT, L_listT, L_listL, L_listF, L_all, L_any, It_L, It_T, It_r1, It_r2, negO_int, intO_int, isBo, setAll, atI_0, atI_1, atI_2, atI_3, get_0, get_1, get_2, get_3, get_4, get_5, get_6, get_7, get_8, get_9, get_10, get_11, get_12, get_13, get_14, get_15, get_16, set_0, set_1, set_2, set_3, set_4, set_5, set_6, set_7, set_8, set_9, set_10, set_11, set_12, set_13, set_14, set_15, set_16, List.map_cons, List.map_nil, List.cons_append, List.nil_append, List.replicate_succ, List.replicate_zero, List.append_nil, List.length_cons, List.length_nil, if_true, if_false, Bool.not_true, Bool.not_false, Bool.false_eq_true, Nat.sub_self, Nat.reduceSub, Nat.reduceAdd, Nat.zero_add, Nat.reduceLeDiff, lim, and_true, true_and, decide_true, decide_false, PV.isRef, wipeE, B_mulI', B_divI', B_modI', decT, decF, I_shr0, I_shr1, D_shr, OkS_for_nil, C_eqR, C_neR, C_eqNil, C_neNil, C_eqI1, C_eqI2, C_eqB1, Rv_tup, Rv_lst, List.reverse_cons, List.reverse_nil, isTy, isNo_shr, isNo_tup, isNo_non, isNo_int, isNo_bl, isNo_str, isNo_lst, isNo_ref, bne_self_eq_false, Bool.bne_true, Bool.bne_false, Bool.true_bne, Bool.false_bne, bindT_nm, bindT_tp, bindT_shr, bindTs_nil, bindTs_cons, Option.bind_some, Int.toNat_natCast, get_17, set_17, get_18, set_18, get_19, set_19, get_20, set_20, E_sst, E_lrg, Rg_l, Rg_t, L_sum, inl, get_21, set_21, get_22, set_22, get_23, set_23, get_24, set_24, get_25, set_25, get_26, set_26, get_27, set_27, get_28, set_28, get_29, set_29, get_30, set_30, E_ktp, E_cnt]
  refine Ok_eq (lc_rlif (n := (hi + 1 - lo).toNat) (p := fun i => decide (((rowR a b c d lo i).den : Int) = 1)) (g := fun i => .tup [.int (lo + (i : Nat)), .int (rowR a b c d lo i).num]) (by omega) fun i hi2 => lcB_ok ?_) ?_
  · by_cases z : ((rowR a b c d lo i).den : Int) = 1
    · simp -dsimp (disch := first | (refine OM.mk ?_; first | omega | assumption | rfl) | ((fail_if_success refine OM.mk ?_); first | assumption | omega | exact deref_int | exact ty_int | exact deref_tup | exact ty_tup | exact D_shr | exact ty_shr | exact deref_bl | exact ty_bl | exact deref_non | exact ty_non | exact deref_str | exact ty_str | exact deref_lst | exact ty_lst | (refine mulOk_sz ?_ ?_ <;> (repeat' (first | exact Sz.mono (by assumption) (by decide) | exact Sz.mono (B.n (by assumption)) (by decide) | exact Sz.mono (B.d (by assumption)) (by decide) | exact Sz.of (m := 1000000000000) (by omega) (by decide) | exact Sz.of (m := 1000000) (by omega) (by decide) | exact B.mono (by assumption) (by decide) | exact ⟨Sz.of (m := 1000000000000) (by omega) (by decide), Sz.of (m := 1000000000000) (by omega) (by decide)⟩ | apply Sz.mul2 | (refine Sz.add2 ?_ ?_ (by decide)) | (refine Sz.sub2 ?_ ?_ (by decide)) | apply Sz.neg | apply B.mul2 | (refine B.add2 ?_ ?_ (by decide)) | (refine B.sub2 ?_ ?_ (by decide)) | apply B.neg)); done) | (refine nice_ok ?_; (repeat' (first | exact nice_shr | exact nice_spt | exact nice_mpv | exact nice_int | exact nice_bl | exact nice_non | exact nicel_nil | refine nicel_cons ?_ ?_ | refine nice_tup (by simp) ?_ | refine nice_lst (by simp) ?_)); done) | ((repeat' (first | exact Sz.mono (by assumption) (by decide) | exact Sz.mono (B.n (by assumption)) (by decide) | exact Sz.mono (B.d (by assumption)) (by decide) | exact Sz.of (m := 1000000000000) (by omega) (by decide) | exact Sz.of (m := 1000000) (by omega) (by decide) | exact B.mono (by assumption) (by decide) | exact ⟨Sz.of (m := 1000000000000) (by omega) (by decide), Sz.of (m := 1000000000000) (by omega) (by decide)⟩ | apply Sz.mul2 | (refine Sz.add2 ?_ ?_ (by decide)) | (refine Sz.sub2 ?_ ?_ (by decide)) | apply Sz.neg | apply B.mul2 | (refine B.add2 ?_ ?_ (by decide)) | (refine B.sub2 ?_ ?_ (by decide)) | apply B.neg)); done) | (unfold tB; simp; done) | decide)) only [S_done, S_asg, S_asgT, S_par, S_sub, S_expr, S_if, S_for, S_forB, S_ret, S_retN, E_var, E_cst, E_gl, E_yes, E_tup, E_lst, E_mkl, E_bin, E_mkb, E_neg, E_not, E_cmp, E_chain, E_isN, E_isB, E_and, E_or, E_ite, E_idx, E_rev, E_slc, P_non, P_cst, P_var, P_bin, P_neg, P_call, P_blt, E_call, E_blt, E_mkt, E_isi, E_app, Es_nil, Es_cons, E_T, E_alloc, E_lc, E_mkc, LC_nil, LC_cons, LC_B, lcQ, accO, bls, Option.map_some, List.all_cons, List.all_nil, id_eq, Bool.and_true, OkO_some, OkI_t, OkI_f, Ok_ok, OkS_next, OkS_ret, deref_int, deref_bl, deref_str, deref_non, deref_tup, deref_lst, deref_fn, deref_frz, deref_r0, deref_r1, deref_r2, T_bl, T_int, T_tup, T_lst, T_non, B_addI, B_addL, B_addT, B_subI, C_ltI, C_leI, C_gtI, C_geI, C_eqI, C_eqB, C_neB, C_neI, I_tup, I_lst, L_tup, L_lst, L_abs, L_max, L_min, L_int, L_tupL, L_tupT, L_listT, L_listL, L_listF, L_all, L_any, It_L, It_T, It_r1, It_r2, negO_int, intO_int, isBo, setAll, atI_0, atI_1, atI_2, atI_3, get_0, get_1, get_2, get_3, get_4, get_5, get_6, get_7, get_8, get_9, get_10, get_11, get_12, get_13, get_14, get_15, get_16, set_0, set_1, set_2, set_3, set_4, set_5, set_6, set_7, set_8, set_9, set_10, set_11, set_12, set_13, set_14, set_15, set_16, List.map_cons, List.map_nil, List.cons_append, List.nil_append, List.replicate_succ, List.replicate_zero, List.append_nil, List.length_cons, List.length_nil, if_true, if_false, Bool.not_true, Bool.not_false, Bool.false_eq_true, Nat.sub_self, Nat.reduceSub, Nat.reduceAdd, Nat.zero_add, Nat.reduceLeDiff, lim, and_true, true_and, decide_true, decide_false, PV.isRef, wipeE, B_mulI', B_divI', B_modI', decT, decF, I_shr0, I_shr1, D_shr, OkS_for_nil, C_eqR, C_neR, C_eqNil, C_neNil, C_eqI1, C_eqI2, C_eqB1, Rv_tup, Rv_lst, List.reverse_cons, List.reverse_nil, isTy, isNo_shr, isNo_tup, isNo_non, isNo_int, isNo_bl, isNo_str, isNo_lst, isNo_ref, bne_self_eq_false, Bool.bne_true, Bool.bne_false, Bool.true_bne, Bool.false_bne, bindT_nm, bindT_tp, bindT_shr, bindTs_nil, bindTs_cons, Option.bind_some, Int.toNat_natCast, get_17, set_17, get_18, set_18, get_19, set_19, get_20, set_20, E_sst, E_lrg, Rg_l, Rg_t, L_sum, inl, get_21, set_21, get_22, set_22, get_23, set_23, get_24, set_24, get_25, set_25, get_26, set_26, get_27, set_27, get_28, set_28, get_29, set_29, get_30, set_30, E_ktp, E_cnt, z]
    · simp -dsimp (disch := first | (refine OM.mk ?_; first | omega | assumption | rfl) | ((fail_if_success refine OM.mk ?_); first | assumption | omega | exact deref_int | exact ty_int | exact deref_tup | exact ty_tup | exact D_shr | exact ty_shr | exact deref_bl | exact ty_bl | exact deref_non | exact ty_non | exact deref_str | exact ty_str | exact deref_lst | exact ty_lst | (refine mulOk_sz ?_ ?_ <;> (repeat' (first | exact Sz.mono (by assumption) (by decide) | exact Sz.mono (B.n (by assumption)) (by decide) | exact Sz.mono (B.d (by assumption)) (by decide) | exact Sz.of (m := 1000000000000) (by omega) (by decide) | exact Sz.of (m := 1000000) (by omega) (by decide) | exact B.mono (by assumption) (by decide) | exact ⟨Sz.of (m := 1000000000000) (by omega) (by decide), Sz.of (m := 1000000000000) (by omega) (by decide)⟩ | apply Sz.mul2 | (refine Sz.add2 ?_ ?_ (by decide)) | (refine Sz.sub2 ?_ ?_ (by decide)) | apply Sz.neg | apply B.mul2 | (refine B.add2 ?_ ?_ (by decide)) | (refine B.sub2 ?_ ?_ (by decide)) | apply B.neg)); done) | (refine nice_ok ?_; (repeat' (first | exact nice_shr | exact nice_spt | exact nice_mpv | exact nice_int | exact nice_bl | exact nice_non | exact nicel_nil | refine nicel_cons ?_ ?_ | refine nice_tup (by simp) ?_ | refine nice_lst (by simp) ?_)); done) | ((repeat' (first | exact Sz.mono (by assumption) (by decide) | exact Sz.mono (B.n (by assumption)) (by decide) | exact Sz.mono (B.d (by assumption)) (by decide) | exact Sz.of (m := 1000000000000) (by omega) (by decide) | exact Sz.of (m := 1000000) (by omega) (by decide) | exact B.mono (by assumption) (by decide) | exact ⟨Sz.of (m := 1000000000000) (by omega) (by decide), Sz.of (m := 1000000000000) (by omega) (by decide)⟩ | apply Sz.mul2 | (refine Sz.add2 ?_ ?_ (by decide)) | (refine Sz.sub2 ?_ ?_ (by decide)) | apply Sz.neg | apply B.mul2 | (refine B.add2 ?_ ?_ (by decide)) | (refine B.sub2 ?_ ?_ (by decide)) | apply B.neg)); done) | (unfold tB; simp; done) | decide)) only [S_done, S_asg, S_asgT, S_par, S_sub, S_expr, S_if, S_for, S_forB, S_ret, S_retN, E_var, E_cst, E_gl, E_yes, E_tup, E_lst, E_mkl, E_bin, E_mkb, E_neg, E_not, E_cmp, E_chain, E_isN, E_isB, E_and, E_or, E_ite, E_idx, E_rev, E_slc, P_non, P_cst, P_var, P_bin, P_neg, P_call, P_blt, E_call, E_blt, E_mkt, E_isi, E_app, Es_nil, Es_cons, E_T, E_alloc, E_lc, E_mkc, LC_nil, LC_cons, LC_B, lcQ, accO, bls, Option.map_some, List.all_cons, List.all_nil, id_eq, Bool.and_true, OkO_some, OkI_t, OkI_f, Ok_ok, OkS_next, OkS_ret, deref_int, deref_bl, deref_str, deref_non, deref_tup, deref_lst, deref_fn, deref_frz, deref_r0, deref_r1, deref_r2, T_bl, T_int, T_tup, T_lst, T_non, B_addI, B_addL, B_addT, B_subI, C_ltI, C_leI, C_gtI, C_geI, C_eqI, C_eqB, C_neB, C_neI, I_tup, I_lst, L_tup, L_lst, L_abs, L_max, L_min, L_int, L_tupL, L_tupT, L_listT, L_listL, L_listF, L_all, L_any, It_L, It_T, It_r1, It_r2, negO_int, intO_int, isBo, setAll, atI_0, atI_1, atI_2, atI_3, get_0, get_1, get_2, get_3, get_4, get_5, get_6, get_7, get_8, get_9, get_10, get_11, get_12, get_13, get_14, get_15, get_16, set_0, set_1, set_2, set_3, set_4, set_5, set_6, set_7, set_8, set_9, set_10, set_11, set_12, set_13, set_14, set_15, set_16, List.map_cons, List.map_nil, List.cons_append, List.nil_append, List.replicate_succ, List.replicate_zero, List.append_nil, List.length_cons, List.length_nil, if_true, if_false, Bool.not_true, Bool.not_false, Bool.false_eq_true, Nat.sub_self, Nat.reduceSub, Nat.reduceAdd, Nat.zero_add, Nat.reduceLeDiff, lim, and_true, true_and, decide_true, decide_false, PV.isRef, wipeE, B_mulI', B_divI', B_modI', decT, decF, I_shr0, I_shr1, D_shr, OkS_for_nil, C_eqR, C_neR, C_eqNil, C_neNil, C_eqI1, C_eqI2, C_eqB1, Rv_tup, Rv_lst, List.reverse_cons, List.reverse_nil, isTy, isNo_shr, isNo_tup, isNo_non, isNo_int, isNo_bl, isNo_str, isNo_lst, isNo_ref, bne_self_eq_false, Bool.bne_true, Bool.bne_false, Bool.true_bne, Bool.false_bne, bindT_nm, bindT_tp, bindT_shr, bindTs_nil, bindTs_cons, Option.bind_some, Int.toNat_natCast, get_17, set_17, get_18, set_18, get_19, set_19, get_20, set_20, E_sst, E_lrg, Rg_l, Rg_t, L_sum, inl, get_21, set_21, get_22, set_22, get_23, set_23, get_24, set_24, get_25, set_25, get_26, set_26, get_27, set_27, get_28, set_28, get_29, set_29, get_30, set_30, E_ktp, E_cnt, z]
  simp -dsimp (disch := first | (refine OM.mk ?_; first | omega | assumption | rfl) | ((fail_if_success refine OM.mk ?_); first | assumption | omega | exact deref_int | exact ty_int | exact deref_tup | exact ty_tup | exact D_shr | exact ty_shr | exact deref_bl | exact ty_bl | exact deref_non | exact ty_non | exact deref_str | exact ty_str | exact deref_lst | exact ty_lst | (refine mulOk_sz ?_ ?_ <;> (repeat' (first | exact Sz.mono (by assumption) (by decide) | exact Sz.mono (B.n (by assumption)) (by decide) | exact Sz.mono (B.d (by assumption)) (by decide) | exact Sz.of (m := 1000000000000) (by omega) (by decide) | exact Sz.of (m := 1000000) (by omega) (by decide) | exact B.mono (by assumption) (by decide) | exact ⟨Sz.of (m := 1000000000000) (by omega) (by decide), Sz.of (m := 1000000000000) (by omega) (by decide)⟩ | apply Sz.mul2 | (refine Sz.add2 ?_ ?_ (by decide)) | (refine Sz.sub2 ?_ ?_ (by decide)) | apply Sz.neg | apply B.mul2 | (refine B.add2 ?_ ?_ (by decide)) | (refine B.sub2 ?_ ?_ (by decide)) | apply B.neg)); done) | (refine nice_ok ?_; (repeat' (first | exact nice_shr | exact nice_spt | exact nice_mpv | exact nice_int | exact nice_bl | exact nice_non | exact nicel_nil | refine nicel_cons ?_ ?_ | refine nice_tup (by simp) ?_ | refine nice_lst (by simp) ?_)); done) | ((repeat' (first | exact Sz.mono (by assumption) (by decide) | exact Sz.mono (B.n (by assumption)) (by decide) | exact Sz.mono (B.d (by assumption)) (by decide) | exact Sz.of (m := 1000000000000) (by omega) (by decide) | exact Sz.of (m := 1000000) (by omega) (by decide) | exact B.mono (by assumption) (by decide) | exact ⟨Sz.of (m := 1000000000000) (by omega) (by decide), Sz.of (m := 1000000000000) (by omega) (by decide)⟩ | apply Sz.mul2 | (refine Sz.add2 ?_ ?_ (by decide)) | (refine Sz.sub2 ?_ ?_ (by decide)) | apply Sz.neg | apply B.mul2 | (refine B.add2 ?_ ?_ (by decide)) | (refine B.sub2 ?_ ?_ (by decide)) | apply B.neg)); done) | (unfold tB; simp; done) | decide)) only [S_done, S_asg, S_asgT, S_par, S_sub, S_expr, S_if, S_for, S_forB, S_ret, S_retN, E_var, E_cst, E_gl, E_yes, E_tup, E_lst, E_mkl, E_bin, E_mkb, E_neg, E_not, E_cmp, E_chain, E_isN, E_isB, E_and, E_or, E_ite, E_idx, E_rev, E_slc, P_non, P_cst, P_var, P_bin, P_neg, P_call, P_blt, E_call, E_blt, E_mkt, E_isi, E_app, Es_nil, Es_cons, E_T, E_alloc, E_lc, E_mkc, LC_nil, LC_cons, LC_B, lcQ, accO, bls, Option.map_some, List.all_cons, List.all_nil, id_eq, Bool.and_true, OkO_some, OkI_t, OkI_f, Ok_ok, OkS_next, OkS_ret, deref_int, deref_bl, deref_str, deref_non, deref_tup, deref_lst, deref_fn, deref_frz, deref_r0, deref_r1, deref_r2, T_bl, T_int, T_tup, T_lst, T_non, B_addI, B_addL, B_addT, B_subI, C_ltI, C_leI, C_gtI, C_geI, C_eqI, C_eqB, C_neB, C_neI, I_tup, I_lst, L_tup, L_lst, L_abs, L_max, L_min, L_int, L_tupL, L_tupT, L_listT, L_listL, L_listF, L_all, L_any, It_L, It_T, It_r1, It_r2, negO_int, intO_int, isBo, setAll, atI_0, atI_1, atI_2, atI_3, get_0, get_1, get_2, get_3, get_4, get_5, get_6, get_7, get_8, get_9, get_10, get_11, get_12, get_13, get_14, get_15, get_16, set_0, set_1, set_2, set_3, set_4, set_5, set_6, set_7, set_8, set_9, set_10, set_11, set_12, set_13, set_14, set_15, set_16, List.map_cons, List.map_nil, List.cons_append, List.nil_append, List.replicate_succ, List.replicate_zero, List.append_nil, List.length_cons, List.length_nil, if_true, if_false, Bool.not_true, Bool.not_false, Bool.false_eq_true, Nat.sub_self, Nat.reduceSub, Nat.reduceAdd, Nat.zero_add, Nat.reduceLeDiff, lim, and_true, true_and, decide_true, decide_false, PV.isRef, wipeE, B_mulI', B_divI', B_modI', decT, decF, I_shr0, I_shr1, D_shr, OkS_for_nil, C_eqR, C_neR, C_eqNil, C_neNil, C_eqI1, C_eqI2, C_eqB1, Rv_tup, Rv_lst, List.reverse_cons, List.reverse_nil, isTy, isNo_shr, isNo_tup, isNo_non, isNo_int, isNo_bl, isNo_str, isNo_lst, isNo_ref, bne_self_eq_false, Bool.bne_true, Bool.bne_false, Bool.true_bne, Bool.false_bne, bindT_nm, bindT_tp, bindT_shr, bindTs_nil, bindTs_cons, Option.bind_some, Int.toNat_natCast, get_17, set_17, get_18, set_18, get_19, set_19, get_20, set_20, E_sst, E_lrg, Rg_l, Rg_t, L_sum, inl, get_21, set_21, get_22, set_22, get_23, set_23, get_24, set_24, get_25, set_25, get_26, set_26, get_27, set_27, get_28, set_28, get_29, set_29, get_30, set_30, E_ktp, E_cnt]
theorem ss_map {α : Type} {l : List α} {f : α → Int} (h : l.length < 64) : pySS (.lst (l.map fun i => .int (f i))) = some (.lst ((sset (l.map f)).map .int)) := by
  unfold pySS
  simp only [inl_map, List.length_map]
  rw [if_pos h]
/-- the table -/
def tabL (a b c d lo hi : Int) : List Int := (List.range (hi + 1 - lo).toNat).map fun i => nr (rowR a b c d lo i)
theorem sp_doubled {a b c d lo hi : Int} (hn : 7 ≤ n) (hW : 5000 ≤ W) (h : fsc a b) (g : fsc c d) (hr : rng lo hi) (h60 : hi - lo ≤ 60) : callN Tb W n i_doubled_readings [scv a b, scv c d, .int lo, .int hi] st =
    .ok (.tup ((sset ((tabL a b c d lo hi).filter fun x => decide (1 < (tabL a b c d lo hi).count x))).map .int)) st := by
  obtain ⟨n, rfl⟩ : ∃ m, n = m + 1 := ⟨n - 1, by omega⟩
  refine call_eq T_doubled_readings rfl ?_
  have h2 := hr.m
  simp -dsimp (disch := first | (refine OM.mk ?_; first | omega | assumption | rfl) | ((fail_if_success refine OM.mk ?_); first | assumption | omega | exact deref_int | exact ty_int | exact deref_tup | exact ty_tup | exact D_shr | exact ty_shr | exact deref_bl | exact ty_bl | exact deref_non | exact ty_non | exact deref_str | exact ty_str | exact deref_lst | exact ty_lst | (refine mulOk_sz ?_ ?_ <;> (repeat' (first | exact Sz.mono (by assumption) (by decide) | exact Sz.mono (B.n (by assumption)) (by decide) | exact Sz.mono (B.d (by assumption)) (by decide) | exact Sz.of (m := 1000000000000) (by omega) (by decide) | exact Sz.of (m := 1000000) (by omega) (by decide) | exact B.mono (by assumption) (by decide) | exact ⟨Sz.of (m := 1000000000000) (by omega) (by decide), Sz.of (m := 1000000000000) (by omega) (by decide)⟩ | apply Sz.mul2 | (refine Sz.add2 ?_ ?_ (by decide)) | (refine Sz.sub2 ?_ ?_ (by decide)) | apply Sz.neg | apply B.mul2 | (refine B.add2 ?_ ?_ (by decide)) | (refine B.sub2 ?_ ?_ (by decide)) | apply B.neg)); done) | (refine nice_ok ?_; (repeat' (first | exact nice_shr | exact nice_spt | exact nice_mpv | exact nice_int | exact nice_bl | exact nice_non | exact nicel_nil | refine nicel_cons ?_ ?_ | refine nice_tup (by simp) ?_ | refine nice_lst (by simp) ?_)); done) | ((repeat' (first | exact Sz.mono (by assumption) (by decide) | exact Sz.mono (B.n (by assumption)) (by decide) | exact Sz.mono (B.d (by assumption)) (by decide) | exact Sz.of (m := 1000000000000) (by omega) (by decide) | exact Sz.of (m := 1000000) (by omega) (by decide) | exact B.mono (by assumption) (by decide) | exact ⟨Sz.of (m := 1000000000000) (by omega) (by decide), Sz.of (m := 1000000000000) (by omega) (by decide)⟩ | apply Sz.mul2 | (refine Sz.add2 ?_ ?_ (by decide)) | (refine Sz.sub2 ?_ ?_ (by decide)) | apply Sz.neg | apply B.mul2 | (refine B.add2 ?_ ?_ (by decide)) | (refine B.sub2 ?_ ?_ (by decide)) | apply B.neg)); done) | (unfold tB; simp; done) | decide)) only [d_doubled_readings, b_doubled_readings, S_done, S_asg, S_asgT, S_par, S_sub, S_expr, S_if, S_for, S_forB, S_ret, S_retN, E_var, E_cst, E_gl, E_yes, E_tup, E_lst, E_mkl, E_bin, E_mkb, E_neg, E_not, E_cmp, E_chain, E_isN, E_isB, E_and, E_or, E_ite, E_idx, E_rev, E_slc, P_non, P_cst, P_var, P_bin, P_neg, P_call, P_blt, E_call, E_blt, E_mkt, E_isi, E_app, Es_nil, Es_cons, E_T, E_alloc, E_lc, E_mkc, LC_nil, LC_cons, LC_B, lcQ, accO, bls, Option.map_some, List.all_cons, List.all_nil, id_eq, Bool.and_true, OkO_some, OkI_t, OkI_f, Ok_ok, OkS_next, OkS_ret, deref_int, deref_bl, deref_str, deref_non, deref_tup, deref_lst, deref_fn, deref_frz, deref_r0, deref_r1, deref_r2, T_bl, T_int, T_tup, T_lst, T_non, B_addI, B_addL, B_addT, B_subI, C_ltI, C_leI, C_gtI, C_geI, C_eqI, C_eqB, C_neB, C_neI, I_tup, I_lst, L_tup, L_lst, L_abs, L_max, L_min, L_int, L_tupL, L_tupT, L_listT, L_listL, L_listF, L_all, L_any, It_L, It_T, It_r1, It_r2, negO_int, intO_int, isBo, setAll, atI_0, atI_1, atI_2, atI_3, get_0, get_1, get_2, get_3, get_4, get_5, get_6, get_7, get_8, get_9, get_10, get_11, get_12, get_13, get_14, get_15, get_16, set_0, set_1, set_2, set_3, set_4, set_5, set_6, set_7, set_8, set_9, set_10, set_11, set_12, set_13, set_14, set_15, set_16, List.map_cons, List.map_nil, List.cons_append, List.nil_append, List.replicate_succ, List.replicate_zero, List.append_nil, List.length_cons, List.length_nil, if_true, if_false, Bool.not_true, Bool.not_false, Bool.false_eq_true, Nat.sub_self, Nat.reduceSub, Nat.reduceAdd, Nat.zero_add, Nat.reduceLeDiff, lim, and_true, true_and, decide_true, decide_false, PV.isRef, wipeE, B_mulI', B_divI', B_modI', decT, decF, I_shr0, I_shr1, D_shr, OkS_for_nil, C_eqR, C_neR, C_eqNil, C_neNil, C_eqI1, C_eqI2, C_eqB1, Rv_tup, Rv_lst, List.reverse_cons, List.reverse_nil, isTy, isNo_shr, isNo_tup, isNo_non, isNo_int, isNo_bl, isNo_str, isNo_lst, isNo_ref, bne_self_eq_false, Bool.bne_true, Bool.bne_false, Bool.true_bne, Bool.false_bne, bindT_nm, bindT_tp, bindT_shr, bindTs_nil, bindTs_cons, Option.bind_some, Int.toNat_natCast, get_17, set_17, get_18, set_18, get_19, set_19, get_20, set_20, E_sst, E_lrg, Rg_l, Rg_t, L_sum, inl, get_21, set_21, get_22, set_22, get_23, set_23, get_24, set_24, get_25, set_25, get_26, set_26, get_27, set_27, get_28, set_28, get_29, set_29, get_30, set_30, E_ktp, E_cnt, sp_nearest, It_K]
  refine Ok_eq (lc_rlif (n := (hi + 1 - lo).toNat) (p := fun i => decide (1 < (tabL a b c d lo hi).count (nr (rowR a b c d lo i)))) (g := fun i => .int (nr (rowR a b c d lo i))) (by omega) fun i hi2 => lcB_ok ?_) ?_
  · have e : (List.range (hi + 1 - lo).toNat).map (fun i => nr (rowR a b c d lo i)) = tabL a b c d lo hi := rfl
    by_cases z : 1 < (tabL a b c d lo hi).count (nr (rowR a b c d lo i))
    · have zi : (1 : Int) < (((tabL a b c d lo hi).count (nr (rowR a b c d lo i)) : Nat) : Int) := by omega
      simp -dsimp (disch := first | (refine OM.mk ?_; first | omega | assumption | rfl) | ((fail_if_success refine OM.mk ?_); first | assumption | omega | exact deref_int | exact ty_int | exact deref_tup | exact ty_tup | exact D_shr | exact ty_shr | exact deref_bl | exact ty_bl | exact deref_non | exact ty_non | exact deref_str | exact ty_str | exact deref_lst | exact ty_lst | (refine mulOk_sz ?_ ?_ <;> (repeat' (first | exact Sz.mono (by assumption) (by decide) | exact Sz.mono (B.n (by assumption)) (by decide) | exact Sz.mono (B.d (by assumption)) (by decide) | exact Sz.of (m := 1000000000000) (by omega) (by decide) | exact Sz.of (m := 1000000) (by omega) (by decide) | exact B.mono (by assumption) (by decide) | exact ⟨Sz.of (m := 1000000000000) (by omega) (by decide), Sz.of (m := 1000000000000) (by omega) (by decide)⟩ | apply Sz.mul2 | (refine Sz.add2 ?_ ?_ (by decide)) | (refine Sz.sub2 ?_ ?_ (by decide)) | apply Sz.neg | apply B.mul2 | (refine B.add2 ?_ ?_ (by decide)) | (refine B.sub2 ?_ ?_ (by decide)) | apply B.neg)); done) | (refine nice_ok ?_; (repeat' (first | exact nice_shr | exact nice_spt | exact nice_mpv | exact nice_int | exact nice_bl | exact nice_non | exact nicel_nil | refine nicel_cons ?_ ?_ | refine nice_tup (by simp) ?_ | refine nice_lst (by simp) ?_)); done) | ((repeat' (first | exact Sz.mono (by assumption) (by decide) | exact Sz.mono (B.n (by assumption)) (by decide) | exact Sz.mono (B.d (by assumption)) (by decide) | exact Sz.of (m := 1000000000000) (by omega) (by decide) | exact Sz.of (m := 1000000) (by omega) (by decide) | exact B.mono (by assumption) (by decide) | exact ⟨Sz.of (m := 1000000000000) (by omega) (by decide), Sz.of (m := 1000000000000) (by omega) (by decide)⟩ | apply Sz.mul2 | (refine Sz.add2 ?_ ?_ (by decide)) | (refine Sz.sub2 ?_ ?_ (by decide)) | apply Sz.neg | apply B.mul2 | (refine B.add2 ?_ ?_ (by decide)) | (refine B.sub2 ?_ ?_ (by decide)) | apply B.neg)); done) | (unfold tB; simp; done) | decide)) only [S_done, S_asg, S_asgT, S_par, S_sub, S_expr, S_if, S_for, S_forB, S_ret, S_retN, E_var, E_cst, E_gl, E_yes, E_tup, E_lst, E_mkl, E_bin, E_mkb, E_neg, E_not, E_cmp, E_chain, E_isN, E_isB, E_and, E_or, E_ite, E_idx, E_rev, E_slc, P_non, P_cst, P_var, P_bin, P_neg, P_call, P_blt, E_call, E_blt, E_mkt, E_isi, E_app, Es_nil, Es_cons, E_T, E_alloc, E_lc, E_mkc, LC_nil, LC_cons, LC_B, lcQ, accO, bls, Option.map_some, List.all_cons, List.all_nil, id_eq, Bool.and_true, OkO_some, OkI_t, OkI_f, Ok_ok, OkS_next, OkS_ret, deref_int, deref_bl, deref_str, deref_non, deref_tup, deref_lst, deref_fn, deref_frz, deref_r0, deref_r1, deref_r2, T_bl, T_int, T_tup, T_lst, T_non, B_addI, B_addL, B_addT, B_subI, C_ltI, C_leI, C_gtI, C_geI, C_eqI, C_eqB, C_neB, C_neI, I_tup, I_lst, L_tup, L_lst, L_abs, L_max, L_min, L_int, L_tupL, L_tupT, L_listT, L_listL, L_listF, L_all, L_any, It_L, It_T, It_r1, It_r2, negO_int, intO_int, isBo, setAll, atI_0, atI_1, atI_2, atI_3, get_0, get_1, get_2, get_3, get_4, get_5, get_6, get_7, get_8, get_9, get_10, get_11, get_12, get_13, get_14, get_15, get_16, set_0, set_1, set_2, set_3, set_4, set_5, set_6, set_7, set_8, set_9, set_10, set_11, set_12, set_13, set_14, set_15, set_16, List.map_cons, List.map_nil, List.cons_append, List.nil_append, List.replicate_succ, List.replicate_zero, List.append_nil, List.length_cons, List.length_nil, if_true, if_false, Bool.not_true, Bool.not_false, Bool.false_eq_true, Nat.sub_self, Nat.reduceSub, Nat.reduceAdd, Nat.zero_add, Nat.reduceLeDiff, lim, and_true, true_and, decide_true, decide_false, PV.isRef, wipeE, B_mulI', B_divI', B_modI', decT, decF, I_shr0, I_shr1, D_shr, OkS_for_nil, C_eqR, C_neR, C_eqNil, C_neNil, C_eqI1, C_eqI2, C_eqB1, Rv_tup, Rv_lst, List.reverse_cons, List.reverse_nil, isTy, isNo_shr, isNo_tup, isNo_non, isNo_int, isNo_bl, isNo_str, isNo_lst, isNo_ref, bne_self_eq_false, Bool.bne_true, Bool.bne_false, Bool.true_bne, Bool.false_bne, bindT_nm, bindT_tp, bindT_shr, bindTs_nil, bindTs_cons, Option.bind_some, Int.toNat_natCast, get_17, set_17, get_18, set_18, get_19, set_19, get_20, set_20, E_sst, E_lrg, Rg_l, Rg_t, L_sum, inl, get_21, set_21, get_22, set_22, get_23, set_23, get_24, set_24, get_25, set_25, get_26, set_26, get_27, set_27, get_28, set_28, get_29, set_29, get_30, set_30, E_ktp, E_cnt, ktpL_k, cnt_rl, e, z, zi]
    · have zi : ¬ (1 : Int) < (((tabL a b c d lo hi).count (nr (rowR a b c d lo i)) : Nat) : Int) := by omega
      simp -dsimp (disch := first | (refine OM.mk ?_; first | omega | assumption | rfl) | ((fail_if_success refine OM.mk ?_); first | assumption | omega | exact deref_int | exact ty_int | exact deref_tup | exact ty_tup | exact D_shr | exact ty_shr | exact deref_bl | exact ty_bl | exact deref_non | exact ty_non | exact deref_str | exact ty_str | exact deref_lst | exact ty_lst | (refine mulOk_sz ?_ ?_ <;> (repeat' (first | exact Sz.mono (by assumption) (by decide) | exact Sz.mono (B.n (by assumption)) (by decide) | exact Sz.mono (B.d (by assumption)) (by decide) | exact Sz.of (m := 1000000000000) (by omega) (by decide) | exact Sz.of (m := 1000000) (by omega) (by decide) | exact B.mono (by assumption) (by decide) | exact ⟨Sz.of (m := 1000000000000) (by omega) (by decide), Sz.of (m := 1000000000000) (by omega) (by decide)⟩ | apply Sz.mul2 | (refine Sz.add2 ?_ ?_ (by decide)) | (refine Sz.sub2 ?_ ?_ (by decide)) | apply Sz.neg | apply B.mul2 | (refine B.add2 ?_ ?_ (by decide)) | (refine B.sub2 ?_ ?_ (by decide)) | apply B.neg)); done) | (refine nice_ok ?_; (repeat' (first | exact nice_shr | exact nice_spt | exact nice_mpv | exact nice_int | exact nice_bl | exact nice_non | exact nicel_nil | refine nicel_cons ?_ ?_ | refine nice_tup (by simp) ?_ | refine nice_lst (by simp) ?_)); done) | ((repeat' (first | exact Sz.mono (by assumption) (by decide) | exact Sz.mono (B.n (by assumption)) (by decide) | exact Sz.mono (B.d (by assumption)) (by decide) | exact Sz.of (m := 1000000000000) (by omega) (by decide) | exact Sz.of (m := 1000000) (by omega) (by decide) | exact B.mono (by assumption) (by decide) | exact ⟨Sz.of (m := 1000000000000) (by omega) (by decide), Sz.of (m := 1000000000000) (by omega) (by decide)⟩ | apply Sz.mul2 | (refine Sz.add2 ?_ ?_ (by decide)) | (refine Sz.sub2 ?_ ?_ (by decide)) | apply Sz.neg | apply B.mul2 | (refine B.add2 ?_ ?_ (by decide)) | (refine B.sub2 ?_ ?_ (by decide)) | apply B.neg)); done) | (unfold tB; simp; done) | decide)) only [S_done, S_asg, S_asgT, S_par, S_sub, S_expr, S_if, S_for, S_forB, S_ret, S_retN, E_var, E_cst, E_gl, E_yes, E_tup, E_lst, E_mkl, E_bin, E_mkb, E_neg, E_not, E_cmp, E_chain, E_isN, E_isB, E_and, E_or, E_ite, E_idx, E_rev, E_slc, P_non, P_cst, P_var, P_bin, P_neg, P_call, P_blt, E_call, E_blt, E_mkt, E_isi, E_app, Es_nil, Es_cons, E_T, E_alloc, E_lc, E_mkc, LC_nil, LC_cons, LC_B, lcQ, accO, bls, Option.map_some, List.all_cons, List.all_nil, id_eq, Bool.and_true, OkO_some, OkI_t, OkI_f, Ok_ok, OkS_next, OkS_ret, deref_int, deref_bl, deref_str, deref_non, deref_tup, deref_lst, deref_fn, deref_frz, deref_r0, deref_r1, deref_r2, T_bl, T_int, T_tup, T_lst, T_non, B_addI, B_addL, B_addT, B_subI, C_ltI, C_leI, C_gtI, C_geI, C_eqI, C_eqB, C_neB, C_neI, I_tup, I_lst, L_tup, L_lst, L_abs, L_max, L_min, L_int, L_tupL, L_tupT, L_listT, L_listL, L_listF, L_all, L_any, It_L, It_T, It_r1, It_r2, negO_int, intO_int, isBo, setAll, atI_0, atI_1, atI_2, atI_3, get_0, get_1, get_2, get_3, get_4, get_5, get_6, get_7, get_8, get_9, get_10, get_11, get_12, get_13, get_14, get_15, get_16, set_0, set_1, set_2, set_3, set_4, set_5, set_6, set_7, set_8, set_9, set_10, set_11, set_12, set_13, set_14, set_15, set_16, List.map_cons, List.map_nil, List.cons_append, List.nil_append, List.replicate_succ, List.replicate_zero, List.append_nil, List.length_cons, List.length_nil, if_true, if_false, Bool.not_true, Bool.not_false, Bool.false_eq_true, Nat.sub_self, Nat.reduceSub, Nat.reduceAdd, Nat.zero_add, Nat.reduceLeDiff, lim, and_true, true_and, decide_true, decide_false, PV.isRef, wipeE, B_mulI', B_divI', B_modI', decT, decF, I_shr0, I_shr1, D_shr, OkS_for_nil, C_eqR, C_neR, C_eqNil, C_neNil, C_eqI1, C_eqI2, C_eqB1, Rv_tup, Rv_lst, List.reverse_cons, List.reverse_nil, isTy, isNo_shr, isNo_tup, isNo_non, isNo_int, isNo_bl, isNo_str, isNo_lst, isNo_ref, bne_self_eq_false, Bool.bne_true, Bool.bne_false, Bool.true_bne, Bool.false_bne, bindT_nm, bindT_tp, bindT_shr, bindTs_nil, bindTs_cons, Option.bind_some, Int.toNat_natCast, get_17, set_17, get_18, set_18, get_19, set_19, get_20, set_20, E_sst, E_lrg, Rg_l, Rg_t, L_sum, inl, get_21, set_21, get_22, set_22, get_23, set_23, get_24, set_24, get_25, set_25, get_26, set_26, get_27, set_27, get_28, set_28, get_29, set_29, get_30, set_30, E_ktp, E_cnt, ktpL_k, cnt_rl, e, z, zi]
  have pss := ss_map (l := (List.range (hi + 1 - lo).toNat).filter fun i => decide (1 < (tabL a b c d lo hi).count (nr (rowR a b c d lo i)))) (f := fun i => nr (rowR a b c d lo i)) (by
    have := List.length_filter_le (fun i => decide (1 < (tabL a b c d lo hi).count (nr (rowR a b c d lo i)))) (List.range (hi + 1 - lo).toNat)
    rw [List.length_range] at this
    omega)
  have e2 : ((List.range (hi + 1 - lo).toNat).filter fun i => decide (1 < (tabL a b c d lo hi).count (nr (rowR a b c d lo i)))).map (fun i => nr (rowR a b c d lo i)) = (tabL a b c d lo hi).filter fun x => decide (1 < (tabL a b c d lo hi).count x) := by
    conv => rhs; rw [show tabL a b c d lo hi = (List.range (hi + 1 - lo).toNat).map (fun i => nr (rowR a b c d lo i)) from rfl, List.filter_map]
    rfl
  rw [e2] at pss
  simp -dsimp (disch := first | (refine OM.mk ?_; first | omega | assumption | rfl) | ((fail_if_success refine OM.mk ?_); first | assumption | omega | exact deref_int | exact ty_int | exact deref_tup | exact ty_tup | exact D_shr | exact ty_shr | exact deref_bl | exact ty_bl | exact deref_non | exact ty_non | exact deref_str | exact ty_str | exact deref_lst | exact ty_lst | (refine mulOk_sz ?_ ?_ <;> (repeat' (first | exact Sz.mono (by assumption) (by decide) | exact Sz.mono (B.n (by assumption)) (by decide) | exact Sz.mono (B.d (by assumption)) (by decide) | exact Sz.of (m := 1000000000000) (by omega) (by decide) | exact Sz.of (m := 1000000) (by omega) (by decide) | exact B.mono (by assumption) (by decide) | exact ⟨Sz.of (m := 1000000000000) (by omega) (by decide), Sz.of (m := 1000000000000) (by omega) (by decide)⟩ | apply Sz.mul2 | (refine Sz.add2 ?_ ?_ (by decide)) | (refine Sz.sub2 ?_ ?_ (by decide)) | apply Sz.neg | apply B.mul2 | (refine B.add2 ?_ ?_ (by decide)) | (refine B.sub2 ?_ ?_ (by decide)) | apply B.neg)); done) | (refine nice_ok ?_; (repeat' (first | exact nice_shr | exact nice_spt | exact nice_mpv | exact nice_int | exact nice_bl | exact nice_non | exact nicel_nil | refine nicel_cons ?_ ?_ | refine nice_tup (by simp) ?_ | refine nice_lst (by simp) ?_)); done) | ((repeat' (first | exact Sz.mono (by assumption) (by decide) | exact Sz.mono (B.n (by assumption)) (by decide) | exact Sz.mono (B.d (by assumption)) (by decide) | exact Sz.of (m := 1000000000000) (by omega) (by decide) | exact Sz.of (m := 1000000) (by omega) (by decide) | exact B.mono (by assumption) (by decide) | exact ⟨Sz.of (m := 1000000000000) (by omega) (by decide), Sz.of (m := 1000000000000) (by omega) (by decide)⟩ | apply Sz.mul2 | (refine Sz.add2 ?_ ?_ (by decide)) | (refine Sz.sub2 ?_ ?_ (by decide)) | apply Sz.neg | apply B.mul2 | (refine B.add2 ?_ ?_ (by decide)) | (refine B.sub2 ?_ ?_ (by decide)) | apply B.neg)); done) | (unfold tB; simp; done) | decide)) only [S_done, S_asg, S_asgT, S_par, S_sub, S_expr, S_if, S_for, S_forB, S_ret, S_retN, E_var, E_cst, E_gl, E_yes, E_tup, E_lst, E_mkl, E_bin, E_mkb, E_neg, E_not, E_cmp, E_chain, E_isN, E_isB, E_and, E_or, E_ite, E_idx, E_rev, E_slc, P_non, P_cst, P_var, P_bin, P_neg, P_call, P_blt, E_call, E_blt, E_mkt, E_isi, E_app, Es_nil, Es_cons, E_T, E_alloc, E_lc, E_mkc, LC_nil, LC_cons, LC_B, lcQ, accO, bls, Option.map_some, List.all_cons, List.all_nil, id_eq, Bool.and_true, OkO_some, OkI_t, OkI_f, Ok_ok, OkS_next, OkS_ret, deref_int, deref_bl, deref_str, deref_non, deref_tup, deref_lst, deref_fn, deref_frz, deref_r0, deref_r1, deref_r2, T_bl, T_int, T_tup, T_lst, T_non, B_addI, B_addL, B_addT, B_subI, C_ltI, C_leI, C_gtI, C_geI, C_eqI, C_eqB, C_neB, C_neI, I_tup, I_lst, L_tup, L_lst, L_abs, L_max, L_min, L_int, L_tupL, L_tupT, L_listT, L_listL, L_listF, L_all, L_any, It_L, It_T, It_r1, It_r2, negO_int, intO_int, isBo, setAll, atI_0, atI_1, atI_2, atI_3, get_0, get_1, get_2, get_3, get_4, get_5, get_6, get_7, get_8, get_9, get_10, get_11, get_12, get_13, get_14, get_15, get_16, set_0, set_1, set_2, set_3, set_4, set_5, set_6, set_7, set_8, set_9, set_10, set_11, set_12, set_13, set_14, set_15, set_16, List.map_cons, List.map_nil, List.cons_append, List.nil_append, List.replicate_succ, List.replicate_zero, List.append_nil, List.length_cons, List.length_nil, if_true, if_false, Bool.not_true, Bool.not_false, Bool.false_eq_true, Nat.sub_self, Nat.reduceSub, Nat.reduceAdd, Nat.zero_add, Nat.reduceLeDiff, lim, and_true, true_and, decide_true, decide_false, PV.isRef, wipeE, B_mulI', B_divI', B_modI', decT, decF, I_shr0, I_shr1, D_shr, OkS_for_nil, C_eqR, C_neR, C_eqNil, C_neNil, C_eqI1, C_eqI2, C_eqB1, Rv_tup, Rv_lst, List.reverse_cons, List.reverse_nil, isTy, isNo_shr, isNo_tup, isNo_non, isNo_int, isNo_bl, isNo_str, isNo_lst, isNo_ref, bne_self_eq_false, Bool.bne_true, Bool.bne_false, Bool.true_bne, Bool.false_bne, bindT_nm, bindT_tp, bindT_shr, bindTs_nil, bindTs_cons, Option.bind_some, Int.toNat_natCast, get_17, set_17, get_18, set_18, get_19, set_19, get_20, set_20, E_sst, E_lrg, Rg_l, Rg_t, L_sum, inl, get_21, set_21, get_22, set_22, get_23, set_23, get_24, set_24, get_25, set_25, get_26, set_26, get_27, set_27, get_28, set_28, get_29, set_29, get_30, set_30, E_ktp, E_cnt, pss]
end

end Ev.K83
end
section
set_option Elab.async false
set_option linter.all false
set_option maxRecDepth 100000
set_option maxHeartbeats 4000000
set_option exponentiation.threshold 5000
namespace Ev.K83
open PySem L2
variable {Tb : List Fd} [IsTab Tb]
section
variable {W n : Nat} {st : Store}
theorem rl_lastI {m : Nat} {f : Nat → PV} (h : 1 ≤ m) : atI (rl m f) (-1) = some (f (m - 1)) := atI_last (by
  obtain ⟨k, rfl⟩ : ∃ k, m = k + 1 := ⟨m - 1, by omega⟩
  unfold rl
  rw [List.range_succ, List.map_append]
  simp)
theorem sh_layI : ∀ l : List Int, PyData.canLayAll0 (l.map fun i => (.int i : PyData)) = true
  | [] => rfl
  | a :: l => by simp only [List.map_cons, PyData.canLayAll0, PyData.canLay0, sh_layI l, Bool.and_self]
theorem sh_depI : ∀ l : List Int, PyData.depthAll (l.map fun i => (.int i : PyData)) ≤ 1
  | [] => by simp [PyData.depthAll]
  | a :: l => by
    have := sh_depI l
    simp only [List.map_cons, PyData.depthAll, PyData.depth]
    omega
theorem sh_intsI (l : List Int) : SeqAt.shaped (.list (l.map fun i => (.int i : PyData))) = true := by
  unfold SeqAt.shaped
  have := sh_depI l
  simp only [PyData.canLay0, sh_layI, PyData.depth, Bool.true_and, decide_eq_true_eq]
  exact decide_eq_true (by omega)
theorem toDs_intsI : ∀ l : List Int, toDs (l.map fun i => (.int i : PV)) = some (l.map fun i => (.int i : PyData))
  | [] => rfl
  | a :: l => by simp only [List.map_cons, toDs, toDs_intsI l, PV.toD]
theorem any_ints {k : Int} : ∀ l : List Int, ((l.map fun i => (.int i : PyData)).any fun z => PyData.eqv z (.int k)) = decide (k ∈ l)
  | [] => rfl
  | a :: l => by
    simp only [List.map_cons, List.any_cons, any_ints l, PyData.eqv]
    rw [Bool.eq_iff_iff]
    simp only [Bool.or_eq_true, beq_iff_eq, decide_eq_true_eq, List.mem_cons]
    constructor
    · rintro (h | h)
      · exact .inl h.symm
      · exact .inr h
    · rintro (h | h)
      · exact .inl h.symm
      · exact .inr h
theorem In_I {k : Int} (l : List Int) : pyIn (.int k) (.tup (l.map fun i => (.int i : PV))) = some (decide (k ∈ l)) := by
  simp only [pyIn, PV.toD, toDs_intsI, sh_intsI, show SeqAt.shaped (.int k) = true from rfl, Bool.and_self, if_true, any_ints]
theorem C_ninI {k : Int} (l : List Int) : pyCmp .notin (.int k) (.tup (l.map fun i => (.int i : PV))) = some (!decide (k ∈ l)) := by
  show (pyIn _ _).map _ = _
  rw [In_I]
  rfl
/-- ends of a table -/
def nr0 (a b c d lo : Int) : Int := nr (rowR a b c d lo 0)
def nrE (a b c d lo hi : Int) : Int := nr (rowR a b c d lo ((hi + 1 - lo).toNat - 1))
theorem sp_missed {a b c d lo hi : Int} (hn : 7 ≤ n) (hW : 5000 ≤ W) (h : fsc a b) (g : fsc c d) (hr : rng lo hi) (rg : rgOk (nr0 a b c d lo) (nrE a b c d lo hi + 1) = true) (hL : (nrE a b c d lo hi + 1 - nr0 a b c d lo).toNat ≤ 100000) :
    callN Tb W n i_missed_readings [scv a b, scv c d, .int lo, .int hi] st = .ok (.tup (((List.range (nrE a b c d lo hi + 1 - nr0 a b c d lo).toNat).filter fun j => !decide (nr0 a b c d lo + (j : Nat) ∈ tabL a b c d lo hi)).map fun j => .int (nr0 a b c d lo + (j : Nat)))) st := by
  obtain ⟨n, rfl⟩ : ∃ m, n = m + 1 := ⟨n - 1, by omega⟩
  refine call_eq T_missed_readings rfl ?_
  have h2 := hr.m
  have l1 : 1 ≤ (hi + 1 - lo).toNat := by omega
  have e0 : nr (rowR a b c d lo 0) = nr0 a b c d lo := rfl
  have eE : nr (rowR a b c d lo ((hi + 1 - lo).toNat - 1)) = nrE a b c d lo hi := rfl
  have l0 : 0 < (hi + 1 - lo).toNat := by omega
  simp -dsimp (disch := first | (refine OM.mk ?_; first | omega | assumption | rfl) | ((fail_if_success refine OM.mk ?_); first | assumption | omega | exact deref_int | exact ty_int | exact deref_tup | exact ty_tup | exact D_shr | exact ty_shr | exact deref_bl | exact ty_bl | exact deref_non | exact ty_non | exact deref_str | exact ty_str | exact deref_lst | exact ty_lst | (refine mulOk_sz ?_ ?_ <;> (repeat' (first | exact Sz.mono (by assumption) (by decide) | exact Sz.mono (B.n (by assumption)) (by decide) | exact Sz.mono (B.d (by assumption)) (by decide) | exact Sz.of (m := 1000000000000) (by omega) (by decide) | exact Sz.of (m := 1000000) (by omega) (by decide) | exact B.mono (by assumption) (by decide) | exact ⟨Sz.of (m := 1000000000000) (by omega) (by decide), Sz.of (m := 1000000000000) (by omega) (by decide)⟩ | apply Sz.mul2 | (refine Sz.add2 ?_ ?_ (by decide)) | (refine Sz.sub2 ?_ ?_ (by decide)) | apply Sz.neg | apply B.mul2 | (refine B.add2 ?_ ?_ (by decide)) | (refine B.sub2 ?_ ?_ (by decide)) | apply B.neg)); done) | (refine nice_ok ?_; (repeat' (first | exact nice_shr | exact nice_spt | exact nice_mpv | exact nice_int | exact nice_bl | exact nice_non | exact nicel_nil | refine nicel_cons ?_ ?_ | refine nice_tup (by simp) ?_ | refine nice_lst (by simp) ?_)); done) | ((repeat' (first | exact Sz.mono (by assumption) (by decide) | exact Sz.mono (B.n (by assumption)) (by decide) | exact Sz.mono (B.d (by assumption)) (by decide) | exact Sz.of (m := 1000000000000) (by omega) (by decide) | exact Sz.of (m := 1000000) (by omega) (by decide) | exact B.mono (by assumption) (by decide) | exact ⟨Sz.of (m := 1000000000000) (by omega) (by decide), Sz.of (m := 1000000000000) (by omega) (by decide)⟩ | apply Sz.mul2 | (refine Sz.add2 ?_ ?_ (by decide)) | (refine Sz.sub2 ?_ ?_ (by decide)) | apply Sz.neg | apply B.mul2 | (refine B.add2 ?_ ?_ (by decide)) | (refine B.sub2 ?_ ?_ (by decide)) | apply B.neg)); done) | (unfold tB; simp; done) | decide)) only [d_missed_readings, b_missed_readings, S_done, S_asg, S_asgT, S_par, S_sub, S_expr, S_if, S_for, S_forB, S_ret, S_retN, E_var, E_cst, E_gl, E_yes, E_tup, E_lst, E_mkl, E_bin, E_mkb, E_neg, E_not, E_cmp, E_chain, E_isN, E_isB, E_and, E_or, E_ite, E_idx, E_rev, E_slc, P_non, P_cst, P_var, P_bin, P_neg, P_call, P_blt, E_call, E_blt, E_mkt, E_isi, E_app, Es_nil, Es_cons, E_T, E_alloc, E_lc, E_mkc, LC_nil, LC_cons, LC_B, lcQ, accO, bls, Option.map_some, List.all_cons, List.all_nil, id_eq, Bool.and_true, OkO_some, OkI_t, OkI_f, Ok_ok, OkS_next, OkS_ret, deref_int, deref_bl, deref_str, deref_non, deref_tup, deref_lst, deref_fn, deref_frz, deref_r0, deref_r1, deref_r2, T_bl, T_int, T_tup, T_lst, T_non, B_addI, B_addL, B_addT, B_subI, C_ltI, C_leI, C_gtI, C_geI, C_eqI, C_eqB, C_neB, C_neI, I_tup, I_lst, L_tup, L_lst, L_abs, L_max, L_min, L_int, L_tupL, L_tupT, L_listT, L_listL, L_listF, L_all, L_any, It_L, It_T, It_r1, It_r2, negO_int, intO_int, isBo, setAll, atI_0, atI_1, atI_2, atI_3, get_0, get_1, get_2, get_3, get_4, get_5, get_6, get_7, get_8, get_9, get_10, get_11, get_12, get_13, get_14, get_15, get_16, set_0, set_1, set_2, set_3, set_4, set_5, set_6, set_7, set_8, set_9, set_10, set_11, set_12, set_13, set_14, set_15, set_16, List.map_cons, List.map_nil, List.cons_append, List.nil_append, List.replicate_succ, List.replicate_zero, List.append_nil, List.length_cons, List.length_nil, if_true, if_false, Bool.not_true, Bool.not_false, Bool.false_eq_true, Nat.sub_self, Nat.reduceSub, Nat.reduceAdd, Nat.zero_add, Nat.reduceLeDiff, lim, and_true, true_and, decide_true, decide_false, PV.isRef, wipeE, B_mulI', B_divI', B_modI', decT, decF, I_shr0, I_shr1, D_shr, OkS_for_nil, C_eqR, C_neR, C_eqNil, C_neNil, C_eqI1, C_eqI2, C_eqB1, Rv_tup, Rv_lst, List.reverse_cons, List.reverse_nil, isTy, isNo_shr, isNo_tup, isNo_non, isNo_int, isNo_bl, isNo_str, isNo_lst, isNo_ref, bne_self_eq_false, Bool.bne_true, Bool.bne_false, Bool.true_bne, Bool.false_bne, bindT_nm, bindT_tp, bindT_shr, bindTs_nil, bindTs_cons, Option.bind_some, Int.toNat_natCast, get_17, set_17, get_18, set_18, get_19, set_19, get_20, set_20, E_sst, E_lrg, Rg_l, Rg_t, L_sum, inl, get_21, set_21, get_22, set_22, get_23, set_23, get_24, set_24, get_25, set_25, get_26, set_26, get_27, set_27, get_28, set_28, get_29, set_29, get_30, set_30, E_ktp, E_cnt, sp_nearest, deref_ktp, rl_0 l0, rl_lastI l1, e0, eE, rg, rgV_ra]
  refine Ok_eq (lc_rlif (n := (nrE a b c d lo hi + 1 - nr0 a b c d lo).toNat) (p := fun j => !decide (nr0 a b c d lo + (j : Nat) ∈ tabL a b c d lo hi)) (g := fun j => .int (nr0 a b c d lo + (j : Nat))) (by omega) fun i hi2 => lcB_ok ?_) ?_
  · have e : (rl (hi + 1 - lo).toNat fun i => (.int (nr (rowR a b c d lo i)) : PV)) = (tabL a b c d lo hi).map fun i => (.int i : PV) := by
      simp [tabL, rl]
    have ci := C_ninI (k := nr0 a b c d lo + (i : Nat)) (tabL a b c d lo hi)
    by_cases z : nr0 a b c d lo + (i : Nat) ∈ tabL a b c d lo hi
    · simp -dsimp (disch := first | (refine OM.mk ?_; first | omega | assumption | rfl) | ((fail_if_success refine OM.mk ?_); first | assumption | omega | exact deref_int | exact ty_int | exact deref_tup | exact ty_tup | exact D_shr | exact ty_shr | exact deref_bl | exact ty_bl | exact deref_non | exact ty_non | exact deref_str | exact ty_str | exact deref_lst | exact ty_lst | (refine mulOk_sz ?_ ?_ <;> (repeat' (first | exact Sz.mono (by assumption) (by decide) | exact Sz.mono (B.n (by assumption)) (by decide) | exact Sz.mono (B.d (by assumption)) (by decide) | exact Sz.of (m := 1000000000000) (by omega) (by decide) | exact Sz.of (m := 1000000) (by omega) (by decide) | exact B.mono (by assumption) (by decide) | exact ⟨Sz.of (m := 1000000000000) (by omega) (by decide), Sz.of (m := 1000000000000) (by omega) (by decide)⟩ | apply Sz.mul2 | (refine Sz.add2 ?_ ?_ (by decide)) | (refine Sz.sub2 ?_ ?_ (by decide)) | apply Sz.neg | apply B.mul2 | (refine B.add2 ?_ ?_ (by decide)) | (refine B.sub2 ?_ ?_ (by decide)) | apply B.neg)); done) | (refine nice_ok ?_; (repeat' (first | exact nice_shr | exact nice_spt | exact nice_mpv | exact nice_int | exact nice_bl | exact nice_non | exact nicel_nil | refine nicel_cons ?_ ?_ | refine nice_tup (by simp) ?_ | refine nice_lst (by simp) ?_)); done) | ((repeat' (first | exact Sz.mono (by assumption) (by decide) | exact Sz.mono (B.n (by assumption)) (by decide) | exact Sz.mono (B.d (by assumption)) (by decide) | exact Sz.of (m := 1000000000000) (by omega) (by decide) | exact Sz.of (m := 1000000) (by omega) (by decide) | exact B.mono (by assumption) (by decide) | exact ⟨Sz.of (m := 1000000000000) (by omega) (by decide), Sz.of (m := 1000000000000) (by omega) (by decide)⟩ | apply Sz.mul2 | (refine Sz.add2 ?_ ?_ (by decide)) | (refine Sz.sub2 ?_ ?_ (by decide)) | apply Sz.neg | apply B.mul2 | (refine B.add2 ?_ ?_ (by decide)) | (refine B.sub2 ?_ ?_ (by decide)) | apply B.neg)); done) | (unfold tB; simp; done) | decide)) only [S_done, S_asg, S_asgT, S_par, S_sub, S_expr, S_if, S_for, S_forB, S_ret, S_retN, E_var, E_cst, E_gl, E_yes, E_tup, E_lst, E_mkl, E_bin, E_mkb, E_neg, E_not, E_cmp, E_chain, E_isN, E_isB, E_and, E_or, E_ite, E_idx, E_rev, E_slc, P_non, P_cst, P_var, P_bin, P_neg, P_call, P_blt, E_call, E_blt, E_mkt, E_isi, E_app, Es_nil, Es_cons, E_T, E_alloc, E_lc, E_mkc, LC_nil, LC_cons, LC_B, lcQ, accO, bls, Option.map_some, List.all_cons, List.all_nil, id_eq, Bool.and_true, OkO_some, OkI_t, OkI_f, Ok_ok, OkS_next, OkS_ret, deref_int, deref_bl, deref_str, deref_non, deref_tup, deref_lst, deref_fn, deref_frz, deref_r0, deref_r1, deref_r2, T_bl, T_int, T_tup, T_lst, T_non, B_addI, B_addL, B_addT, B_subI, C_ltI, C_leI, C_gtI, C_geI, C_eqI, C_eqB, C_neB, C_neI, I_tup, I_lst, L_tup, L_lst, L_abs, L_max, L_min, L_int, L_tupL, L_tupT, L_listT, L_listL, L_listF, L_all, L_any, It_L, It_T, It_r1, It_r2, negO_int, intO_int, isBo, setAll, atI_0, atI_1, atI_2, atI_3, get_0, get_1, get_2, get_3, get_4, get_5, get_6, get_7, get_8, get_9, get_10, get_11, get_12, get_13, get_14, get_15, get_16, set_0, set_1, set_2, set_3, set_4, set_5, set_6, set_7, set_8, set_9, set_10, set_11, set_12, set_13, set_14, set_15, set_16, List.map_cons, List.map_nil, List.cons_append, List.nil_append, List.replicate_succ, List.replicate_zero, List.append_nil, List.length_cons, List.length_nil, if_true, if_false, Bool.not_true, Bool.not_false, Bool.false_eq_true, Nat.sub_self, Nat.reduceSub, Nat.reduceAdd, Nat.zero_add, Nat.reduceLeDiff, lim, and_true, true_and, decide_true, decide_false, PV.isRef, wipeE, B_mulI', B_divI', B_modI', decT, decF, I_shr0, I_shr1, D_shr, OkS_for_nil, C_eqR, C_neR, C_eqNil, C_neNil, C_eqI1, C_eqI2, C_eqB1, Rv_tup, Rv_lst, List.reverse_cons, List.reverse_nil, isTy, isNo_shr, isNo_tup, isNo_non, isNo_int, isNo_bl, isNo_str, isNo_lst, isNo_ref, bne_self_eq_false, Bool.bne_true, Bool.bne_false, Bool.true_bne, Bool.false_bne, bindT_nm, bindT_tp, bindT_shr, bindTs_nil, bindTs_cons, Option.bind_some, Int.toNat_natCast, get_17, set_17, get_18, set_18, get_19, set_19, get_20, set_20, E_sst, E_lrg, Rg_l, Rg_t, L_sum, inl, get_21, set_21, get_22, set_22, get_23, set_23, get_24, set_24, get_25, set_25, get_26, set_26, get_27, set_27, get_28, set_28, get_29, set_29, get_30, set_30, E_ktp, E_cnt, deref_ktp, e, ci, z]
    · simp -dsimp (disch := first | (refine OM.mk ?_; first | omega | assumption | rfl) | ((fail_if_success refine OM.mk ?_); first | assumption | omega | exact deref_int | exact ty_int | exact deref_tup | exact ty_tup | exact D_shr | exact ty_shr | exact deref_bl | exact ty_bl | exact deref_non | exact ty_non | exact deref_str | exact ty_str | exact deref_lst | exact ty_lst | (refine mulOk_sz ?_ ?_ <;> (repeat' (first | exact Sz.mono (by assumption) (by decide) | exact Sz.mono (B.n (by assumption)) (by decide) | exact Sz.mono (B.d (by assumption)) (by decide) | exact Sz.of (m := 1000000000000) (by omega) (by decide) | exact Sz.of (m := 1000000) (by omega) (by decide) | exact B.mono (by assumption) (by decide) | exact ⟨Sz.of (m := 1000000000000) (by omega) (by decide), Sz.of (m := 1000000000000) (by omega) (by decide)⟩ | apply Sz.mul2 | (refine Sz.add2 ?_ ?_ (by decide)) | (refine Sz.sub2 ?_ ?_ (by decide)) | apply Sz.neg | apply B.mul2 | (refine B.add2 ?_ ?_ (by decide)) | (refine B.sub2 ?_ ?_ (by decide)) | apply B.neg)); done) | (refine nice_ok ?_; (repeat' (first | exact nice_shr | exact nice_spt | exact nice_mpv | exact nice_int | exact nice_bl | exact nice_non | exact nicel_nil | refine nicel_cons ?_ ?_ | refine nice_tup (by simp) ?_ | refine nice_lst (by simp) ?_)); done) | ((repeat' (first | exact Sz.mono (by assumption) (by decide) | exact Sz.mono (B.n (by assumption)) (by decide) | exact Sz.mono (B.d (by assumption)) (by decide) | exact Sz.of (m := 1000000000000) (by omega) (by decide) | exact Sz.of (m := 1000000) (by omega) (by decide) | exact B.mono (by assumption) (by decide) | exact ⟨Sz.of (m := 1000000000000) (by omega) (by decide), Sz.of (m := 1000000000000) (by omega) (by decide)⟩ | apply Sz.mul2 | (refine Sz.add2 ?_ ?_ (by decide)) | (refine Sz.sub2 ?_ ?_ (by decide)) | apply Sz.neg | apply B.mul2 | (refine B.add2 ?_ ?_ (by decide)) | (refine B.sub2 ?_ ?_ (by decide)) | apply B.neg)); done) | (unfold tB; simp; done) | decide)) only [S_done, S_asg, S_asgT, S_par, S_sub, S_expr, S_if, S_for, S_forB, S_ret, S_retN, E_var, E_cst, E_gl, E_yes, E_tup, E_lst, E_mkl, E_bin, E_mkb, E_neg, E_not, E_cmp, E_chain, E_isN, E_isB, E_and, E_or, E_ite, E_idx, E_rev, E_slc, P_non, P_cst, P_var, P_bin, P_neg, P_call, P_blt, E_call, E_blt, E_mkt, E_isi, E_app, Es_nil, Es_cons, E_T, E_alloc, E_lc, E_mkc, LC_nil, LC_cons, LC_B, lcQ, accO, bls, Option.map_some, List.all_cons, List.all_nil, id_eq, Bool.and_true, OkO_some, OkI_t, OkI_f, Ok_ok, OkS_next, OkS_ret, deref_int, deref_bl, deref_str, deref_non, deref_tup, deref_lst, deref_fn, deref_frz, deref_r0, deref_r1, deref_r2, T_bl, T_int, T_tup, T_lst, T_non, B_addI, B_addL, B_addT, B_subI, C_ltI, C_leI, C_gtI, C_geI, C_eqI, C_eqB, C_neB, C_neI, I_tup, I_lst, L_tup, L_lst, L_abs, L_max, L_min, L_int, L_tupL, L_tupT, L_listT, L_listL, L_listF, L_all, L_any, It_L, It_T, It_r1, It_r2, negO_int, intO_int, isBo, setAll, atI_0, atI_1, atI_2, atI_3, get_0, get_1, get_2, get_3, get_4, get_5, get_6, get_7, get_8, get_9, get_10, get_11, get_12, get_13, get_14, get_15, get_16, set_0, set_1, set_2, set_3, set_4, set_5, set_6, set_7, set_8, set_9, set_10, set_11, set_12, set_13, set_14, set_15, set_16, List.map_cons, List.map_nil, List.cons_append, List.nil_append, List.replicate_succ, List.replicate_zero, List.append_nil, List.length_cons, List.length_nil, if_true, if_false, Bool.not_true, Bool.not_false, Bool.false_eq_true, Nat.sub_self, Nat.reduceSub, Nat.reduceAdd, Nat.zero_add, Nat.reduceLeDiff, lim, and_true, true_and, decide_true, decide_false, PV.isRef, wipeE, B_mulI', B_divI', B_modI', decT, decF, I_shr0, I_shr1, D_shr, OkS_for_nil, C_eqR, C_neR, C_eqNil, C_neNil, C_eqI1, C_eqI2, C_eqB1, Rv_tup, Rv_lst, List.reverse_cons, List.reverse_nil, isTy, isNo_shr, isNo_tup, isNo_non, isNo_int, isNo_bl, isNo_str, isNo_lst, isNo_ref, bne_self_eq_false, Bool.bne_true, Bool.bne_false, Bool.true_bne, Bool.false_bne, bindT_nm, bindT_tp, bindT_shr, bindTs_nil, bindTs_cons, Option.bind_some, Int.toNat_natCast, get_17, set_17, get_18, set_18, get_19, set_19, get_20, set_20, E_sst, E_lrg, Rg_l, Rg_t, L_sum, inl, get_21, set_21, get_22, set_22, get_23, set_23, get_24, set_24, get_25, set_25, get_26, set_26, get_27, set_27, get_28, set_28, get_29, set_29, get_30, set_30, E_ktp, E_cnt, deref_ktp, e, ci, z]
  simp -dsimp (disch := first | (refine OM.mk ?_; first | omega | assumption | rfl) | ((fail_if_success refine OM.mk ?_); first | assumption | omega | exact deref_int | exact ty_int | exact deref_tup | exact ty_tup | exact D_shr | exact ty_shr | exact deref_bl | exact ty_bl | exact deref_non | exact ty_non | exact deref_str | exact ty_str | exact deref_lst | exact ty_lst | (refine mulOk_sz ?_ ?_ <;> (repeat' (first | exact Sz.mono (by assumption) (by decide) | exact Sz.mono (B.n (by assumption)) (by decide) | exact Sz.mono (B.d (by assumption)) (by decide) | exact Sz.of (m := 1000000000000) (by omega) (by decide) | exact Sz.of (m := 1000000) (by omega) (by decide) | exact B.mono (by assumption) (by decide) | exact ⟨Sz.of (m := 1000000000000) (by omega) (by decide), Sz.of (m := 1000000000000) (by omega) (by decide)⟩ | apply Sz.mul2 | (refine Sz.add2 ?_ ?_ (by decide)) | (refine Sz.sub2 ?_ ?_ (by decide)) | apply Sz.neg | apply B.mul2 | (refine B.add2 ?_ ?_ (by decide)) | (refine B.sub2 ?_ ?_ (by decide)) | apply B.neg)); done) | (refine nice_ok ?_; (repeat' (first | exact nice_shr | exact nice_spt | exact nice_mpv | exact nice_int | exact nice_bl | exact nice_non | exact nicel_nil | refine nicel_cons ?_ ?_ | refine nice_tup (by simp) ?_ | refine nice_lst (by simp) ?_)); done) | ((repeat' (first | exact Sz.mono (by assumption) (by decide) | exact Sz.mono (B.n (by assumption)) (by decide) | exact Sz.mono (B.d (by assumption)) (by decide) | exact Sz.of (m := 1000000000000) (by omega) (by decide) | exact Sz.of (m := 1000000) (by omega) (by decide) | exact B.mono (by assumption) (by decide) | exact ⟨Sz.of (m := 1000000000000) (by omega) (by decide), Sz.of (m := 1000000000000) (by omega) (by decide)⟩ | apply Sz.mul2 | (refine Sz.add2 ?_ ?_ (by decide)) | (refine Sz.sub2 ?_ ?_ (by decide)) | apply Sz.neg | apply B.mul2 | (refine B.add2 ?_ ?_ (by decide)) | (refine B.sub2 ?_ ?_ (by decide)) | apply B.neg)); done) | (unfold tB; simp; done) | decide)) only [S_done, S_asg, S_asgT, S_par, S_sub, S_expr, S_if, S_for, S_forB, S_ret, S_retN, E_var, E_cst, E_gl, E_yes, E_tup, E_lst, E_mkl, E_bin, E_mkb, E_neg, E_not, E_cmp, E_chain, E_isN, E_isB, E_and, E_or, E_ite, E_idx, E_rev, E_slc, P_non, P_cst, P_var, P_bin, P_neg, P_call, P_blt, E_call, E_blt, E_mkt, E_isi, E_app, Es_nil, Es_cons, E_T, E_alloc, E_lc, E_mkc, LC_nil, LC_cons, LC_B, lcQ, accO, bls, Option.map_some, List.all_cons, List.all_nil, id_eq, Bool.and_true, OkO_some, OkI_t, OkI_f, Ok_ok, OkS_next, OkS_ret, deref_int, deref_bl, deref_str, deref_non, deref_tup, deref_lst, deref_fn, deref_frz, deref_r0, deref_r1, deref_r2, T_bl, T_int, T_tup, T_lst, T_non, B_addI, B_addL, B_addT, B_subI, C_ltI, C_leI, C_gtI, C_geI, C_eqI, C_eqB, C_neB, C_neI, I_tup, I_lst, L_tup, L_lst, L_abs, L_max, L_min, L_int, L_tupL, L_tupT, L_listT, L_listL, L_listF, L_all, L_any, It_L, It_T, It_r1, It_r2, negO_int, intO_int, isBo, setAll, atI_0, atI_1, atI_2, atI_3, get_0, get_1, get_2, get_3, get_4, get_5, get_6, get_7, get_8, get_9, get_10, get_11, get_12, get_13, get_14, get_15, get_16, set_0, set_1, set_2, set_3, set_4, set_5, set_6, set_7, set_8, set_9, set_10, set_11, set_12, set_13, set_14, set_15, set_16, List.map_cons, List.map_nil, List.cons_append, List.nil_append, List.replicate_succ, List.replicate_zero, List.append_nil, List.length_cons, List.length_nil, if_true, if_false, Bool.not_true, Bool.not_false, Bool.false_eq_true, Nat.sub_self, Nat.reduceSub, Nat.reduceAdd, Nat.zero_add, Nat.reduceLeDiff, lim, and_true, true_and, decide_true, decide_false, PV.isRef, wipeE, B_mulI', B_divI', B_modI', decT, decF, I_shr0, I_shr1, D_shr, OkS_for_nil, C_eqR, C_neR, C_eqNil, C_neNil, C_eqI1, C_eqI2, C_eqB1, Rv_tup, Rv_lst, List.reverse_cons, List.reverse_nil, isTy, isNo_shr, isNo_tup, isNo_non, isNo_int, isNo_bl, isNo_str, isNo_lst, isNo_ref, bne_self_eq_false, Bool.bne_true, Bool.bne_false, Bool.true_bne, Bool.false_bne, bindT_nm, bindT_tp, bindT_shr, bindTs_nil, bindTs_cons, Option.bind_some, Int.toNat_natCast, get_17, set_17, get_18, set_18, get_19, set_19, get_20, set_20, E_sst, E_lrg, Rg_l, Rg_t, L_sum, inl, get_21, set_21, get_22, set_22, get_23, set_23, get_24, set_24, get_25, set_25, get_26, set_26, get_27, set_27, get_28, set_28, get_29, set_29, get_30, set_30, E_ktp, E_cnt]
end

end Ev.K83
end
section
set_option Elab.async false
set_option linter.all false
set_option maxRecDepth 100000
set_option maxHeartbeats 4000000
set_option exponentiation.threshold 5000
namespace Ev.K83
open PySem L2
variable {Tb : List Fd} [IsTab Tb]
section
variable {W n : Nat} {st : Store}
theorem nr_low {x : Rat} : nr x = x.num / x.den + (if (x.den : Int) ≤ 2 * (x.num - x.num / x.den * x.den) then 1 else 0) := by
  have hp := den_pos' x
  have h1 := Int.emod_add_mul_ediv x.num x.den
  have h2 := Int.emod_nonneg x.num (Int.ne_of_gt hp)
  have h3 := Int.emod_lt_of_pos x.num hp
  generalize x.num / (x.den : Int) = q at *
  generalize x.num % (x.den : Int) = r at *
  have e1 : x.num - q * x.den = r := by rw [Int.mul_comm]; omega
  rw [e1]
  unfold nr
  have e2 : 2 * x.num + (x.den : Int) = (2 * r + x.den) + (2 * x.den) * q := by
    rw [← h1, Int.mul_assoc, Int.mul_add]
    omega
  rw [e2, Int.add_mul_ediv_left _ _ (by omega), Int.add_comm]
  congr 1
  by_cases z : (x.den : Int) ≤ 2 * r
  · rw [if_pos z]
    refine Int.le_antisymm (Int.lt_add_one_iff.mp ?_) ?_
    · exact (Int.ediv_lt_iff_lt_mul (by omega)).mpr (by omega)
    · exact (Int.le_ediv_iff_mul_le (by omega)).mpr (by omega)
  · rw [if_neg z]
    exact Int.ediv_eq_zero_of_lt (by omega) (by omega)
theorem lw_nearest {x : Rat} (hn : 1 ≤ n) (hx : B 900 x) : callN Tb W n i__law_nearest [shr x] st = .ok (.int (nr x)) st := by
  obtain ⟨n, rfl⟩ : ∃ m, n = m + 1 := ⟨n - 1, by omega⟩
  refine call_eq T__law_nearest rfl ?_
  have hp := den_pos' x
  have hd : divOk (x.den : Int) = true := Sz.divOk (k := 900) hx.d hp
  have hq : Sz 900 (x.num / (x.den : Int)) := hx.n.div _
  by_cases z : (x.den : Int) ≤ 2 * (x.num - x.num / x.den * x.den)
  · have e : nr x = x.num / x.den + 1 := by rw [nr_low, if_pos z]
    simp -dsimp (disch := first | (refine OM.mk ?_; first | omega | assumption | rfl) | ((fail_if_success refine OM.mk ?_); first | assumption | omega | exact deref_int | exact ty_int | exact deref_tup | exact ty_tup | exact D_shr | exact ty_shr | exact deref_bl | exact ty_bl | exact deref_non | exact ty_non | exact deref_str | exact ty_str | exact deref_lst | exact ty_lst | (refine mulOk_sz ?_ ?_ <;> (repeat' (first | exact Sz.mono (by assumption) (by decide) | exact Sz.mono (B.n (by assumption)) (by decide) | exact Sz.mono (B.d (by assumption)) (by decide) | exact Sz.of (m := 1000000000000) (by omega) (by decide) | exact Sz.of (m := 1000000) (by omega) (by decide) | exact B.mono (by assumption) (by decide) | exact ⟨Sz.of (m := 1000000000000) (by omega) (by decide), Sz.of (m := 1000000000000) (by omega) (by decide)⟩ | apply Sz.mul2 | (refine Sz.add2 ?_ ?_ (by decide)) | (refine Sz.sub2 ?_ ?_ (by decide)) | apply Sz.neg | apply B.mul2 | (refine B.add2 ?_ ?_ (by decide)) | (refine B.sub2 ?_ ?_ (by decide)) | apply B.neg)); done) | (refine nice_ok ?_; (repeat' (first | exact nice_shr | exact nice_spt | exact nice_mpv | exact nice_int | exact nice_bl | exact nice_non | exact nicel_nil | refine nicel_cons ?_ ?_ | refine nice_tup (by simp) ?_ | refine nice_lst (by simp) ?_)); done) | ((repeat' (first | exact Sz.mono (by assumption) (by decide) | exact Sz.mono (B.n (by assumption)) (by decide) | exact Sz.mono (B.d (by assumption)) (by decide) | exact Sz.of (m := 1000000000000) (by omega) (by decide) | exact Sz.of (m := 1000000) (by omega) (by decide) | exact B.mono (by assumption) (by decide) | exact ⟨Sz.of (m := 1000000000000) (by omega) (by decide), Sz.of (m := 1000000000000) (by omega) (by decide)⟩ | apply Sz.mul2 | (refine Sz.add2 ?_ ?_ (by decide)) | (refine Sz.sub2 ?_ ?_ (by decide)) | apply Sz.neg | apply B.mul2 | (refine B.add2 ?_ ?_ (by decide)) | (refine B.sub2 ?_ ?_ (by decide)) | apply B.neg)); done) | (unfold tB; simp; done) | decide)) only [d__law_nearest, b__law_nearest, S_done, S_asg, S_asgT, S_par, S_sub, S_expr, S_if, S_for, S_forB, S_ret, S_retN, E_var, E_cst, E_gl, E_yes, E_tup, E_lst, E_mkl, E_bin, E_mkb, E_neg, E_not, E_cmp, E_chain, E_isN, E_isB, E_and, E_or, E_ite, E_idx, E_rev, E_slc, P_non, P_cst, P_var, P_bin, P_neg, P_call, P_blt, E_call, E_blt, E_mkt, E_isi, E_app, Es_nil, Es_cons, E_T, E_alloc, E_lc, E_mkc, LC_nil, LC_cons, LC_B, lcQ, accO, bls, Option.map_some, List.all_cons, List.all_nil, id_eq, Bool.and_true, OkO_some, OkI_t, OkI_f, Ok_ok, OkS_next, OkS_ret, deref_int, deref_bl, deref_str, deref_non, deref_tup, deref_lst, deref_fn, deref_frz, deref_r0, deref_r1, deref_r2, T_bl, T_int, T_tup, T_lst, T_non, B_addI, B_addL, B_addT, B_subI, C_ltI, C_leI, C_gtI, C_geI, C_eqI, C_eqB, C_neB, C_neI, I_tup, I_lst, L_tup, L_lst, L_abs, L_max, L_min, L_int, L_tupL, L_tupT, L_listT, L_listL, L_listF, L_all, L_any, It_L, It_T, It_r1, It_r2, negO_int, intO_int, isBo, setAll, atI_0, atI_1, atI_2, atI_3, get_0, get_1, get_2, get_3, get_4, get_5, get_6, get_7, get_8, get_9, get_10, get_11, get_12, get_13, get_14, get_15, get_16, set_0, set_1, set_2, set_3, set_4, set_5, set_6, set_7, set_8, set_9, set_10, set_11, set_12, set_13, set_14, set_15, set_16, List.map_cons, List.map_nil, List.cons_append, List.nil_append, List.replicate_succ, List.replicate_zero, List.append_nil, List.length_cons, List.length_nil, if_true, if_false, Bool.not_true, Bool.not_false, Bool.false_eq_true, Nat.sub_self, Nat.reduceSub, Nat.reduceAdd, Nat.zero_add, Nat.reduceLeDiff, lim, and_true, true_and, decide_true, decide_false, PV.isRef, wipeE, B_mulI', B_divI', B_modI', decT, decF, I_shr0, I_shr1, D_shr, OkS_for_nil, C_eqR, C_neR, C_eqNil, C_neNil, C_eqI1, C_eqI2, C_eqB1, Rv_tup, Rv_lst, List.reverse_cons, List.reverse_nil, isTy, isNo_shr, isNo_tup, isNo_non, isNo_int, isNo_bl, isNo_str, isNo_lst, isNo_ref, bne_self_eq_false, Bool.bne_true, Bool.bne_false, Bool.true_bne, Bool.false_bne, bindT_nm, bindT_tp, bindT_shr, bindTs_nil, bindTs_cons, Option.bind_some, Int.toNat_natCast, get_17, set_17, get_18, set_18, get_19, set_19, get_20, set_20, E_sst, E_lrg, Rg_l, Rg_t, L_sum, inl, get_21, set_21, get_22, set_22, get_23, set_23, get_24, set_24, get_25, set_25, get_26, set_26, get_27, set_27, get_28, set_28, get_29, set_29, get_30, set_30, E_ktp, E_cnt, hd, z, e]
  · have e : nr x = x.num / x.den + 0 := by rw [nr_low, if_neg z]
    simp -dsimp (disch := first | (refine OM.mk ?_; first | omega | assumption | rfl) | ((fail_if_success refine OM.mk ?_); first | assumption | omega | exact deref_int | exact ty_int | exact deref_tup | exact ty_tup | exact D_shr | exact ty_shr | exact deref_bl | exact ty_bl | exact deref_non | exact ty_non | exact deref_str | exact ty_str | exact deref_lst | exact ty_lst | (refine mulOk_sz ?_ ?_ <;> (repeat' (first | exact Sz.mono (by assumption) (by decide) | exact Sz.mono (B.n (by assumption)) (by decide) | exact Sz.mono (B.d (by assumption)) (by decide) | exact Sz.of (m := 1000000000000) (by omega) (by decide) | exact Sz.of (m := 1000000) (by omega) (by decide) | exact B.mono (by assumption) (by decide) | exact ⟨Sz.of (m := 1000000000000) (by omega) (by decide), Sz.of (m := 1000000000000) (by omega) (by decide)⟩ | apply Sz.mul2 | (refine Sz.add2 ?_ ?_ (by decide)) | (refine Sz.sub2 ?_ ?_ (by decide)) | apply Sz.neg | apply B.mul2 | (refine B.add2 ?_ ?_ (by decide)) | (refine B.sub2 ?_ ?_ (by decide)) | apply B.neg)); done) | (refine nice_ok ?_; (repeat' (first | exact nice_shr | exact nice_spt | exact nice_mpv | exact nice_int | exact nice_bl | exact nice_non | exact nicel_nil | refine nicel_cons ?_ ?_ | refine nice_tup (by simp) ?_ | refine nice_lst (by simp) ?_)); done) | ((repeat' (first | exact Sz.mono (by assumption) (by decide) | exact Sz.mono (B.n (by assumption)) (by decide) | exact Sz.mono (B.d (by assumption)) (by decide) | exact Sz.of (m := 1000000000000) (by omega) (by decide) | exact Sz.of (m := 1000000) (by omega) (by decide) | exact B.mono (by assumption) (by decide) | exact ⟨Sz.of (m := 1000000000000) (by omega) (by decide), Sz.of (m := 1000000000000) (by omega) (by decide)⟩ | apply Sz.mul2 | (refine Sz.add2 ?_ ?_ (by decide)) | (refine Sz.sub2 ?_ ?_ (by decide)) | apply Sz.neg | apply B.mul2 | (refine B.add2 ?_ ?_ (by decide)) | (refine B.sub2 ?_ ?_ (by decide)) | apply B.neg)); done) | (unfold tB; simp; done) | decide)) only [d__law_nearest, b__law_nearest, S_done, S_asg, S_asgT, S_par, S_sub, S_expr, S_if, S_for, S_forB, S_ret, S_retN, E_var, E_cst, E_gl, E_yes, E_tup, E_lst, E_mkl, E_bin, E_mkb, E_neg, E_not, E_cmp, E_chain, E_isN, E_isB, E_and, E_or, E_ite, E_idx, E_rev, E_slc, P_non, P_cst, P_var, P_bin, P_neg, P_call, P_blt, E_call, E_blt, E_mkt, E_isi, E_app, Es_nil, Es_cons, E_T, E_alloc, E_lc, E_mkc, LC_nil, LC_cons, LC_B, lcQ, accO, bls, Option.map_some, List.all_cons, List.all_nil, id_eq, Bool.and_true, OkO_some, OkI_t, OkI_f, Ok_ok, OkS_next, OkS_ret, deref_int, deref_bl, deref_str, deref_non, deref_tup, deref_lst, deref_fn, deref_frz, deref_r0, deref_r1, deref_r2, T_bl, T_int, T_tup, T_lst, T_non, B_addI, B_addL, B_addT, B_subI, C_ltI, C_leI, C_gtI, C_geI, C_eqI, C_eqB, C_neB, C_neI, I_tup, I_lst, L_tup, L_lst, L_abs, L_max, L_min, L_int, L_tupL, L_tupT, L_listT, L_listL, L_listF, L_all, L_any, It_L, It_T, It_r1, It_r2, negO_int, intO_int, isBo, setAll, atI_0, atI_1, atI_2, atI_3, get_0, get_1, get_2, get_3, get_4, get_5, get_6, get_7, get_8, get_9, get_10, get_11, get_12, get_13, get_14, get_15, get_16, set_0, set_1, set_2, set_3, set_4, set_5, set_6, set_7, set_8, set_9, set_10, set_11, set_12, set_13, set_14, set_15, set_16, List.map_cons, List.map_nil, List.cons_append, List.nil_append, List.replicate_succ, List.replicate_zero, List.append_nil, List.length_cons, List.length_nil, if_true, if_false, Bool.not_true, Bool.not_false, Bool.false_eq_true, Nat.sub_self, Nat.reduceSub, Nat.reduceAdd, Nat.zero_add, Nat.reduceLeDiff, lim, and_true, true_and, decide_true, decide_false, PV.isRef, wipeE, B_mulI', B_divI', B_modI', decT, decF, I_shr0, I_shr1, D_shr, OkS_for_nil, C_eqR, C_neR, C_eqNil, C_neNil, C_eqI1, C_eqI2, C_eqB1, Rv_tup, Rv_lst, List.reverse_cons, List.reverse_nil, isTy, isNo_shr, isNo_tup, isNo_non, isNo_int, isNo_bl, isNo_str, isNo_lst, isNo_ref, bne_self_eq_false, Bool.bne_true, Bool.bne_false, Bool.true_bne, Bool.false_bne, bindT_nm, bindT_tp, bindT_shr, bindTs_nil, bindTs_cons, Option.bind_some, Int.toNat_natCast, get_17, set_17, get_18, set_18, get_19, set_19, get_20, set_20, E_sst, E_lrg, Rg_l, Rg_t, L_sum, inl, get_21, set_21, get_22, set_22, get_23, set_23, get_24, set_24, get_25, set_25, get_26, set_26, get_27, set_27, get_28, set_28, get_29, set_29, get_30, set_30, E_ktp, E_cnt, hd, z, e]
theorem nr_spec (x : Rat) : ((nr x : Int) : Rat) * 2 ≤ x * 2 + 1 ∧ x * 2 + 1 < ((nr x : Int) : Rat) * 2 + 2 := by
  obtain ⟨ex, nx⟩ := rat_form x
  have hp := den_pos' x
  have i1 : nr x * (2 * (x.den : Int)) ≤ 2 * x.num + x.den := Int.ediv_mul_le _ (by omega)
  have i2 : 2 * x.num + x.den < (nr x + 1) * (2 * (x.den : Int)) := Int.lt_ediv_add_one_mul_self _ (by omega)
  have r1 : ((nr x * (2 * (x.den : Int)) : Int) : Rat) ≤ ((2 * x.num + x.den : Int) : Rat) := Rat.intCast_le_intCast.mpr i1
  have r2 : ((2 * x.num + x.den : Int) : Rat) < (((nr x + 1) * (2 * (x.den : Int)) : Int) : Rat) := Rat.intCast_lt_intCast.mpr i2
  have dp : (0 : Rat) < ((x.den : Int) : Rat) := Rat.intCast_lt_intCast.mpr hp
  simp only [Rat.intCast_mul, Rat.intCast_add, ex] at r1 r2
  have t2 : ((2 : Int) : Rat) = 2 := rfl
  have t1 : ((1 : Int) : Rat) = 1 := rfl
  rw [t2] at r1 r2
  rw [t1] at r2
  constructor
  · refine Rat.not_lt.mp fun h => ?_
    have := (Rat.mul_lt_mul_right dp).mpr h
    grind
  · refine (Rat.mul_lt_mul_right dp).mp ?_
    grind
/-- the nearest integer rises with the share -/
theorem nr_mono {x y : Rat} (h : x ≤ y) : nr x ≤ nr y := by
  obtain ⟨a1, a2⟩ := nr_spec x
  obtain ⟨b1, b2⟩ := nr_spec y
  have : ((nr x : Int) : Rat) < ((nr y + 1 : Int) : Rat) := by
    rw [Rat.intCast_add, show ((1 : Int) : Rat) = 1 from rfl]
    grind
  have := Rat.intCast_lt_intCast.mp this
  omega
/-- by at most 1: by at most one -/
theorem nr_near {x y : Rat} (h : y ≤ x + 1) : nr y ≤ nr x + 1 := by
  obtain ⟨a1, a2⟩ := nr_spec x
  obtain ⟨b1, b2⟩ := nr_spec y
  have : ((nr y : Int) : Rat) < ((nr x + 2 : Int) : Rat) := by
    rw [Rat.intCast_add, show ((2 : Int) : Rat) = 2 from rfl]
    grind
  have := Rat.intCast_lt_intCast.mp this
  omega
/-- by at least 1: not alike -/
theorem nr_far {x y : Rat} (h : x + 1 ≤ y) : nr x < nr y := by
  obtain ⟨a1, a2⟩ := nr_spec x
  obtain ⟨b1, b2⟩ := nr_spec y
  refine Rat.intCast_lt_intCast.mp ?_
  grind
end

end Ev.K83
end
section
set_option Elab.async false
set_option linter.all false
set_option maxRecDepth 100000
set_option maxHeartbeats 4000000
set_option exponentiation.threshold 5000
namespace Ev.K83
open PySem L2
variable {Tb : List Fd} [IsTab Tb]
section
variable {W : Nat} {st : Store}
/-- told and due at each place -/
theorem same_seq {n m : Nat} {f g : Nat → PV} {v : PV} (hv : v = .tup (rl m f) ∨ v = .ktp (rl m f)) (hm : m ≤ 100000) (h : ∀ i, i < m → callN Tb W n i__law_same [f i, g i] st = .ok (.bl true) st) : callN Tb W (n + 1) i__law_same [v, .tup (rl m g)] st = .ok (.bl true) st := by
  refine call_eq T__law_same rfl ?_
  have hr := rgOk_n (n := m) (by omega)
  rcases hv with e | e
  all_goals
    rw [e]
    simp -dsimp (disch := first | (refine OM.mk ?_; first | omega | assumption | rfl) | ((fail_if_success refine OM.mk ?_); first | assumption | omega | exact deref_int | exact ty_int | exact deref_tup | exact ty_tup | exact D_shr | exact ty_shr | exact deref_bl | exact ty_bl | exact deref_non | exact ty_non | exact deref_str | exact ty_str | exact deref_lst | exact ty_lst | (refine mulOk_sz ?_ ?_ <;> (repeat' (first | exact Sz.mono (by assumption) (by decide) | exact Sz.mono (B.n (by assumption)) (by decide) | exact Sz.mono (B.d (by assumption)) (by decide) | exact Sz.of (m := 1000000000000) (by omega) (by decide) | exact Sz.of (m := 1000000) (by omega) (by decide) | exact B.mono (by assumption) (by decide) | exact ⟨Sz.of (m := 1000000000000) (by omega) (by decide), Sz.of (m := 1000000000000) (by omega) (by decide)⟩ | apply Sz.mul2 | (refine Sz.add2 ?_ ?_ (by decide)) | (refine Sz.sub2 ?_ ?_ (by decide)) | apply Sz.neg | apply B.mul2 | (refine B.add2 ?_ ?_ (by decide)) | (refine B.sub2 ?_ ?_ (by decide)) | apply B.neg)); done) | (refine nice_ok ?_; (repeat' (first | exact nice_shr | exact nice_spt | exact nice_mpv | exact nice_int | exact nice_bl | exact nice_non | exact nicel_nil | refine nicel_cons ?_ ?_ | refine nice_tup (by simp) ?_ | refine nice_lst (by simp) ?_)); done) | ((repeat' (first | exact Sz.mono (by assumption) (by decide) | exact Sz.mono (B.n (by assumption)) (by decide) | exact Sz.mono (B.d (by assumption)) (by decide) | exact Sz.of (m := 1000000000000) (by omega) (by decide) | exact Sz.of (m := 1000000) (by omega) (by decide) | exact B.mono (by assumption) (by decide) | exact ⟨Sz.of (m := 1000000000000) (by omega) (by decide), Sz.of (m := 1000000000000) (by omega) (by decide)⟩ | apply Sz.mul2 | (refine Sz.add2 ?_ ?_ (by decide)) | (refine Sz.sub2 ?_ ?_ (by decide)) | apply Sz.neg | apply B.mul2 | (refine B.add2 ?_ ?_ (by decide)) | (refine B.sub2 ?_ ?_ (by decide)) | apply B.neg)); done) | (unfold tB; simp; done) | decide)) only [d__law_same, b__law_same, S_done, S_asg, S_asgT, S_par, S_sub, S_expr, S_if, S_for, S_forB, S_ret, S_retN, E_var, E_cst, E_gl, E_yes, E_tup, E_lst, E_mkl, E_bin, E_mkb, E_neg, E_not, E_cmp, E_chain, E_isN, E_isB, E_and, E_or, E_ite, E_idx, E_rev, E_slc, P_non, P_cst, P_var, P_bin, P_neg, P_call, P_blt, E_call, E_blt, E_mkt, E_isi, E_app, Es_nil, Es_cons, E_T, E_alloc, E_lc, E_mkc, LC_nil, LC_cons, LC_B, lcQ, accO, bls, Option.map_some, List.all_cons, List.all_nil, id_eq, Bool.and_true, OkO_some, OkI_t, OkI_f, Ok_ok, OkS_next, OkS_ret, deref_int, deref_bl, deref_str, deref_non, deref_tup, deref_lst, deref_fn, deref_frz, deref_r0, deref_r1, deref_r2, T_bl, T_int, T_tup, T_lst, T_non, B_addI, B_addL, B_addT, B_subI, C_ltI, C_leI, C_gtI, C_geI, C_eqI, C_eqB, C_neB, C_neI, I_tup, I_lst, L_tup, L_lst, L_abs, L_max, L_min, L_int, L_tupL, L_tupT, L_listT, L_listL, L_listF, L_all, L_any, It_L, It_T, It_r1, It_r2, negO_int, intO_int, isBo, setAll, atI_0, atI_1, atI_2, atI_3, get_0, get_1, get_2, get_3, get_4, get_5, get_6, get_7, get_8, get_9, get_10, get_11, get_12, get_13, get_14, get_15, get_16, set_0, set_1, set_2, set_3, set_4, set_5, set_6, set_7, set_8, set_9, set_10, set_11, set_12, set_13, set_14, set_15, set_16, List.map_cons, List.map_nil, List.cons_append, List.nil_append, List.replicate_succ, List.replicate_zero, List.append_nil, List.length_cons, List.length_nil, if_true, if_false, Bool.not_true, Bool.not_false, Bool.false_eq_true, Nat.sub_self, Nat.reduceSub, Nat.reduceAdd, Nat.zero_add, Nat.reduceLeDiff, lim, and_true, true_and, decide_true, decide_false, PV.isRef, wipeE, B_mulI', B_divI', B_modI', decT, decF, I_shr0, I_shr1, D_shr, OkS_for_nil, C_eqR, C_neR, C_eqNil, C_neNil, C_eqI1, C_eqI2, C_eqB1, Rv_tup, Rv_lst, List.reverse_cons, List.reverse_nil, isTy, isNo_shr, isNo_tup, isNo_non, isNo_int, isNo_bl, isNo_str, isNo_lst, isNo_ref, bne_self_eq_false, Bool.bne_true, Bool.bne_false, Bool.true_bne, Bool.false_bne, bindT_nm, bindT_tp, bindT_shr, bindTs_nil, bindTs_cons, Option.bind_some, Int.toNat_natCast, get_17, set_17, get_18, set_18, get_19, set_19, get_20, set_20, E_sst, E_lrg, Rg_l, Rg_t, L_sum, inl, get_21, set_21, get_22, set_22, get_23, set_23, get_24, set_24, get_25, set_25, get_26, set_26, get_27, set_27, get_28, set_28, get_29, set_29, get_30, set_30, E_ktp, E_cnt, hr, rgV_rl, tyOk, deref_ktp, rl_len]
    refine Ok_eq (lc_rlif (n := m) (p := fun _ => false) (g := fun _ => .int 1) (by omega) fun i hi => lcB_ok ?_) ?_
    · have hh := h i hi
      simp -dsimp (disch := first | (refine OM.mk ?_; first | omega | assumption | rfl) | ((fail_if_success refine OM.mk ?_); first | assumption | omega | exact deref_int | exact ty_int | exact deref_tup | exact ty_tup | exact D_shr | exact ty_shr | exact deref_bl | exact ty_bl | exact deref_non | exact ty_non | exact deref_str | exact ty_str | exact deref_lst | exact ty_lst | (refine mulOk_sz ?_ ?_ <;> (repeat' (first | exact Sz.mono (by assumption) (by decide) | exact Sz.mono (B.n (by assumption)) (by decide) | exact Sz.mono (B.d (by assumption)) (by decide) | exact Sz.of (m := 1000000000000) (by omega) (by decide) | exact Sz.of (m := 1000000) (by omega) (by decide) | exact B.mono (by assumption) (by decide) | exact ⟨Sz.of (m := 1000000000000) (by omega) (by decide), Sz.of (m := 1000000000000) (by omega) (by decide)⟩ | apply Sz.mul2 | (refine Sz.add2 ?_ ?_ (by decide)) | (refine Sz.sub2 ?_ ?_ (by decide)) | apply Sz.neg | apply B.mul2 | (refine B.add2 ?_ ?_ (by decide)) | (refine B.sub2 ?_ ?_ (by decide)) | apply B.neg)); done) | (refine nice_ok ?_; (repeat' (first | exact nice_shr | exact nice_spt | exact nice_mpv | exact nice_int | exact nice_bl | exact nice_non | exact nicel_nil | refine nicel_cons ?_ ?_ | refine nice_tup (by simp) ?_ | refine nice_lst (by simp) ?_)); done) | ((repeat' (first | exact Sz.mono (by assumption) (by decide) | exact Sz.mono (B.n (by assumption)) (by decide) | exact Sz.mono (B.d (by assumption)) (by decide) | exact Sz.of (m := 1000000000000) (by omega) (by decide) | exact Sz.of (m := 1000000) (by omega) (by decide) | exact B.mono (by assumption) (by decide) | exact ⟨Sz.of (m := 1000000000000) (by omega) (by decide), Sz.of (m := 1000000000000) (by omega) (by decide)⟩ | apply Sz.mul2 | (refine Sz.add2 ?_ ?_ (by decide)) | (refine Sz.sub2 ?_ ?_ (by decide)) | apply Sz.neg | apply B.mul2 | (refine B.add2 ?_ ?_ (by decide)) | (refine B.sub2 ?_ ?_ (by decide)) | apply B.neg)); done) | (unfold tB; simp; done) | decide)) only [S_done, S_asg, S_asgT, S_par, S_sub, S_expr, S_if, S_for, S_forB, S_ret, S_retN, E_var, E_cst, E_gl, E_yes, E_tup, E_lst, E_mkl, E_bin, E_mkb, E_neg, E_not, E_cmp, E_chain, E_isN, E_isB, E_and, E_or, E_ite, E_idx, E_rev, E_slc, P_non, P_cst, P_var, P_bin, P_neg, P_call, P_blt, E_call, E_blt, E_mkt, E_isi, E_app, Es_nil, Es_cons, E_T, E_alloc, E_lc, E_mkc, LC_nil, LC_cons, LC_B, lcQ, accO, bls, Option.map_some, List.all_cons, List.all_nil, id_eq, Bool.and_true, OkO_some, OkI_t, OkI_f, Ok_ok, OkS_next, OkS_ret, deref_int, deref_bl, deref_str, deref_non, deref_tup, deref_lst, deref_fn, deref_frz, deref_r0, deref_r1, deref_r2, T_bl, T_int, T_tup, T_lst, T_non, B_addI, B_addL, B_addT, B_subI, C_ltI, C_leI, C_gtI, C_geI, C_eqI, C_eqB, C_neB, C_neI, I_tup, I_lst, L_tup, L_lst, L_abs, L_max, L_min, L_int, L_tupL, L_tupT, L_listT, L_listL, L_listF, L_all, L_any, It_L, It_T, It_r1, It_r2, negO_int, intO_int, isBo, setAll, atI_0, atI_1, atI_2, atI_3, get_0, get_1, get_2, get_3, get_4, get_5, get_6, get_7, get_8, get_9, get_10, get_11, get_12, get_13, get_14, get_15, get_16, set_0, set_1, set_2, set_3, set_4, set_5, set_6, set_7, set_8, set_9, set_10, set_11, set_12, set_13, set_14, set_15, set_16, List.map_cons, List.map_nil, List.cons_append, List.nil_append, List.replicate_succ, List.replicate_zero, List.append_nil, List.length_cons, List.length_nil, if_true, if_false, Bool.not_true, Bool.not_false, Bool.false_eq_true, Nat.sub_self, Nat.reduceSub, Nat.reduceAdd, Nat.zero_add, Nat.reduceLeDiff, lim, and_true, true_and, decide_true, decide_false, PV.isRef, wipeE, B_mulI', B_divI', B_modI', decT, decF, I_shr0, I_shr1, D_shr, OkS_for_nil, C_eqR, C_neR, C_eqNil, C_neNil, C_eqI1, C_eqI2, C_eqB1, Rv_tup, Rv_lst, List.reverse_cons, List.reverse_nil, isTy, isNo_shr, isNo_tup, isNo_non, isNo_int, isNo_bl, isNo_str, isNo_lst, isNo_ref, bne_self_eq_false, Bool.bne_true, Bool.bne_false, Bool.true_bne, Bool.false_bne, bindT_nm, bindT_tp, bindT_shr, bindTs_nil, bindTs_cons, Option.bind_some, Int.toNat_natCast, get_17, set_17, get_18, set_18, get_19, set_19, get_20, set_20, E_sst, E_lrg, Rg_l, Rg_t, L_sum, inl, get_21, set_21, get_22, set_22, get_23, set_23, get_24, set_24, get_25, set_25, get_26, set_26, get_27, set_27, get_28, set_28, get_29, set_29, get_30, set_30, E_ktp, E_cnt, rl_at hi, deref_ktp]
      rw [hh]
      simp -dsimp (disch := first | (refine OM.mk ?_; first | omega | assumption | rfl) | ((fail_if_success refine OM.mk ?_); first | assumption | omega | exact deref_int | exact ty_int | exact deref_tup | exact ty_tup | exact D_shr | exact ty_shr | exact deref_bl | exact ty_bl | exact deref_non | exact ty_non | exact deref_str | exact ty_str | exact deref_lst | exact ty_lst | (refine mulOk_sz ?_ ?_ <;> (repeat' (first | exact Sz.mono (by assumption) (by decide) | exact Sz.mono (B.n (by assumption)) (by decide) | exact Sz.mono (B.d (by assumption)) (by decide) | exact Sz.of (m := 1000000000000) (by omega) (by decide) | exact Sz.of (m := 1000000) (by omega) (by decide) | exact B.mono (by assumption) (by decide) | exact ⟨Sz.of (m := 1000000000000) (by omega) (by decide), Sz.of (m := 1000000000000) (by omega) (by decide)⟩ | apply Sz.mul2 | (refine Sz.add2 ?_ ?_ (by decide)) | (refine Sz.sub2 ?_ ?_ (by decide)) | apply Sz.neg | apply B.mul2 | (refine B.add2 ?_ ?_ (by decide)) | (refine B.sub2 ?_ ?_ (by decide)) | apply B.neg)); done) | (refine nice_ok ?_; (repeat' (first | exact nice_shr | exact nice_spt | exact nice_mpv | exact nice_int | exact nice_bl | exact nice_non | exact nicel_nil | refine nicel_cons ?_ ?_ | refine nice_tup (by simp) ?_ | refine nice_lst (by simp) ?_)); done) | ((repeat' (first | exact Sz.mono (by assumption) (by decide) | exact Sz.mono (B.n (by assumption)) (by decide) | exact Sz.mono (B.d (by assumption)) (by decide) | exact Sz.of (m := 1000000000000) (by omega) (by decide) | exact Sz.of (m := 1000000) (by omega) (by decide) | exact B.mono (by assumption) (by decide) | exact ⟨Sz.of (m := 1000000000000) (by omega) (by decide), Sz.of (m := 1000000000000) (by omega) (by decide)⟩ | apply Sz.mul2 | (refine Sz.add2 ?_ ?_ (by decide)) | (refine Sz.sub2 ?_ ?_ (by decide)) | apply Sz.neg | apply B.mul2 | (refine B.add2 ?_ ?_ (by decide)) | (refine B.sub2 ?_ ?_ (by decide)) | apply B.neg)); done) | (unfold tB; simp; done) | decide)) only [S_done, S_asg, S_asgT, S_par, S_sub, S_expr, S_if, S_for, S_forB, S_ret, S_retN, E_var, E_cst, E_gl, E_yes, E_tup, E_lst, E_mkl, E_bin, E_mkb, E_neg, E_not, E_cmp, E_chain, E_isN, E_isB, E_and, E_or, E_ite, E_idx, E_rev, E_slc, P_non, P_cst, P_var, P_bin, P_neg, P_call, P_blt, E_call, E_blt, E_mkt, E_isi, E_app, Es_nil, Es_cons, E_T, E_alloc, E_lc, E_mkc, LC_nil, LC_cons, LC_B, lcQ, accO, bls, Option.map_some, List.all_cons, List.all_nil, id_eq, Bool.and_true, OkO_some, OkI_t, OkI_f, Ok_ok, OkS_next, OkS_ret, deref_int, deref_bl, deref_str, deref_non, deref_tup, deref_lst, deref_fn, deref_frz, deref_r0, deref_r1, deref_r2, T_bl, T_int, T_tup, T_lst, T_non, B_addI, B_addL, B_addT, B_subI, C_ltI, C_leI, C_gtI, C_geI, C_eqI, C_eqB, C_neB, C_neI, I_tup, I_lst, L_tup, L_lst, L_abs, L_max, L_min, L_int, L_tupL, L_tupT, L_listT, L_listL, L_listF, L_all, L_any, It_L, It_T, It_r1, It_r2, negO_int, intO_int, isBo, setAll, atI_0, atI_1, atI_2, atI_3, get_0, get_1, get_2, get_3, get_4, get_5, get_6, get_7, get_8, get_9, get_10, get_11, get_12, get_13, get_14, get_15, get_16, set_0, set_1, set_2, set_3, set_4, set_5, set_6, set_7, set_8, set_9, set_10, set_11, set_12, set_13, set_14, set_15, set_16, List.map_cons, List.map_nil, List.cons_append, List.nil_append, List.replicate_succ, List.replicate_zero, List.append_nil, List.length_cons, List.length_nil, if_true, if_false, Bool.not_true, Bool.not_false, Bool.false_eq_true, Nat.sub_self, Nat.reduceSub, Nat.reduceAdd, Nat.zero_add, Nat.reduceLeDiff, lim, and_true, true_and, decide_true, decide_false, PV.isRef, wipeE, B_mulI', B_divI', B_modI', decT, decF, I_shr0, I_shr1, D_shr, OkS_for_nil, C_eqR, C_neR, C_eqNil, C_neNil, C_eqI1, C_eqI2, C_eqB1, Rv_tup, Rv_lst, List.reverse_cons, List.reverse_nil, isTy, isNo_shr, isNo_tup, isNo_non, isNo_int, isNo_bl, isNo_str, isNo_lst, isNo_ref, bne_self_eq_false, Bool.bne_true, Bool.bne_false, Bool.true_bne, Bool.false_bne, bindT_nm, bindT_tp, bindT_shr, bindTs_nil, bindTs_cons, Option.bind_some, Int.toNat_natCast, get_17, set_17, get_18, set_18, get_19, set_19, get_20, set_20, E_sst, E_lrg, Rg_l, Rg_t, L_sum, inl, get_21, set_21, get_22, set_22, get_23, set_23, get_24, set_24, get_25, set_25, get_26, set_26, get_27, set_27, get_28, set_28, get_29, set_29, get_30, set_30, E_ktp, E_cnt]
    rw [show ((List.range m).filter fun _ => false) = [] from List.filter_eq_nil_iff.mpr (by simp)]
    simp -dsimp (disch := first | (refine OM.mk ?_; first | omega | assumption | rfl) | ((fail_if_success refine OM.mk ?_); first | assumption | omega | exact deref_int | exact ty_int | exact deref_tup | exact ty_tup | exact D_shr | exact ty_shr | exact deref_bl | exact ty_bl | exact deref_non | exact ty_non | exact deref_str | exact ty_str | exact deref_lst | exact ty_lst | (refine mulOk_sz ?_ ?_ <;> (repeat' (first | exact Sz.mono (by assumption) (by decide) | exact Sz.mono (B.n (by assumption)) (by decide) | exact Sz.mono (B.d (by assumption)) (by decide) | exact Sz.of (m := 1000000000000) (by omega) (by decide) | exact Sz.of (m := 1000000) (by omega) (by decide) | exact B.mono (by assumption) (by decide) | exact ⟨Sz.of (m := 1000000000000) (by omega) (by decide), Sz.of (m := 1000000000000) (by omega) (by decide)⟩ | apply Sz.mul2 | (refine Sz.add2 ?_ ?_ (by decide)) | (refine Sz.sub2 ?_ ?_ (by decide)) | apply Sz.neg | apply B.mul2 | (refine B.add2 ?_ ?_ (by decide)) | (refine B.sub2 ?_ ?_ (by decide)) | apply B.neg)); done) | (refine nice_ok ?_; (repeat' (first | exact nice_shr | exact nice_spt | exact nice_mpv | exact nice_int | exact nice_bl | exact nice_non | exact nicel_nil | refine nicel_cons ?_ ?_ | refine nice_tup (by simp) ?_ | refine nice_lst (by simp) ?_)); done) | ((repeat' (first | exact Sz.mono (by assumption) (by decide) | exact Sz.mono (B.n (by assumption)) (by decide) | exact Sz.mono (B.d (by assumption)) (by decide) | exact Sz.of (m := 1000000000000) (by omega) (by decide) | exact Sz.of (m := 1000000) (by omega) (by decide) | exact B.mono (by assumption) (by decide) | exact ⟨Sz.of (m := 1000000000000) (by omega) (by decide), Sz.of (m := 1000000000000) (by omega) (by decide)⟩ | apply Sz.mul2 | (refine Sz.add2 ?_ ?_ (by decide)) | (refine Sz.sub2 ?_ ?_ (by decide)) | apply Sz.neg | apply B.mul2 | (refine B.add2 ?_ ?_ (by decide)) | (refine B.sub2 ?_ ?_ (by decide)) | apply B.neg)); done) | (unfold tB; simp; done) | decide)) only [S_done, S_asg, S_asgT, S_par, S_sub, S_expr, S_if, S_for, S_forB, S_ret, S_retN, E_var, E_cst, E_gl, E_yes, E_tup, E_lst, E_mkl, E_bin, E_mkb, E_neg, E_not, E_cmp, E_chain, E_isN, E_isB, E_and, E_or, E_ite, E_idx, E_rev, E_slc, P_non, P_cst, P_var, P_bin, P_neg, P_call, P_blt, E_call, E_blt, E_mkt, E_isi, E_app, Es_nil, Es_cons, E_T, E_alloc, E_lc, E_mkc, LC_nil, LC_cons, LC_B, lcQ, accO, bls, Option.map_some, List.all_cons, List.all_nil, id_eq, Bool.and_true, OkO_some, OkI_t, OkI_f, Ok_ok, OkS_next, OkS_ret, deref_int, deref_bl, deref_str, deref_non, deref_tup, deref_lst, deref_fn, deref_frz, deref_r0, deref_r1, deref_r2, T_bl, T_int, T_tup, T_lst, T_non, B_addI, B_addL, B_addT, B_subI, C_ltI, C_leI, C_gtI, C_geI, C_eqI, C_eqB, C_neB, C_neI, I_tup, I_lst, L_tup, L_lst, L_abs, L_max, L_min, L_int, L_tupL, L_tupT, L_listT, L_listL, L_listF, L_all, L_any, It_L, It_T, It_r1, It_r2, negO_int, intO_int, isBo, setAll, atI_0, atI_1, atI_2, atI_3, get_0, get_1, get_2, get_3, get_4, get_5, get_6, get_7, get_8, get_9, get_10, get_11, get_12, get_13, get_14, get_15, get_16, set_0, set_1, set_2, set_3, set_4, set_5, set_6, set_7, set_8, set_9, set_10, set_11, set_12, set_13, set_14, set_15, set_16, List.map_cons, List.map_nil, List.cons_append, List.nil_append, List.replicate_succ, List.replicate_zero, List.append_nil, List.length_cons, List.length_nil, if_true, if_false, Bool.not_true, Bool.not_false, Bool.false_eq_true, Nat.sub_self, Nat.reduceSub, Nat.reduceAdd, Nat.zero_add, Nat.reduceLeDiff, lim, and_true, true_and, decide_true, decide_false, PV.isRef, wipeE, B_mulI', B_divI', B_modI', decT, decF, I_shr0, I_shr1, D_shr, OkS_for_nil, C_eqR, C_neR, C_eqNil, C_neNil, C_eqI1, C_eqI2, C_eqB1, Rv_tup, Rv_lst, List.reverse_cons, List.reverse_nil, isTy, isNo_shr, isNo_tup, isNo_non, isNo_int, isNo_bl, isNo_str, isNo_lst, isNo_ref, bne_self_eq_false, Bool.bne_true, Bool.bne_false, Bool.true_bne, Bool.false_bne, bindT_nm, bindT_tp, bindT_shr, bindTs_nil, bindTs_cons, Option.bind_some, Int.toNat_natCast, get_17, set_17, get_18, set_18, get_19, set_19, get_20, set_20, E_sst, E_lrg, Rg_l, Rg_t, L_sum, inl, get_21, set_21, get_22, set_22, get_23, set_23, get_24, set_24, get_25, set_25, get_26, set_26, get_27, set_27, get_28, set_28, get_29, set_29, get_30, set_30, E_ktp, E_cnt, C_eqNil]
end

end Ev.K83
end
section
set_option Elab.async false
set_option linter.all false
set_option maxRecDepth 100000
set_option maxHeartbeats 4000000
set_option exponentiation.threshold 5000
namespace Ev.K83
open PySem L2
variable {Tb : List Fd} [IsTab Tb]
section
/-! the plain law of slopes -/
theorem st_le {f : Nat → Int} {n : Nat} (h : ∀ i, i + 1 < n → f i ≤ f (i + 1)) : ∀ k i, i + k < n → f i ≤ f (i + k)
  | 0, i, _ => Int.le_refl _
  | k + 1, i, hk => Int.le_trans (st_le h k i (by omega)) (by have := h (i + k) (by omega); simpa [Nat.add_assoc] using this)
theorem st_lt {f : Nat → Int} {n : Nat} (h : ∀ i, i + 1 < n → f i < f (i + 1)) : ∀ k i, i + (k + 1) < n → f i < f (i + (k + 1))
  | 0, i, hk => h i hk
  | k + 1, i, hk => Int.lt_trans (st_lt h k i (by omega)) (by have := h (i + (k + 1)) (by omega); simpa [Nat.add_assoc] using this)
theorem st_far {f : Nat → Int} {n : Nat} {s : Int} (h : ∀ i, i + 1 < n → f (i + 1) ≤ f i + s) : ∀ k : Nat, k < n → f k ≤ f 0 + s * (k : Nat)
  | 0, _ => by simp
  | k + 1, hk => by
    have h1 := st_far h k (by omega)
    have h2 := h k hk
    have e : s * ((k + 1 : Nat) : Int) = s * (k : Nat) + s := by rw [Int.natCast_add, Int.mul_add]; simp
    omega
theorem st_hit {f : Nat → Int} {n : Nat} {v : Int} (h : ∀ i, i + 1 < n → f (i + 1) ≤ f i + 1) (h0 : f 0 ≤ v) : ∀ k, k < n → v ≤ f k → ∃ i, i < n ∧ f i = v
  | 0, hk, hv => ⟨0, hk, by omega⟩
  | k + 1, hk, hv => by
    by_cases z : v ≤ f k
    · exact st_hit h h0 k (by omega) z
    · exact ⟨k + 1, hk, by have := h k hk; omega⟩
def twK (T : List Int) (t0 : Int) (k : Nat) : List Int := ((List.range k).filter fun j => decide (1 < T.count (t0 + (j : Nat)))).map fun j => t0 + (j : Nat)
def msK (T : List Int) (t0 : Int) (k : Nat) : List Int := ((List.range k).filter fun j => !decide (t0 + (j : Nat) ∈ T)).map fun j => t0 + (j : Nat)
theorem twK_s {T : List Int} {t0 : Int} {k : Nat} : twK T t0 (k + 1) = twK T t0 k ++ (if 1 < T.count (t0 + (k : Nat)) then [t0 + (k : Nat)] else []) := by
  unfold twK
  rw [List.range_succ, List.filter_append, List.map_append]
  congr 1
  by_cases z : 1 < T.count (t0 + (k : Nat))
  · rw [if_pos z, List.filter_cons_of_pos (by simpa using z)]; rfl
  · rw [if_neg z, List.filter_cons_of_neg (by simpa using z)]; rfl
theorem msK_s {T : List Int} {t0 : Int} {k : Nat} : msK T t0 (k + 1) = msK T t0 k ++ (if T.count (t0 + (k : Nat)) = 0 then [t0 + (k : Nat)] else []) := by
  unfold msK
  rw [List.range_succ, List.filter_append, List.map_append]
  congr 1
  have e : T.count (t0 + (k : Nat)) = 0 ↔ ¬ (t0 + (k : Nat) ∈ T) := List.count_eq_zero
  by_cases z : T.count (t0 + (k : Nat)) = 0
  · have := e.mp z
    rw [if_pos z, List.filter_cons_of_pos (by simpa using this)]; rfl
  · have : t0 + (k : Nat) ∈ T := Decidable.not_not.mp fun y => z (e.mpr y)
    rw [if_neg z, List.filter_cons_of_neg (by simpa using this)]; rfl
theorem twK_len {T : List Int} {t0 : Int} {k : Nat} : (twK T t0 k).length ≤ k := by
  unfold twK
  rw [List.length_map]
  exact Nat.le_trans (List.length_filter_le _ _) (by simp)
theorem msK_len {T : List Int} {t0 : Int} {k : Nat} : (msK T t0 k).length ≤ k := by
  unfold msK
  rw [List.length_map]
  exact Nat.le_trans (List.length_filter_le _ _) (by simp)
theorem asc_rng (t0 : Int) (p : Nat → Bool) (k : Nat) : (((List.range k).filter p).map fun j => t0 + (j : Nat)).Pairwise (· < ·) := by
  rw [List.pairwise_map]
  refine List.Pairwise.filter _ ?_
  refine List.Pairwise.imp (R := (· < ·)) (fun {a b} h => by omega) ?_
  exact List.pairwise_lt_range
/-- told and counted: the doubled ones -/
theorem tw_eq {T : List Int} {t0 : Int} {k : Nat} (h : ∀ x ∈ T, t0 ≤ x ∧ x < t0 + (k : Nat)) : sset (T.filter fun x => decide (1 < T.count x)) = twK T t0 k := by
  refine asc_one (sset_asc _) (asc_rng t0 _ k) fun x => ?_
  unfold twK
  rw [sset_mem, List.mem_filter, List.mem_map]
  simp only [decide_eq_true_eq, List.mem_filter, List.mem_range]
  constructor
  · rintro ⟨h1, h2⟩
    obtain ⟨a, b⟩ := h x h1
    have e : t0 + ((x - t0).toNat : Nat) = x := by omega
    exact ⟨(x - t0).toNat, ⟨by omega, by rw [e]; exact h2⟩, e⟩
  · rintro ⟨j, ⟨h1, h2⟩, rfl⟩
    exact ⟨List.count_pos_iff.mp (by omega), h2⟩
theorem step_num {x : Rat} {y : Rat} {s : Int} (h : y ≤ x + (s : Rat)) : nr y ≤ nr x + s := by
  obtain ⟨a1, a2⟩ := nr_spec x
  obtain ⟨b1, b2⟩ := nr_spec y
  have : ((nr y : Int) : Rat) < ((nr x + s + 1 : Int) : Rat) := by
    rw [Rat.intCast_add, Rat.intCast_add, show ((1 : Int) : Rat) = 1 from rfl]
    grind
  have := Rat.intCast_lt_intCast.mp this
  omega
/-- the rise of a row -/
theorem row_s {a b c d lo : Int} {i : Nat} (h : a < b) : rowR a b c d lo (i + 1) = rowR a b c d lo i + ((d - c : Int) : Rat) / ((b - a : Int) : Rat) := by
  have hz := sub_ne h
  unfold rowR turnR atR wayR
  have e : ((lo + ((i + 1 : Nat) : Int) : Int) : Rat) = ((lo + (i : Nat) : Int) : Rat) + 1 := by
    rw [show ((i + 1 : Nat) : Int) = (i : Int) + 1 from rfl, ← Int.add_assoc, Rat.intCast_add (lo + (i : Int)) 1]; rfl
  rw [e, Rat.intCast_sub, Rat.intCast_sub]
  grind
theorem div_le {p q : Int} (hq : 0 < q) {s : Int} (h : p ≤ s * q) : ((p : Int) : Rat) / ((q : Int) : Rat) ≤ (s : Rat) := by
  have dp : (0 : Rat) < ((q : Int) : Rat) := Rat.intCast_lt_intCast.mpr hq
  refine Rat.not_lt.mp fun z => ?_
  have z2 := (Rat.mul_lt_mul_right dp).mpr z
  have e : ((p : Int) : Rat) / ((q : Int) : Rat) * ((q : Int) : Rat) = ((p : Int) : Rat) := by
    have : ((q : Int) : Rat) ≠ 0 := by intro e; rw [e] at dp; exact absurd dp (by decide)
    grind
  rw [e, ← Rat.intCast_mul] at z2
  have := Rat.intCast_lt_intCast.mp z2
  omega
theorem le_div {p q : Int} (hq : 0 < q) {s : Int} (h : s * q ≤ p) : (s : Rat) ≤ ((p : Int) : Rat) / ((q : Int) : Rat) := by
  have dp : (0 : Rat) < ((q : Int) : Rat) := Rat.intCast_lt_intCast.mpr hq
  refine Rat.not_lt.mp fun z => ?_
  have z2 := (Rat.mul_lt_mul_right dp).mpr z
  have e : ((p : Int) : Rat) / ((q : Int) : Rat) * ((q : Int) : Rat) = ((p : Int) : Rat) := by
    have : ((q : Int) : Rat) ≠ 0 := by intro e; rw [e] at dp; exact absurd dp (by decide)
    grind
  rw [e, ← Rat.intCast_mul] at z2
  have := Rat.intCast_lt_intCast.mp z2
  omega
theorem add_le_r {x y z : Rat} (h : y ≤ z) : x + y ≤ x + z := by grind
theorem tab_mono {a b c d lo : Int} (h : a < b) (g : c < d) (i : Nat) : nr (rowR a b c d lo i) ≤ nr (rowR a b c d lo (i + 1)) := by
  refine nr_mono ?_
  rw [row_s h]
  have := le_div (p := d - c) (q := b - a) (s := 0) (by omega) (by omega)
  have e0 : ((0 : Int) : Rat) = 0 := rfl
  rw [e0] at this
  grind
theorem tab_far {a b c d lo s : Int} (h : a < b) (g : d - c ≤ s * (b - a)) (i : Nat) : nr (rowR a b c d lo (i + 1)) ≤ nr (rowR a b c d lo i) + s := by
  refine step_num ?_
  rw [row_s h]
  exact add_le_r (div_le (by omega) g)
theorem tab_lt {a b c d lo : Int} (h : a < b) (g : b - a ≤ d - c) (i : Nat) : nr (rowR a b c d lo i) < nr (rowR a b c d lo (i + 1)) := by
  refine nr_far ?_
  rw [row_s h]
  have := le_div (p := d - c) (q := b - a) (s := 1) (by omega) (by omega)
  exact add_le_r this
theorem row_abs {a b c d lo : Int} {i : Nat} (h : a < b) (ha : a.natAbs ≤ 40) (hb : b.natAbs ≤ 40) (hc : c.natAbs ≤ 40) (hd : d.natAbs ≤ 40) (hj : (lo + (i : Nat)).natAbs ≤ 400) : (nr (rowR a b c d lo i)).natAbs ≤ 1000000 := by
  have w : rowR a b c d lo i = turnR a b c d ((lo + (i : Nat) : Int) : Rat) := rfl
  generalize lo + (i : Nat) = j at *
  have hz : ((1 : Nat) : Int) * (b - a) ≠ 0 := by omega
  have k := divInt_le (a := (j - a * ((1 : Nat) : Int)) * (d - c) + c * ((1 : Nat) : Int) * (b - a)) hz
  have t := turn_eq (a := a) (b := b) (c := c) (d := d) (r := (j : Rat)) h
  rw [Rat.num_intCast, Rat.den_intCast] at t
  rw [t, ← w] at k
  have m1 := Nat.mul_le_mul (show (j - a * ((1 : Nat) : Int)).natAbs ≤ 440 by omega) (show (d - c).natAbs ≤ 80 by omega)
  have e1 : ((j - a * ((1 : Nat) : Int)) * (d - c)).natAbs = (j - a * ((1 : Nat) : Int)).natAbs * (d - c).natAbs := Int.natAbs_mul ..
  have m3 := Nat.mul_le_mul (show (c * ((1 : Nat) : Int)).natAbs ≤ 40 by omega) (show (b - a).natAbs ≤ 80 by omega)
  have e3 : (c * ((1 : Nat) : Int) * (b - a)).natAbs = (c * ((1 : Nat) : Int)).natAbs * (b - a).natAbs := Int.natAbs_mul ..
  have hn : (rowR a b c d lo i).num.natAbs ≤ 40000 := by omega
  have hp := den_pos' (rowR a b c d lo i)
  generalize rowR a b c d lo i = x at *
  unfold nr
  have u : (2 * x.num + (x.den : Int)) / (2 * (x.den : Int)) < 100000 := (Int.ediv_lt_iff_lt_mul (by omega)).mpr (by omega)
  have l : -100000 ≤ (2 * x.num + (x.den : Int)) / (2 * (x.den : Int)) := (Int.le_ediv_iff_mul_le (by omega)).mpr (by omega)
  omega
theorem tabL_mem {a b c d lo hi x : Int} (h : a < b) (g : c < d) (hr : lo ≤ hi) (hx : x ∈ tabL a b c d lo hi) : nr0 a b c d lo ≤ x ∧ x ≤ nrE a b c d lo hi := by
  unfold tabL at hx
  obtain ⟨i, hi2, rfl⟩ := List.mem_map.mp hx
  have hi2 := List.mem_range.mp hi2
  have m := fun k i => st_le (f := fun i => nr (rowR a b c d lo i)) (n := (hi + 1 - lo).toNat) (fun i _ => tab_mono h g i) k i
  have h1 := m i 0 (by omega)
  have h2 := m ((hi + 1 - lo).toNat - 1 - i) i (by omega)
  rw [show i + ((hi + 1 - lo).toNat - 1 - i) = (hi + 1 - lo).toNat - 1 by omega] at h2
  rw [Nat.zero_add] at h1
  exact ⟨h1, h2⟩
/-- a slope of at most 1 misses none -/
theorem ms_nil {a b c d lo hi : Int} (h : a < b) (g : d - c ≤ b - a) (hr : lo ≤ hi) : msK (tabL a b c d lo hi) (nr0 a b c d lo) (nrE a b c d lo hi + 1 - nr0 a b c d lo).toNat = [] := by
  unfold msK
  rw [List.map_eq_nil_iff, List.filter_eq_nil_iff]
  intro j hj
  have hj := List.mem_range.mp hj
  simp only [Bool.not_eq_true', decide_eq_false_iff_not, Decidable.not_not]
  obtain ⟨i, h1, h2⟩ := st_hit (f := fun i => nr (rowR a b c d lo i)) (n := (hi + 1 - lo).toNat) (v := nr0 a b c d lo + (j : Nat)) (fun i _ => tab_far (s := 1) h (by omega) i) (by show nr0 a b c d lo ≤ _; omega) ((hi + 1 - lo).toNat - 1) (by omega) (by show _ ≤ nrE a b c d lo hi; omega)
  exact List.mem_map.mpr ⟨i, List.mem_range.mpr h1, h2⟩
/-- a slope of at least 1 doubles none -/
theorem tw_nil {a b c d lo hi : Int} {k : Nat} (h : a < b) (g : b - a ≤ d - c) : twK (tabL a b c d lo hi) (nr0 a b c d lo) k = [] := by
  unfold twK
  rw [List.map_eq_nil_iff, List.filter_eq_nil_iff]
  intro j _
  simp only [decide_eq_true_eq, Nat.not_lt]
  refine List.nodup_iff_count.mp ?_ _
  unfold tabL
  rw [List.Nodup, List.pairwise_map]
  refine List.Pairwise.imp (R := fun a b => a < b) (fun {x y} hxy => ?_) List.pairwise_lt_range
  have := st_lt (f := fun i => nr (rowR a b c d lo i)) (n := y + 1) (fun i _ => tab_lt h g i) (y - x - 1) x (by omega)
  rw [show x + (y - x - 1 + 1) = y by omega] at this
  exact Int.ne_of_lt this
theorem nr_int {k : Int} : nr (k : Rat) = k := by
  unfold nr
  rw [Rat.num_intCast, Rat.den_intCast]
  omega
theorem C_neIL (l : List Int) : pyCmp .ne (.lst (l.map fun i => (.int i : PV))) (.lst []) = some (!l.isEmpty) := by
  cases l with
  | nil => exact C_neNil
  | cons a l => exact C_neCons (d := .int a) (ds := l.map fun i => (.int i : PyData)) rfl (toDs_intsI l) (sh_intsI (a :: l))
theorem cnt_len {m : Nat} {f : Nat → Int} {k : Int} : (((List.range m).filter fun i => decide (f i = k)).map fun _ => (.int 1 : PV)).length = ((List.range m).map f).count k := by
  rw [List.length_map, List.count, List.countP_map, List.countP_eq_length_filter]
  congr 1
end

end Ev.K83
end
section
set_option Elab.async false
set_option linter.all false
set_option maxRecDepth 100000
set_option maxHeartbeats 4000000
set_option exponentiation.threshold 5000
namespace Ev.K83
open PySem L2
variable {Tb : List Fd} [IsTab Tb]
section
variable {st : Store}
theorem same_ints {n : Nat} {l : List Int} (hn : 10 ≤ n) (hl : l.length ≤ 100000) : callN Tb 5000 n i__law_same [.tup (l.map .int), .tup (l.map .int)] st = .ok (.bl true) st := by
  obtain ⟨n, rfl⟩ : ∃ m, n = m + 1 := ⟨n - 1, by omega⟩
  have e : (l.map PV.int) = rl l.length fun i => .int (l.getD i 0) := by
    conv => lhs; rw [rl_of (0 : Int) l]
    unfold rl
    rw [List.map_map]
    rfl
  rw [e]
  exact same_seq (.inl rfl) hl fun i hi => lw_same 1 (.int _) trivial n (by omega)
theorem same_two {n : Nat} {x y z w : PV} (h1 : callN Tb 5000 n i__law_same [x, z] st = .ok (.bl true) st) (h2 : callN Tb 5000 n i__law_same [y, w] st = .ok (.bl true) st) : callN Tb 5000 (n + 1) i__law_same [.tup [x, y], .tup [z, w]] st = .ok (.bl true) st := by
  have := same_seq (Tb := Tb) (st := st) (W := 5000) (n := n) (m := 2) (f := fun i => if i = 0 then x else y) (g := fun i => if i = 0 then z else w) (.inl rfl) (by decide) (fun i hi => by
    rcases (show i = 0 ∨ i = 1 by omega) with rfl | rfl
    · exact h1
    · exact h2)
  exact this
theorem same_three {n : Nat} {x y u z w v : PV} (h1 : callN Tb 5000 n i__law_same [x, z] st = .ok (.bl true) st) (h2 : callN Tb 5000 n i__law_same [y, w] st = .ok (.bl true) st) (h3 : callN Tb 5000 n i__law_same [u, v] st = .ok (.bl true) st) : callN Tb 5000 (n + 1) i__law_same [.tup [x, y, u], .tup [z, w, v]] st = .ok (.bl true) st := by
  have := same_seq (Tb := Tb) (st := st) (W := 5000) (n := n) (m := 3) (f := fun i => if i = 0 then x else if i = 1 then y else u) (g := fun i => if i = 0 then z else if i = 1 then w else v) (.inl rfl) (by decide) (fun i hi => by
    rcases (show i = 0 ∨ i = 1 ∨ i = 2 by omega) with rfl | rfl | rfl
    · exact h1
    · exact h2
    · exact h3)
  exact this
/-- a known tuple of ints, as the due one -/
theorem same_tab {n m : Nat} {f : Nat → Int} (hn : 10 ≤ n) (hm : m ≤ 100000) : callN Tb 5000 n i__law_same [.ktp (rl m fun i => .int (f i)), .tup (rl m fun i => .int (f i))] st = .ok (.bl true) st := by
  obtain ⟨n, rfl⟩ : ∃ m, n = m + 1 := ⟨n - 1, by omega⟩
  exact same_seq (.inr rfl) hm fun i hi => lw_same 1 (.int _) trivial n (by omega)
theorem nice_rows {d : Nat} {α : Type} {l : List α} {f g : α → Int} (h : l.length ≤ 1000) : nice (d + 3) (.tup (l.map fun i => .tup [.int (f i), .int (g i)])) := nice_tup (by simpa using h) fun x hx => by
  obtain ⟨i, _, rfl⟩ := List.mem_map.mp hx
  exact nice_tup (by simp) (nicel_cons nice_int (nicel_cons nice_int nicel_nil))
def mkI (l : List Int) : PV := .lst (l.map .int)
theorem mkI_a {l : List Int} {x : Int} : mkI (l ++ [x]) = .lst (l.map .int ++ [.int x]) := by unfold mkI; rw [List.map_append]; rfl
abbrev tbV (a b c d lo hi : Int) : PV := .lst (rl (hi + 1 - lo).toNat fun i => .int (nr (rowR a b c d lo i)))
theorem body0 {T : List Int} {t0 a b c d lo hi : Int} {k : Nat} {ρ : Env} (hT : (List.range (hi + 1 - lo).toNat).map (fun i => nr (rowR a b c d lo i)) = T) (hm : (hi + 1 - lo).toNat ≤ 100000) (hk5 : k ≤ 100000)
    (hk : Keeps [none, some (.ref 0), none, none, some (scv a b), some (scv c d), some (.int lo), some (.int hi), none, some (tbV a b c d lo hi), none, some (mkI (twK T t0 k)), some (mkI (msK T t0 k)), none, none, none, none, none, none, none, none] ρ) {Q : PV → Store → Prop} (hc : CupI st) :
    OkSp (forB (callN Tb 5000 39) 5000 (.nm 13) bL_law_0 (.int (t0 + (k : Nat))) ρ st) (fun ρ st => CupI st ∧ Keeps [none, some (.ref 0), none, none, some (scv a b), some (scv c d), some (.int lo), some (.int hi), none, some (tbV a b c d lo hi), none, some (mkI (twK T t0 (k + 1))), some (mkI (msK T t0 (k + 1))), none, none, none, none, none, none, none, none] ρ) Q := by
  obtain ⟨a0, _, rfl, _, rfl, a2, _, rfl, a3, _, rfl, _, rfl, _, rfl, _, rfl, _, rfl, a8, _, rfl, _, rfl, a10, _, rfl, _, rfl, _, rfl, a13, _, rfl, a14, _, rfl, a15, _, rfl, a16, _, rfl, a17, _, rfl, a18, _, rfl, a19, _, rfl, a20, _, rfl, rfl⟩ := hk
  refine OkSp.of ?_
  have l1 := twK_len (T := T) (t0 := t0) (k := k)
  have l2 := msK_len (T := T) (t0 := t0) (k := k)
  simp -dsimp (disch := first | (refine OM.mk ?_; first | omega | assumption | rfl) | ((fail_if_success refine OM.mk ?_); first | assumption | omega | exact deref_int | exact ty_int | exact deref_tup | exact ty_tup | exact D_shr | exact ty_shr | exact deref_bl | exact ty_bl | exact deref_non | exact ty_non | exact deref_str | exact ty_str | exact deref_lst | exact ty_lst | (refine mulOk_sz ?_ ?_ <;> (repeat' (first | exact Sz.mono (by assumption) (by decide) | exact Sz.mono (B.n (by assumption)) (by decide) | exact Sz.mono (B.d (by assumption)) (by decide) | exact Sz.of (m := 1000000000000) (by omega) (by decide) | exact Sz.of (m := 1000000) (by omega) (by decide) | exact B.mono (by assumption) (by decide) | exact ⟨Sz.of (m := 1000000000000) (by omega) (by decide), Sz.of (m := 1000000000000) (by omega) (by decide)⟩ | apply Sz.mul2 | (refine Sz.add2 ?_ ?_ (by decide)) | (refine Sz.sub2 ?_ ?_ (by decide)) | apply Sz.neg | apply B.mul2 | (refine B.add2 ?_ ?_ (by decide)) | (refine B.sub2 ?_ ?_ (by decide)) | apply B.neg)); done) | (refine nice_ok ?_; (repeat' (first | exact nice_shr | exact nice_spt | exact nice_mpv | exact nice_int | exact nice_bl | exact nice_non | exact nicel_nil | refine nicel_cons ?_ ?_ | refine nice_tup (by simp) ?_ | refine nice_lst (by simp) ?_)); done) | ((repeat' (first | exact Sz.mono (by assumption) (by decide) | exact Sz.mono (B.n (by assumption)) (by decide) | exact Sz.mono (B.d (by assumption)) (by decide) | exact Sz.of (m := 1000000000000) (by omega) (by decide) | exact Sz.of (m := 1000000) (by omega) (by decide) | exact B.mono (by assumption) (by decide) | exact ⟨Sz.of (m := 1000000000000) (by omega) (by decide), Sz.of (m := 1000000000000) (by omega) (by decide)⟩ | apply Sz.mul2 | (refine Sz.add2 ?_ ?_ (by decide)) | (refine Sz.sub2 ?_ ?_ (by decide)) | apply Sz.neg | apply B.mul2 | (refine B.add2 ?_ ?_ (by decide)) | (refine B.sub2 ?_ ?_ (by decide)) | apply B.neg)); done) | (unfold tB; simp; done) | decide)) only [bL_law_0, S_done, S_asg, S_asgT, S_par, S_sub, S_expr, S_if, S_for, S_forB, S_ret, S_retN, E_var, E_cst, E_gl, E_yes, E_tup, E_lst, E_mkl, E_bin, E_mkb, E_neg, E_not, E_cmp, E_chain, E_isN, E_isB, E_and, E_or, E_ite, E_idx, E_rev, E_slc, P_non, P_cst, P_var, P_bin, P_neg, P_call, P_blt, E_call, E_blt, E_mkt, E_isi, E_app, Es_nil, Es_cons, E_T, E_alloc, E_lc, E_mkc, LC_nil, LC_cons, LC_B, lcQ, accO, bls, Option.map_some, List.all_cons, List.all_nil, id_eq, Bool.and_true, OkO_some, OkI_t, OkI_f, Ok_ok, OkS_next, OkS_ret, deref_int, deref_bl, deref_str, deref_non, deref_tup, deref_lst, deref_fn, deref_frz, deref_r0, deref_r1, deref_r2, T_bl, T_int, T_tup, T_lst, T_non, B_addI, B_addL, B_addT, B_subI, C_ltI, C_leI, C_gtI, C_geI, C_eqI, C_eqB, C_neB, C_neI, I_tup, I_lst, L_tup, L_lst, L_abs, L_max, L_min, L_int, L_tupL, L_tupT, L_listT, L_listL, L_listF, L_all, L_any, It_L, It_T, It_r1, It_r2, negO_int, intO_int, isBo, setAll, atI_0, atI_1, atI_2, atI_3, get_0, get_1, get_2, get_3, get_4, get_5, get_6, get_7, get_8, get_9, get_10, get_11, get_12, get_13, get_14, get_15, get_16, set_0, set_1, set_2, set_3, set_4, set_5, set_6, set_7, set_8, set_9, set_10, set_11, set_12, set_13, set_14, set_15, set_16, List.map_cons, List.map_nil, List.cons_append, List.nil_append, List.replicate_succ, List.replicate_zero, List.append_nil, List.length_cons, List.length_nil, if_true, if_false, Bool.not_true, Bool.not_false, Bool.false_eq_true, Nat.sub_self, Nat.reduceSub, Nat.reduceAdd, Nat.zero_add, Nat.reduceLeDiff, lim, and_true, true_and, decide_true, decide_false, PV.isRef, wipeE, B_mulI', B_divI', B_modI', decT, decF, I_shr0, I_shr1, D_shr, OkS_for_nil, C_eqR, C_neR, C_eqNil, C_neNil, C_eqI1, C_eqI2, C_eqB1, Rv_tup, Rv_lst, List.reverse_cons, List.reverse_nil, isTy, isNo_shr, isNo_tup, isNo_non, isNo_int, isNo_bl, isNo_str, isNo_lst, isNo_ref, bne_self_eq_false, Bool.bne_true, Bool.bne_false, Bool.true_bne, Bool.false_bne, bindT_nm, bindT_tp, bindT_shr, bindTs_nil, bindTs_cons, Option.bind_some, Int.toNat_natCast, get_17, set_17, get_18, set_18, get_19, set_19, get_20, set_20, E_sst, E_lrg, Rg_l, Rg_t, L_sum, inl, get_21, set_21, get_22, set_22, get_23, set_23, get_24, set_24, get_25, set_25, get_26, set_26, get_27, set_27, get_28, set_28, get_29, set_29, get_30, set_30, E_ktp, E_cnt]
  refine Ok_eq (lc_rlif (n := (hi + 1 - lo).toNat) (p := fun i => decide (nr (rowR a b c d lo i) = t0 + (k : Nat))) (g := fun _ => .int 1) (by omega) fun i hi2 => lcB_ok ?_) ?_
  · by_cases z : nr (rowR a b c d lo i) = t0 + (k : Nat)
    · simp -dsimp (disch := first | (refine OM.mk ?_; first | omega | assumption | rfl) | ((fail_if_success refine OM.mk ?_); first | assumption | omega | exact deref_int | exact ty_int | exact deref_tup | exact ty_tup | exact D_shr | exact ty_shr | exact deref_bl | exact ty_bl | exact deref_non | exact ty_non | exact deref_str | exact ty_str | exact deref_lst | exact ty_lst | (refine mulOk_sz ?_ ?_ <;> (repeat' (first | exact Sz.mono (by assumption) (by decide) | exact Sz.mono (B.n (by assumption)) (by decide) | exact Sz.mono (B.d (by assumption)) (by decide) | exact Sz.of (m := 1000000000000) (by omega) (by decide) | exact Sz.of (m := 1000000) (by omega) (by decide) | exact B.mono (by assumption) (by decide) | exact ⟨Sz.of (m := 1000000000000) (by omega) (by decide), Sz.of (m := 1000000000000) (by omega) (by decide)⟩ | apply Sz.mul2 | (refine Sz.add2 ?_ ?_ (by decide)) | (refine Sz.sub2 ?_ ?_ (by decide)) | apply Sz.neg | apply B.mul2 | (refine B.add2 ?_ ?_ (by decide)) | (refine B.sub2 ?_ ?_ (by decide)) | apply B.neg)); done) | (refine nice_ok ?_; (repeat' (first | exact nice_shr | exact nice_spt | exact nice_mpv | exact nice_int | exact nice_bl | exact nice_non | exact nicel_nil | refine nicel_cons ?_ ?_ | refine nice_tup (by simp) ?_ | refine nice_lst (by simp) ?_)); done) | ((repeat' (first | exact Sz.mono (by assumption) (by decide) | exact Sz.mono (B.n (by assumption)) (by decide) | exact Sz.mono (B.d (by assumption)) (by decide) | exact Sz.of (m := 1000000000000) (by omega) (by decide) | exact Sz.of (m := 1000000) (by omega) (by decide) | exact B.mono (by assumption) (by decide) | exact ⟨Sz.of (m := 1000000000000) (by omega) (by decide), Sz.of (m := 1000000000000) (by omega) (by decide)⟩ | apply Sz.mul2 | (refine Sz.add2 ?_ ?_ (by decide)) | (refine Sz.sub2 ?_ ?_ (by decide)) | apply Sz.neg | apply B.mul2 | (refine B.add2 ?_ ?_ (by decide)) | (refine B.sub2 ?_ ?_ (by decide)) | apply B.neg)); done) | (unfold tB; simp; done) | decide)) only [S_done, S_asg, S_asgT, S_par, S_sub, S_expr, S_if, S_for, S_forB, S_ret, S_retN, E_var, E_cst, E_gl, E_yes, E_tup, E_lst, E_mkl, E_bin, E_mkb, E_neg, E_not, E_cmp, E_chain, E_isN, E_isB, E_and, E_or, E_ite, E_idx, E_rev, E_slc, P_non, P_cst, P_var, P_bin, P_neg, P_call, P_blt, E_call, E_blt, E_mkt, E_isi, E_app, Es_nil, Es_cons, E_T, E_alloc, E_lc, E_mkc, LC_nil, LC_cons, LC_B, lcQ, accO, bls, Option.map_some, List.all_cons, List.all_nil, id_eq, Bool.and_true, OkO_some, OkI_t, OkI_f, Ok_ok, OkS_next, OkS_ret, deref_int, deref_bl, deref_str, deref_non, deref_tup, deref_lst, deref_fn, deref_frz, deref_r0, deref_r1, deref_r2, T_bl, T_int, T_tup, T_lst, T_non, B_addI, B_addL, B_addT, B_subI, C_ltI, C_leI, C_gtI, C_geI, C_eqI, C_eqB, C_neB, C_neI, I_tup, I_lst, L_tup, L_lst, L_abs, L_max, L_min, L_int, L_tupL, L_tupT, L_listT, L_listL, L_listF, L_all, L_any, It_L, It_T, It_r1, It_r2, negO_int, intO_int, isBo, setAll, atI_0, atI_1, atI_2, atI_3, get_0, get_1, get_2, get_3, get_4, get_5, get_6, get_7, get_8, get_9, get_10, get_11, get_12, get_13, get_14, get_15, get_16, set_0, set_1, set_2, set_3, set_4, set_5, set_6, set_7, set_8, set_9, set_10, set_11, set_12, set_13, set_14, set_15, set_16, List.map_cons, List.map_nil, List.cons_append, List.nil_append, List.replicate_succ, List.replicate_zero, List.append_nil, List.length_cons, List.length_nil, if_true, if_false, Bool.not_true, Bool.not_false, Bool.false_eq_true, Nat.sub_self, Nat.reduceSub, Nat.reduceAdd, Nat.zero_add, Nat.reduceLeDiff, lim, and_true, true_and, decide_true, decide_false, PV.isRef, wipeE, B_mulI', B_divI', B_modI', decT, decF, I_shr0, I_shr1, D_shr, OkS_for_nil, C_eqR, C_neR, C_eqNil, C_neNil, C_eqI1, C_eqI2, C_eqB1, Rv_tup, Rv_lst, List.reverse_cons, List.reverse_nil, isTy, isNo_shr, isNo_tup, isNo_non, isNo_int, isNo_bl, isNo_str, isNo_lst, isNo_ref, bne_self_eq_false, Bool.bne_true, Bool.bne_false, Bool.true_bne, Bool.false_bne, bindT_nm, bindT_tp, bindT_shr, bindTs_nil, bindTs_cons, Option.bind_some, Int.toNat_natCast, get_17, set_17, get_18, set_18, get_19, set_19, get_20, set_20, E_sst, E_lrg, Rg_l, Rg_t, L_sum, inl, get_21, set_21, get_22, set_22, get_23, set_23, get_24, set_24, get_25, set_25, get_26, set_26, get_27, set_27, get_28, set_28, get_29, set_29, get_30, set_30, E_ktp, E_cnt, z]
    · simp -dsimp (disch := first | (refine OM.mk ?_; first | omega | assumption | rfl) | ((fail_if_success refine OM.mk ?_); first | assumption | omega | exact deref_int | exact ty_int | exact deref_tup | exact ty_tup | exact D_shr | exact ty_shr | exact deref_bl | exact ty_bl | exact deref_non | exact ty_non | exact deref_str | exact ty_str | exact deref_lst | exact ty_lst | (refine mulOk_sz ?_ ?_ <;> (repeat' (first | exact Sz.mono (by assumption) (by decide) | exact Sz.mono (B.n (by assumption)) (by decide) | exact Sz.mono (B.d (by assumption)) (by decide) | exact Sz.of (m := 1000000000000) (by omega) (by decide) | exact Sz.of (m := 1000000) (by omega) (by decide) | exact B.mono (by assumption) (by decide) | exact ⟨Sz.of (m := 1000000000000) (by omega) (by decide), Sz.of (m := 1000000000000) (by omega) (by decide)⟩ | apply Sz.mul2 | (refine Sz.add2 ?_ ?_ (by decide)) | (refine Sz.sub2 ?_ ?_ (by decide)) | apply Sz.neg | apply B.mul2 | (refine B.add2 ?_ ?_ (by decide)) | (refine B.sub2 ?_ ?_ (by decide)) | apply B.neg)); done) | (refine nice_ok ?_; (repeat' (first | exact nice_shr | exact nice_spt | exact nice_mpv | exact nice_int | exact nice_bl | exact nice_non | exact nicel_nil | refine nicel_cons ?_ ?_ | refine nice_tup (by simp) ?_ | refine nice_lst (by simp) ?_)); done) | ((repeat' (first | exact Sz.mono (by assumption) (by decide) | exact Sz.mono (B.n (by assumption)) (by decide) | exact Sz.mono (B.d (by assumption)) (by decide) | exact Sz.of (m := 1000000000000) (by omega) (by decide) | exact Sz.of (m := 1000000) (by omega) (by decide) | exact B.mono (by assumption) (by decide) | exact ⟨Sz.of (m := 1000000000000) (by omega) (by decide), Sz.of (m := 1000000000000) (by omega) (by decide)⟩ | apply Sz.mul2 | (refine Sz.add2 ?_ ?_ (by decide)) | (refine Sz.sub2 ?_ ?_ (by decide)) | apply Sz.neg | apply B.mul2 | (refine B.add2 ?_ ?_ (by decide)) | (refine B.sub2 ?_ ?_ (by decide)) | apply B.neg)); done) | (unfold tB; simp; done) | decide)) only [S_done, S_asg, S_asgT, S_par, S_sub, S_expr, S_if, S_for, S_forB, S_ret, S_retN, E_var, E_cst, E_gl, E_yes, E_tup, E_lst, E_mkl, E_bin, E_mkb, E_neg, E_not, E_cmp, E_chain, E_isN, E_isB, E_and, E_or, E_ite, E_idx, E_rev, E_slc, P_non, P_cst, P_var, P_bin, P_neg, P_call, P_blt, E_call, E_blt, E_mkt, E_isi, E_app, Es_nil, Es_cons, E_T, E_alloc, E_lc, E_mkc, LC_nil, LC_cons, LC_B, lcQ, accO, bls, Option.map_some, List.all_cons, List.all_nil, id_eq, Bool.and_true, OkO_some, OkI_t, OkI_f, Ok_ok, OkS_next, OkS_ret, deref_int, deref_bl, deref_str, deref_non, deref_tup, deref_lst, deref_fn, deref_frz, deref_r0, deref_r1, deref_r2, T_bl, T_int, T_tup, T_lst, T_non, B_addI, B_addL, B_addT, B_subI, C_ltI, C_leI, C_gtI, C_geI, C_eqI, C_eqB, C_neB, C_neI, I_tup, I_lst, L_tup, L_lst, L_abs, L_max, L_min, L_int, L_tupL, L_tupT, L_listT, L_listL, L_listF, L_all, L_any, It_L, It_T, It_r1, It_r2, negO_int, intO_int, isBo, setAll, atI_0, atI_1, atI_2, atI_3, get_0, get_1, get_2, get_3, get_4, get_5, get_6, get_7, get_8, get_9, get_10, get_11, get_12, get_13, get_14, get_15, get_16, set_0, set_1, set_2, set_3, set_4, set_5, set_6, set_7, set_8, set_9, set_10, set_11, set_12, set_13, set_14, set_15, set_16, List.map_cons, List.map_nil, List.cons_append, List.nil_append, List.replicate_succ, List.replicate_zero, List.append_nil, List.length_cons, List.length_nil, if_true, if_false, Bool.not_true, Bool.not_false, Bool.false_eq_true, Nat.sub_self, Nat.reduceSub, Nat.reduceAdd, Nat.zero_add, Nat.reduceLeDiff, lim, and_true, true_and, decide_true, decide_false, PV.isRef, wipeE, B_mulI', B_divI', B_modI', decT, decF, I_shr0, I_shr1, D_shr, OkS_for_nil, C_eqR, C_neR, C_eqNil, C_neNil, C_eqI1, C_eqI2, C_eqB1, Rv_tup, Rv_lst, List.reverse_cons, List.reverse_nil, isTy, isNo_shr, isNo_tup, isNo_non, isNo_int, isNo_bl, isNo_str, isNo_lst, isNo_ref, bne_self_eq_false, Bool.bne_true, Bool.bne_false, Bool.true_bne, Bool.false_bne, bindT_nm, bindT_tp, bindT_shr, bindTs_nil, bindTs_cons, Option.bind_some, Int.toNat_natCast, get_17, set_17, get_18, set_18, get_19, set_19, get_20, set_20, E_sst, E_lrg, Rg_l, Rg_t, L_sum, inl, get_21, set_21, get_22, set_22, get_23, set_23, get_24, set_24, get_25, set_25, get_26, set_26, get_27, set_27, get_28, set_28, get_29, set_29, get_30, set_30, E_ktp, E_cnt, z]
  simp -dsimp (disch := first | (refine OM.mk ?_; first | omega | assumption | rfl) | ((fail_if_success refine OM.mk ?_); first | assumption | omega | exact deref_int | exact ty_int | exact deref_tup | exact ty_tup | exact D_shr | exact ty_shr | exact deref_bl | exact ty_bl | exact deref_non | exact ty_non | exact deref_str | exact ty_str | exact deref_lst | exact ty_lst | (refine mulOk_sz ?_ ?_ <;> (repeat' (first | exact Sz.mono (by assumption) (by decide) | exact Sz.mono (B.n (by assumption)) (by decide) | exact Sz.mono (B.d (by assumption)) (by decide) | exact Sz.of (m := 1000000000000) (by omega) (by decide) | exact Sz.of (m := 1000000) (by omega) (by decide) | exact B.mono (by assumption) (by decide) | exact ⟨Sz.of (m := 1000000000000) (by omega) (by decide), Sz.of (m := 1000000000000) (by omega) (by decide)⟩ | apply Sz.mul2 | (refine Sz.add2 ?_ ?_ (by decide)) | (refine Sz.sub2 ?_ ?_ (by decide)) | apply Sz.neg | apply B.mul2 | (refine B.add2 ?_ ?_ (by decide)) | (refine B.sub2 ?_ ?_ (by decide)) | apply B.neg)); done) | (refine nice_ok ?_; (repeat' (first | exact nice_shr | exact nice_spt | exact nice_mpv | exact nice_int | exact nice_bl | exact nice_non | exact nicel_nil | refine nicel_cons ?_ ?_ | refine nice_tup (by simp) ?_ | refine nice_lst (by simp) ?_)); done) | ((repeat' (first | exact Sz.mono (by assumption) (by decide) | exact Sz.mono (B.n (by assumption)) (by decide) | exact Sz.mono (B.d (by assumption)) (by decide) | exact Sz.of (m := 1000000000000) (by omega) (by decide) | exact Sz.of (m := 1000000) (by omega) (by decide) | exact B.mono (by assumption) (by decide) | exact ⟨Sz.of (m := 1000000000000) (by omega) (by decide), Sz.of (m := 1000000000000) (by omega) (by decide)⟩ | apply Sz.mul2 | (refine Sz.add2 ?_ ?_ (by decide)) | (refine Sz.sub2 ?_ ?_ (by decide)) | apply Sz.neg | apply B.mul2 | (refine B.add2 ?_ ?_ (by decide)) | (refine B.sub2 ?_ ?_ (by decide)) | apply B.neg)); done) | (unfold tB; simp; done) | decide)) only [S_done, S_asg, S_asgT, S_par, S_sub, S_expr, S_if, S_for, S_forB, S_ret, S_retN, E_var, E_cst, E_gl, E_yes, E_tup, E_lst, E_mkl, E_bin, E_mkb, E_neg, E_not, E_cmp, E_chain, E_isN, E_isB, E_and, E_or, E_ite, E_idx, E_rev, E_slc, P_non, P_cst, P_var, P_bin, P_neg, P_call, P_blt, E_call, E_blt, E_mkt, E_isi, E_app, Es_nil, Es_cons, E_T, E_alloc, E_lc, E_mkc, LC_nil, LC_cons, LC_B, lcQ, accO, bls, Option.map_some, List.all_cons, List.all_nil, id_eq, Bool.and_true, OkO_some, OkI_t, OkI_f, Ok_ok, OkS_next, OkS_ret, deref_int, deref_bl, deref_str, deref_non, deref_tup, deref_lst, deref_fn, deref_frz, deref_r0, deref_r1, deref_r2, T_bl, T_int, T_tup, T_lst, T_non, B_addI, B_addL, B_addT, B_subI, C_ltI, C_leI, C_gtI, C_geI, C_eqI, C_eqB, C_neB, C_neI, I_tup, I_lst, L_tup, L_lst, L_abs, L_max, L_min, L_int, L_tupL, L_tupT, L_listT, L_listL, L_listF, L_all, L_any, It_L, It_T, It_r1, It_r2, negO_int, intO_int, isBo, setAll, atI_0, atI_1, atI_2, atI_3, get_0, get_1, get_2, get_3, get_4, get_5, get_6, get_7, get_8, get_9, get_10, get_11, get_12, get_13, get_14, get_15, get_16, set_0, set_1, set_2, set_3, set_4, set_5, set_6, set_7, set_8, set_9, set_10, set_11, set_12, set_13, set_14, set_15, set_16, List.map_cons, List.map_nil, List.cons_append, List.nil_append, List.replicate_succ, List.replicate_zero, List.append_nil, List.length_cons, List.length_nil, if_true, if_false, Bool.not_true, Bool.not_false, Bool.false_eq_true, Nat.sub_self, Nat.reduceSub, Nat.reduceAdd, Nat.zero_add, Nat.reduceLeDiff, lim, and_true, true_and, decide_true, decide_false, PV.isRef, wipeE, B_mulI', B_divI', B_modI', decT, decF, I_shr0, I_shr1, D_shr, OkS_for_nil, C_eqR, C_neR, C_eqNil, C_neNil, C_eqI1, C_eqI2, C_eqB1, Rv_tup, Rv_lst, List.reverse_cons, List.reverse_nil, isTy, isNo_shr, isNo_tup, isNo_non, isNo_int, isNo_bl, isNo_str, isNo_lst, isNo_ref, bne_self_eq_false, Bool.bne_true, Bool.bne_false, Bool.true_bne, Bool.false_bne, bindT_nm, bindT_tp, bindT_shr, bindTs_nil, bindTs_cons, Option.bind_some, Int.toNat_natCast, get_17, set_17, get_18, set_18, get_19, set_19, get_20, set_20, E_sst, E_lrg, Rg_l, Rg_t, L_sum, inl, get_21, set_21, get_22, set_22, get_23, set_23, get_24, set_24, get_25, set_25, get_26, set_26, get_27, set_27, get_28, set_28, get_29, set_29, get_30, set_30, E_ktp, E_cnt, cnt_len, hT]
  by_cases z1 : 1 < T.count (t0 + (k : Nat))
  · have i1 : (1 : Int) < ((T.count (t0 + (k : Nat)) : Nat) : Int) := by omega
    have i2 : ¬ ((T.count (t0 + (k : Nat)) : Nat) : Int) = 0 := by omega
    have n2 : ¬ (T.count (t0 + (k : Nat)) = 0) := by omega
    have e1 : twK T t0 (k + 1) = twK T t0 k ++ [t0 + (k : Nat)] := by rw [twK_s, if_pos z1]
    have e2 : msK T t0 (k + 1) = msK T t0 k := by rw [msK_s, if_neg n2, List.append_nil]
    rw [e1, e2]
    simp -dsimp (disch := first | (refine OM.mk ?_; first | omega | assumption | rfl) | ((fail_if_success refine OM.mk ?_); first | assumption | omega | exact deref_int | exact ty_int | exact deref_tup | exact ty_tup | exact D_shr | exact ty_shr | exact deref_bl | exact ty_bl | exact deref_non | exact ty_non | exact deref_str | exact ty_str | exact deref_lst | exact ty_lst | (refine mulOk_sz ?_ ?_ <;> (repeat' (first | exact Sz.mono (by assumption) (by decide) | exact Sz.mono (B.n (by assumption)) (by decide) | exact Sz.mono (B.d (by assumption)) (by decide) | exact Sz.of (m := 1000000000000) (by omega) (by decide) | exact Sz.of (m := 1000000) (by omega) (by decide) | exact B.mono (by assumption) (by decide) | exact ⟨Sz.of (m := 1000000000000) (by omega) (by decide), Sz.of (m := 1000000000000) (by omega) (by decide)⟩ | apply Sz.mul2 | (refine Sz.add2 ?_ ?_ (by decide)) | (refine Sz.sub2 ?_ ?_ (by decide)) | apply Sz.neg | apply B.mul2 | (refine B.add2 ?_ ?_ (by decide)) | (refine B.sub2 ?_ ?_ (by decide)) | apply B.neg)); done) | (refine nice_ok ?_; (repeat' (first | exact nice_shr | exact nice_spt | exact nice_mpv | exact nice_int | exact nice_bl | exact nice_non | exact nicel_nil | refine nicel_cons ?_ ?_ | refine nice_tup (by simp) ?_ | refine nice_lst (by simp) ?_)); done) | ((repeat' (first | exact Sz.mono (by assumption) (by decide) | exact Sz.mono (B.n (by assumption)) (by decide) | exact Sz.mono (B.d (by assumption)) (by decide) | exact Sz.of (m := 1000000000000) (by omega) (by decide) | exact Sz.of (m := 1000000) (by omega) (by decide) | exact B.mono (by assumption) (by decide) | exact ⟨Sz.of (m := 1000000000000) (by omega) (by decide), Sz.of (m := 1000000000000) (by omega) (by decide)⟩ | apply Sz.mul2 | (refine Sz.add2 ?_ ?_ (by decide)) | (refine Sz.sub2 ?_ ?_ (by decide)) | apply Sz.neg | apply B.mul2 | (refine B.add2 ?_ ?_ (by decide)) | (refine B.sub2 ?_ ?_ (by decide)) | apply B.neg)); done) | (unfold tB; simp; done) | decide)) only [S_done, S_asg, S_asgT, S_par, S_sub, S_expr, S_if, S_for, S_forB, S_ret, S_retN, E_var, E_cst, E_gl, E_yes, E_tup, E_lst, E_mkl, E_bin, E_mkb, E_neg, E_not, E_cmp, E_chain, E_isN, E_isB, E_and, E_or, E_ite, E_idx, E_rev, E_slc, P_non, P_cst, P_var, P_bin, P_neg, P_call, P_blt, E_call, E_blt, E_mkt, E_isi, E_app, Es_nil, Es_cons, E_T, E_alloc, E_lc, E_mkc, LC_nil, LC_cons, LC_B, lcQ, accO, bls, Option.map_some, List.all_cons, List.all_nil, id_eq, Bool.and_true, OkO_some, OkI_t, OkI_f, Ok_ok, OkS_next, OkS_ret, deref_int, deref_bl, deref_str, deref_non, deref_tup, deref_lst, deref_fn, deref_frz, deref_r0, deref_r1, deref_r2, T_bl, T_int, T_tup, T_lst, T_non, B_addI, B_addL, B_addT, B_subI, C_ltI, C_leI, C_gtI, C_geI, C_eqI, C_eqB, C_neB, C_neI, I_tup, I_lst, L_tup, L_lst, L_abs, L_max, L_min, L_int, L_tupL, L_tupT, L_listT, L_listL, L_listF, L_all, L_any, It_L, It_T, It_r1, It_r2, negO_int, intO_int, isBo, setAll, atI_0, atI_1, atI_2, atI_3, get_0, get_1, get_2, get_3, get_4, get_5, get_6, get_7, get_8, get_9, get_10, get_11, get_12, get_13, get_14, get_15, get_16, set_0, set_1, set_2, set_3, set_4, set_5, set_6, set_7, set_8, set_9, set_10, set_11, set_12, set_13, set_14, set_15, set_16, List.map_cons, List.map_nil, List.cons_append, List.nil_append, List.replicate_succ, List.replicate_zero, List.append_nil, List.length_cons, List.length_nil, if_true, if_false, Bool.not_true, Bool.not_false, Bool.false_eq_true, Nat.sub_self, Nat.reduceSub, Nat.reduceAdd, Nat.zero_add, Nat.reduceLeDiff, lim, and_true, true_and, decide_true, decide_false, PV.isRef, wipeE, B_mulI', B_divI', B_modI', decT, decF, I_shr0, I_shr1, D_shr, OkS_for_nil, C_eqR, C_neR, C_eqNil, C_neNil, C_eqI1, C_eqI2, C_eqB1, Rv_tup, Rv_lst, List.reverse_cons, List.reverse_nil, isTy, isNo_shr, isNo_tup, isNo_non, isNo_int, isNo_bl, isNo_str, isNo_lst, isNo_ref, bne_self_eq_false, Bool.bne_true, Bool.bne_false, Bool.true_bne, Bool.false_bne, bindT_nm, bindT_tp, bindT_shr, bindTs_nil, bindTs_cons, Option.bind_some, Int.toNat_natCast, get_17, set_17, get_18, set_18, get_19, set_19, get_20, set_20, E_sst, E_lrg, Rg_l, Rg_t, L_sum, inl, get_21, set_21, get_22, set_22, get_23, set_23, get_24, set_24, get_25, set_25, get_26, set_26, get_27, set_27, get_28, set_28, get_29, set_29, get_30, set_30, E_ktp, E_cnt, mkI, i1, i2, List.length_map]
    rw [if_pos (by omega)]
    simp -dsimp (disch := first | (refine OM.mk ?_; first | omega | assumption | rfl) | ((fail_if_success refine OM.mk ?_); first | assumption | omega | exact deref_int | exact ty_int | exact deref_tup | exact ty_tup | exact D_shr | exact ty_shr | exact deref_bl | exact ty_bl | exact deref_non | exact ty_non | exact deref_str | exact ty_str | exact deref_lst | exact ty_lst | (refine mulOk_sz ?_ ?_ <;> (repeat' (first | exact Sz.mono (by assumption) (by decide) | exact Sz.mono (B.n (by assumption)) (by decide) | exact Sz.mono (B.d (by assumption)) (by decide) | exact Sz.of (m := 1000000000000) (by omega) (by decide) | exact Sz.of (m := 1000000) (by omega) (by decide) | exact B.mono (by assumption) (by decide) | exact ⟨Sz.of (m := 1000000000000) (by omega) (by decide), Sz.of (m := 1000000000000) (by omega) (by decide)⟩ | apply Sz.mul2 | (refine Sz.add2 ?_ ?_ (by decide)) | (refine Sz.sub2 ?_ ?_ (by decide)) | apply Sz.neg | apply B.mul2 | (refine B.add2 ?_ ?_ (by decide)) | (refine B.sub2 ?_ ?_ (by decide)) | apply B.neg)); done) | (refine nice_ok ?_; (repeat' (first | exact nice_shr | exact nice_spt | exact nice_mpv | exact nice_int | exact nice_bl | exact nice_non | exact nicel_nil | refine nicel_cons ?_ ?_ | refine nice_tup (by simp) ?_ | refine nice_lst (by simp) ?_)); done) | ((repeat' (first | exact Sz.mono (by assumption) (by decide) | exact Sz.mono (B.n (by assumption)) (by decide) | exact Sz.mono (B.d (by assumption)) (by decide) | exact Sz.of (m := 1000000000000) (by omega) (by decide) | exact Sz.of (m := 1000000) (by omega) (by decide) | exact B.mono (by assumption) (by decide) | exact ⟨Sz.of (m := 1000000000000) (by omega) (by decide), Sz.of (m := 1000000000000) (by omega) (by decide)⟩ | apply Sz.mul2 | (refine Sz.add2 ?_ ?_ (by decide)) | (refine Sz.sub2 ?_ ?_ (by decide)) | apply Sz.neg | apply B.mul2 | (refine B.add2 ?_ ?_ (by decide)) | (refine B.sub2 ?_ ?_ (by decide)) | apply B.neg)); done) | (unfold tB; simp; done) | decide)) only [S_done, S_asg, S_asgT, S_par, S_sub, S_expr, S_if, S_for, S_forB, S_ret, S_retN, E_var, E_cst, E_gl, E_yes, E_tup, E_lst, E_mkl, E_bin, E_mkb, E_neg, E_not, E_cmp, E_chain, E_isN, E_isB, E_and, E_or, E_ite, E_idx, E_rev, E_slc, P_non, P_cst, P_var, P_bin, P_neg, P_call, P_blt, E_call, E_blt, E_mkt, E_isi, E_app, Es_nil, Es_cons, E_T, E_alloc, E_lc, E_mkc, LC_nil, LC_cons, LC_B, lcQ, accO, bls, Option.map_some, List.all_cons, List.all_nil, id_eq, Bool.and_true, OkO_some, OkI_t, OkI_f, Ok_ok, OkS_next, OkS_ret, deref_int, deref_bl, deref_str, deref_non, deref_tup, deref_lst, deref_fn, deref_frz, deref_r0, deref_r1, deref_r2, T_bl, T_int, T_tup, T_lst, T_non, B_addI, B_addL, B_addT, B_subI, C_ltI, C_leI, C_gtI, C_geI, C_eqI, C_eqB, C_neB, C_neI, I_tup, I_lst, L_tup, L_lst, L_abs, L_max, L_min, L_int, L_tupL, L_tupT, L_listT, L_listL, L_listF, L_all, L_any, It_L, It_T, It_r1, It_r2, negO_int, intO_int, isBo, setAll, atI_0, atI_1, atI_2, atI_3, get_0, get_1, get_2, get_3, get_4, get_5, get_6, get_7, get_8, get_9, get_10, get_11, get_12, get_13, get_14, get_15, get_16, set_0, set_1, set_2, set_3, set_4, set_5, set_6, set_7, set_8, set_9, set_10, set_11, set_12, set_13, set_14, set_15, set_16, List.map_cons, List.map_nil, List.cons_append, List.nil_append, List.replicate_succ, List.replicate_zero, List.append_nil, List.length_cons, List.length_nil, if_true, if_false, Bool.not_true, Bool.not_false, Bool.false_eq_true, Nat.sub_self, Nat.reduceSub, Nat.reduceAdd, Nat.zero_add, Nat.reduceLeDiff, lim, and_true, true_and, decide_true, decide_false, PV.isRef, wipeE, B_mulI', B_divI', B_modI', decT, decF, I_shr0, I_shr1, D_shr, OkS_for_nil, C_eqR, C_neR, C_eqNil, C_neNil, C_eqI1, C_eqI2, C_eqB1, Rv_tup, Rv_lst, List.reverse_cons, List.reverse_nil, isTy, isNo_shr, isNo_tup, isNo_non, isNo_int, isNo_bl, isNo_str, isNo_lst, isNo_ref, bne_self_eq_false, Bool.bne_true, Bool.bne_false, Bool.true_bne, Bool.false_bne, bindT_nm, bindT_tp, bindT_shr, bindTs_nil, bindTs_cons, Option.bind_some, Int.toNat_natCast, get_17, set_17, get_18, set_18, get_19, set_19, get_20, set_20, E_sst, E_lrg, Rg_l, Rg_t, L_sum, inl, get_21, set_21, get_22, set_22, get_23, set_23, get_24, set_24, get_25, set_25, get_26, set_26, get_27, set_27, get_28, set_28, get_29, set_29, get_30, set_30, E_ktp, E_cnt, mkI, List.length_map]
    rw [if_pos (by omega)]
    simp -dsimp (disch := first | (refine OM.mk ?_; first | omega | assumption | rfl) | ((fail_if_success refine OM.mk ?_); first | assumption | omega | exact deref_int | exact ty_int | exact deref_tup | exact ty_tup | exact D_shr | exact ty_shr | exact deref_bl | exact ty_bl | exact deref_non | exact ty_non | exact deref_str | exact ty_str | exact deref_lst | exact ty_lst | (refine mulOk_sz ?_ ?_ <;> (repeat' (first | exact Sz.mono (by assumption) (by decide) | exact Sz.mono (B.n (by assumption)) (by decide) | exact Sz.mono (B.d (by assumption)) (by decide) | exact Sz.of (m := 1000000000000) (by omega) (by decide) | exact Sz.of (m := 1000000) (by omega) (by decide) | exact B.mono (by assumption) (by decide) | exact ⟨Sz.of (m := 1000000000000) (by omega) (by decide), Sz.of (m := 1000000000000) (by omega) (by decide)⟩ | apply Sz.mul2 | (refine Sz.add2 ?_ ?_ (by decide)) | (refine Sz.sub2 ?_ ?_ (by decide)) | apply Sz.neg | apply B.mul2 | (refine B.add2 ?_ ?_ (by decide)) | (refine B.sub2 ?_ ?_ (by decide)) | apply B.neg)); done) | (refine nice_ok ?_; (repeat' (first | exact nice_shr | exact nice_spt | exact nice_mpv | exact nice_int | exact nice_bl | exact nice_non | exact nicel_nil | refine nicel_cons ?_ ?_ | refine nice_tup (by simp) ?_ | refine nice_lst (by simp) ?_)); done) | ((repeat' (first | exact Sz.mono (by assumption) (by decide) | exact Sz.mono (B.n (by assumption)) (by decide) | exact Sz.mono (B.d (by assumption)) (by decide) | exact Sz.of (m := 1000000000000) (by omega) (by decide) | exact Sz.of (m := 1000000) (by omega) (by decide) | exact B.mono (by assumption) (by decide) | exact ⟨Sz.of (m := 1000000000000) (by omega) (by decide), Sz.of (m := 1000000000000) (by omega) (by decide)⟩ | apply Sz.mul2 | (refine Sz.add2 ?_ ?_ (by decide)) | (refine Sz.sub2 ?_ ?_ (by decide)) | apply Sz.neg | apply B.mul2 | (refine B.add2 ?_ ?_ (by decide)) | (refine B.sub2 ?_ ?_ (by decide)) | apply B.neg)); done) | (unfold tB; simp; done) | decide)) only [S_done, S_asg, S_asgT, S_par, S_sub, S_expr, S_if, S_for, S_forB, S_ret, S_retN, E_var, E_cst, E_gl, E_yes, E_tup, E_lst, E_mkl, E_bin, E_mkb, E_neg, E_not, E_cmp, E_chain, E_isN, E_isB, E_and, E_or, E_ite, E_idx, E_rev, E_slc, P_non, P_cst, P_var, P_bin, P_neg, P_call, P_blt, E_call, E_blt, E_mkt, E_isi, E_app, Es_nil, Es_cons, E_T, E_alloc, E_lc, E_mkc, LC_nil, LC_cons, LC_B, lcQ, accO, bls, Option.map_some, List.all_cons, List.all_nil, id_eq, Bool.and_true, OkO_some, OkI_t, OkI_f, Ok_ok, OkS_next, OkS_ret, deref_int, deref_bl, deref_str, deref_non, deref_tup, deref_lst, deref_fn, deref_frz, deref_r0, deref_r1, deref_r2, T_bl, T_int, T_tup, T_lst, T_non, B_addI, B_addL, B_addT, B_subI, C_ltI, C_leI, C_gtI, C_geI, C_eqI, C_eqB, C_neB, C_neI, I_tup, I_lst, L_tup, L_lst, L_abs, L_max, L_min, L_int, L_tupL, L_tupT, L_listT, L_listL, L_listF, L_all, L_any, It_L, It_T, It_r1, It_r2, negO_int, intO_int, isBo, setAll, atI_0, atI_1, atI_2, atI_3, get_0, get_1, get_2, get_3, get_4, get_5, get_6, get_7, get_8, get_9, get_10, get_11, get_12, get_13, get_14, get_15, get_16, set_0, set_1, set_2, set_3, set_4, set_5, set_6, set_7, set_8, set_9, set_10, set_11, set_12, set_13, set_14, set_15, set_16, List.map_cons, List.map_nil, List.cons_append, List.nil_append, List.replicate_succ, List.replicate_zero, List.append_nil, List.length_cons, List.length_nil, if_true, if_false, Bool.not_true, Bool.not_false, Bool.false_eq_true, Nat.sub_self, Nat.reduceSub, Nat.reduceAdd, Nat.zero_add, Nat.reduceLeDiff, lim, and_true, true_and, decide_true, decide_false, PV.isRef, wipeE, B_mulI', B_divI', B_modI', decT, decF, I_shr0, I_shr1, D_shr, OkS_for_nil, C_eqR, C_neR, C_eqNil, C_neNil, C_eqI1, C_eqI2, C_eqB1, Rv_tup, Rv_lst, List.reverse_cons, List.reverse_nil, isTy, isNo_shr, isNo_tup, isNo_non, isNo_int, isNo_bl, isNo_str, isNo_lst, isNo_ref, bne_self_eq_false, Bool.bne_true, Bool.bne_false, Bool.true_bne, Bool.false_bne, bindT_nm, bindT_tp, bindT_shr, bindTs_nil, bindTs_cons, Option.bind_some, Int.toNat_natCast, get_17, set_17, get_18, set_18, get_19, set_19, get_20, set_20, E_sst, E_lrg, Rg_l, Rg_t, L_sum, inl, get_21, set_21, get_22, set_22, get_23, set_23, get_24, set_24, get_25, set_25, get_26, set_26, get_27, set_27, get_28, set_28, get_29, set_29, get_30, set_30, E_ktp, E_cnt]
    exact ⟨hc, by rw [mkI_a]; exact ⟨_, _, rfl, _, rfl, _, _, rfl, _, _, rfl, _, rfl, _, rfl, _, rfl, _, rfl, _, _, rfl, _, rfl, _, _, rfl, _, rfl, _, rfl, _, _, rfl, _, _, rfl, _, _, rfl, _, _, rfl, _, _, rfl, _, _, rfl, _, _, rfl, _, _, rfl, rfl⟩⟩
  · have i1 : ¬ (1 : Int) < ((T.count (t0 + (k : Nat)) : Nat) : Int) := by omega
    have e1 : twK T t0 (k + 1) = twK T t0 k := by rw [twK_s, if_neg z1, List.append_nil]
    by_cases n2 : T.count (t0 + (k : Nat)) = 0
    · have i2 : ((T.count (t0 + (k : Nat)) : Nat) : Int) = 0 := by omega
      have e2 : msK T t0 (k + 1) = msK T t0 k ++ [t0 + (k : Nat)] := by rw [msK_s, if_pos n2]
      rw [e1, e2]
      simp -dsimp (disch := first | (refine OM.mk ?_; first | omega | assumption | rfl) | ((fail_if_success refine OM.mk ?_); first | assumption | omega | exact deref_int | exact ty_int | exact deref_tup | exact ty_tup | exact D_shr | exact ty_shr | exact deref_bl | exact ty_bl | exact deref_non | exact ty_non | exact deref_str | exact ty_str | exact deref_lst | exact ty_lst | (refine mulOk_sz ?_ ?_ <;> (repeat' (first | exact Sz.mono (by assumption) (by decide) | exact Sz.mono (B.n (by assumption)) (by decide) | exact Sz.mono (B.d (by assumption)) (by decide) | exact Sz.of (m := 1000000000000) (by omega) (by decide) | exact Sz.of (m := 1000000) (by omega) (by decide) | exact B.mono (by assumption) (by decide) | exact ⟨Sz.of (m := 1000000000000) (by omega) (by decide), Sz.of (m := 1000000000000) (by omega) (by decide)⟩ | apply Sz.mul2 | (refine Sz.add2 ?_ ?_ (by decide)) | (refine Sz.sub2 ?_ ?_ (by decide)) | apply Sz.neg | apply B.mul2 | (refine B.add2 ?_ ?_ (by decide)) | (refine B.sub2 ?_ ?_ (by decide)) | apply B.neg)); done) | (refine nice_ok ?_; (repeat' (first | exact nice_shr | exact nice_spt | exact nice_mpv | exact nice_int | exact nice_bl | exact nice_non | exact nicel_nil | refine nicel_cons ?_ ?_ | refine nice_tup (by simp) ?_ | refine nice_lst (by simp) ?_)); done) | ((repeat' (first | exact Sz.mono (by assumption) (by decide) | exact Sz.mono (B.n (by assumption)) (by decide) | exact Sz.mono (B.d (by assumption)) (by decide) | exact Sz.of (m := 1000000000000) (by omega) (by decide) | exact Sz.of (m := 1000000) (by omega) (by decide) | exact B.mono (by assumption) (by decide) | exact ⟨Sz.of (m := 1000000000000) (by omega) (by decide), Sz.of (m := 1000000000000) (by omega) (by decide)⟩ | apply Sz.mul2 | (refine Sz.add2 ?_ ?_ (by decide)) | (refine Sz.sub2 ?_ ?_ (by decide)) | apply Sz.neg | apply B.mul2 | (refine B.add2 ?_ ?_ (by decide)) | (refine B.sub2 ?_ ?_ (by decide)) | apply B.neg)); done) | (unfold tB; simp; done) | decide)) only [S_done, S_asg, S_asgT, S_par, S_sub, S_expr, S_if, S_for, S_forB, S_ret, S_retN, E_var, E_cst, E_gl, E_yes, E_tup, E_lst, E_mkl, E_bin, E_mkb, E_neg, E_not, E_cmp, E_chain, E_isN, E_isB, E_and, E_or, E_ite, E_idx, E_rev, E_slc, P_non, P_cst, P_var, P_bin, P_neg, P_call, P_blt, E_call, E_blt, E_mkt, E_isi, E_app, Es_nil, Es_cons, E_T, E_alloc, E_lc, E_mkc, LC_nil, LC_cons, LC_B, lcQ, accO, bls, Option.map_some, List.all_cons, List.all_nil, id_eq, Bool.and_true, OkO_some, OkI_t, OkI_f, Ok_ok, OkS_next, OkS_ret, deref_int, deref_bl, deref_str, deref_non, deref_tup, deref_lst, deref_fn, deref_frz, deref_r0, deref_r1, deref_r2, T_bl, T_int, T_tup, T_lst, T_non, B_addI, B_addL, B_addT, B_subI, C_ltI, C_leI, C_gtI, C_geI, C_eqI, C_eqB, C_neB, C_neI, I_tup, I_lst, L_tup, L_lst, L_abs, L_max, L_min, L_int, L_tupL, L_tupT, L_listT, L_listL, L_listF, L_all, L_any, It_L, It_T, It_r1, It_r2, negO_int, intO_int, isBo, setAll, atI_0, atI_1, atI_2, atI_3, get_0, get_1, get_2, get_3, get_4, get_5, get_6, get_7, get_8, get_9, get_10, get_11, get_12, get_13, get_14, get_15, get_16, set_0, set_1, set_2, set_3, set_4, set_5, set_6, set_7, set_8, set_9, set_10, set_11, set_12, set_13, set_14, set_15, set_16, List.map_cons, List.map_nil, List.cons_append, List.nil_append, List.replicate_succ, List.replicate_zero, List.append_nil, List.length_cons, List.length_nil, if_true, if_false, Bool.not_true, Bool.not_false, Bool.false_eq_true, Nat.sub_self, Nat.reduceSub, Nat.reduceAdd, Nat.zero_add, Nat.reduceLeDiff, lim, and_true, true_and, decide_true, decide_false, PV.isRef, wipeE, B_mulI', B_divI', B_modI', decT, decF, I_shr0, I_shr1, D_shr, OkS_for_nil, C_eqR, C_neR, C_eqNil, C_neNil, C_eqI1, C_eqI2, C_eqB1, Rv_tup, Rv_lst, List.reverse_cons, List.reverse_nil, isTy, isNo_shr, isNo_tup, isNo_non, isNo_int, isNo_bl, isNo_str, isNo_lst, isNo_ref, bne_self_eq_false, Bool.bne_true, Bool.bne_false, Bool.true_bne, Bool.false_bne, bindT_nm, bindT_tp, bindT_shr, bindTs_nil, bindTs_cons, Option.bind_some, Int.toNat_natCast, get_17, set_17, get_18, set_18, get_19, set_19, get_20, set_20, E_sst, E_lrg, Rg_l, Rg_t, L_sum, inl, get_21, set_21, get_22, set_22, get_23, set_23, get_24, set_24, get_25, set_25, get_26, set_26, get_27, set_27, get_28, set_28, get_29, set_29, get_30, set_30, E_ktp, E_cnt, mkI, i1, i2, List.length_map]
      rw [if_pos (by omega)]
      simp -dsimp (disch := first | (refine OM.mk ?_; first | omega | assumption | rfl) | ((fail_if_success refine OM.mk ?_); first | assumption | omega | exact deref_int | exact ty_int | exact deref_tup | exact ty_tup | exact D_shr | exact ty_shr | exact deref_bl | exact ty_bl | exact deref_non | exact ty_non | exact deref_str | exact ty_str | exact deref_lst | exact ty_lst | (refine mulOk_sz ?_ ?_ <;> (repeat' (first | exact Sz.mono (by assumption) (by decide) | exact Sz.mono (B.n (by assumption)) (by decide) | exact Sz.mono (B.d (by assumption)) (by decide) | exact Sz.of (m := 1000000000000) (by omega) (by decide) | exact Sz.of (m := 1000000) (by omega) (by decide) | exact B.mono (by assumption) (by decide) | exact ⟨Sz.of (m := 1000000000000) (by omega) (by decide), Sz.of (m := 1000000000000) (by omega) (by decide)⟩ | apply Sz.mul2 | (refine Sz.add2 ?_ ?_ (by decide)) | (refine Sz.sub2 ?_ ?_ (by decide)) | apply Sz.neg | apply B.mul2 | (refine B.add2 ?_ ?_ (by decide)) | (refine B.sub2 ?_ ?_ (by decide)) | apply B.neg)); done) | (refine nice_ok ?_; (repeat' (first | exact nice_shr | exact nice_spt | exact nice_mpv | exact nice_int | exact nice_bl | exact nice_non | exact nicel_nil | refine nicel_cons ?_ ?_ | refine nice_tup (by simp) ?_ | refine nice_lst (by simp) ?_)); done) | ((repeat' (first | exact Sz.mono (by assumption) (by decide) | exact Sz.mono (B.n (by assumption)) (by decide) | exact Sz.mono (B.d (by assumption)) (by decide) | exact Sz.of (m := 1000000000000) (by omega) (by decide) | exact Sz.of (m := 1000000) (by omega) (by decide) | exact B.mono (by assumption) (by decide) | exact ⟨Sz.of (m := 1000000000000) (by omega) (by decide), Sz.of (m := 1000000000000) (by omega) (by decide)⟩ | apply Sz.mul2 | (refine Sz.add2 ?_ ?_ (by decide)) | (refine Sz.sub2 ?_ ?_ (by decide)) | apply Sz.neg | apply B.mul2 | (refine B.add2 ?_ ?_ (by decide)) | (refine B.sub2 ?_ ?_ (by decide)) | apply B.neg)); done) | (unfold tB; simp; done) | decide)) only [S_done, S_asg, S_asgT, S_par, S_sub, S_expr, S_if, S_for, S_forB, S_ret, S_retN, E_var, E_cst, E_gl, E_yes, E_tup, E_lst, E_mkl, E_bin, E_mkb, E_neg, E_not, E_cmp, E_chain, E_isN, E_isB, E_and, E_or, E_ite, E_idx, E_rev, E_slc, P_non, P_cst, P_var, P_bin, P_neg, P_call, P_blt, E_call, E_blt, E_mkt, E_isi, E_app, Es_nil, Es_cons, E_T, E_alloc, E_lc, E_mkc, LC_nil, LC_cons, LC_B, lcQ, accO, bls, Option.map_some, List.all_cons, List.all_nil, id_eq, Bool.and_true, OkO_some, OkI_t, OkI_f, Ok_ok, OkS_next, OkS_ret, deref_int, deref_bl, deref_str, deref_non, deref_tup, deref_lst, deref_fn, deref_frz, deref_r0, deref_r1, deref_r2, T_bl, T_int, T_tup, T_lst, T_non, B_addI, B_addL, B_addT, B_subI, C_ltI, C_leI, C_gtI, C_geI, C_eqI, C_eqB, C_neB, C_neI, I_tup, I_lst, L_tup, L_lst, L_abs, L_max, L_min, L_int, L_tupL, L_tupT, L_listT, L_listL, L_listF, L_all, L_any, It_L, It_T, It_r1, It_r2, negO_int, intO_int, isBo, setAll, atI_0, atI_1, atI_2, atI_3, get_0, get_1, get_2, get_3, get_4, get_5, get_6, get_7, get_8, get_9, get_10, get_11, get_12, get_13, get_14, get_15, get_16, set_0, set_1, set_2, set_3, set_4, set_5, set_6, set_7, set_8, set_9, set_10, set_11, set_12, set_13, set_14, set_15, set_16, List.map_cons, List.map_nil, List.cons_append, List.nil_append, List.replicate_succ, List.replicate_zero, List.append_nil, List.length_cons, List.length_nil, if_true, if_false, Bool.not_true, Bool.not_false, Bool.false_eq_true, Nat.sub_self, Nat.reduceSub, Nat.reduceAdd, Nat.zero_add, Nat.reduceLeDiff, lim, and_true, true_and, decide_true, decide_false, PV.isRef, wipeE, B_mulI', B_divI', B_modI', decT, decF, I_shr0, I_shr1, D_shr, OkS_for_nil, C_eqR, C_neR, C_eqNil, C_neNil, C_eqI1, C_eqI2, C_eqB1, Rv_tup, Rv_lst, List.reverse_cons, List.reverse_nil, isTy, isNo_shr, isNo_tup, isNo_non, isNo_int, isNo_bl, isNo_str, isNo_lst, isNo_ref, bne_self_eq_false, Bool.bne_true, Bool.bne_false, Bool.true_bne, Bool.false_bne, bindT_nm, bindT_tp, bindT_shr, bindTs_nil, bindTs_cons, Option.bind_some, Int.toNat_natCast, get_17, set_17, get_18, set_18, get_19, set_19, get_20, set_20, E_sst, E_lrg, Rg_l, Rg_t, L_sum, inl, get_21, set_21, get_22, set_22, get_23, set_23, get_24, set_24, get_25, set_25, get_26, set_26, get_27, set_27, get_28, set_28, get_29, set_29, get_30, set_30, E_ktp, E_cnt, mkI, List.length_map]
      rw [if_pos (by omega)]
      simp -dsimp (disch := first | (refine OM.mk ?_; first | omega | assumption | rfl) | ((fail_if_success refine OM.mk ?_); first | assumption | omega | exact deref_int | exact ty_int | exact deref_tup | exact ty_tup | exact D_shr | exact ty_shr | exact deref_bl | exact ty_bl | exact deref_non | exact ty_non | exact deref_str | exact ty_str | exact deref_lst | exact ty_lst | (refine mulOk_sz ?_ ?_ <;> (repeat' (first | exact Sz.mono (by assumption) (by decide) | exact Sz.mono (B.n (by assumption)) (by decide) | exact Sz.mono (B.d (by assumption)) (by decide) | exact Sz.of (m := 1000000000000) (by omega) (by decide) | exact Sz.of (m := 1000000) (by omega) (by decide) | exact B.mono (by assumption) (by decide) | exact ⟨Sz.of (m := 1000000000000) (by omega) (by decide), Sz.of (m := 1000000000000) (by omega) (by decide)⟩ | apply Sz.mul2 | (refine Sz.add2 ?_ ?_ (by decide)) | (refine Sz.sub2 ?_ ?_ (by decide)) | apply Sz.neg | apply B.mul2 | (refine B.add2 ?_ ?_ (by decide)) | (refine B.sub2 ?_ ?_ (by decide)) | apply B.neg)); done) | (refine nice_ok ?_; (repeat' (first | exact nice_shr | exact nice_spt | exact nice_mpv | exact nice_int | exact nice_bl | exact nice_non | exact nicel_nil | refine nicel_cons ?_ ?_ | refine nice_tup (by simp) ?_ | refine nice_lst (by simp) ?_)); done) | ((repeat' (first | exact Sz.mono (by assumption) (by decide) | exact Sz.mono (B.n (by assumption)) (by decide) | exact Sz.mono (B.d (by assumption)) (by decide) | exact Sz.of (m := 1000000000000) (by omega) (by decide) | exact Sz.of (m := 1000000) (by omega) (by decide) | exact B.mono (by assumption) (by decide) | exact ⟨Sz.of (m := 1000000000000) (by omega) (by decide), Sz.of (m := 1000000000000) (by omega) (by decide)⟩ | apply Sz.mul2 | (refine Sz.add2 ?_ ?_ (by decide)) | (refine Sz.sub2 ?_ ?_ (by decide)) | apply Sz.neg | apply B.mul2 | (refine B.add2 ?_ ?_ (by decide)) | (refine B.sub2 ?_ ?_ (by decide)) | apply B.neg)); done) | (unfold tB; simp; done) | decide)) only [S_done, S_asg, S_asgT, S_par, S_sub, S_expr, S_if, S_for, S_forB, S_ret, S_retN, E_var, E_cst, E_gl, E_yes, E_tup, E_lst, E_mkl, E_bin, E_mkb, E_neg, E_not, E_cmp, E_chain, E_isN, E_isB, E_and, E_or, E_ite, E_idx, E_rev, E_slc, P_non, P_cst, P_var, P_bin, P_neg, P_call, P_blt, E_call, E_blt, E_mkt, E_isi, E_app, Es_nil, Es_cons, E_T, E_alloc, E_lc, E_mkc, LC_nil, LC_cons, LC_B, lcQ, accO, bls, Option.map_some, List.all_cons, List.all_nil, id_eq, Bool.and_true, OkO_some, OkI_t, OkI_f, Ok_ok, OkS_next, OkS_ret, deref_int, deref_bl, deref_str, deref_non, deref_tup, deref_lst, deref_fn, deref_frz, deref_r0, deref_r1, deref_r2, T_bl, T_int, T_tup, T_lst, T_non, B_addI, B_addL, B_addT, B_subI, C_ltI, C_leI, C_gtI, C_geI, C_eqI, C_eqB, C_neB, C_neI, I_tup, I_lst, L_tup, L_lst, L_abs, L_max, L_min, L_int, L_tupL, L_tupT, L_listT, L_listL, L_listF, L_all, L_any, It_L, It_T, It_r1, It_r2, negO_int, intO_int, isBo, setAll, atI_0, atI_1, atI_2, atI_3, get_0, get_1, get_2, get_3, get_4, get_5, get_6, get_7, get_8, get_9, get_10, get_11, get_12, get_13, get_14, get_15, get_16, set_0, set_1, set_2, set_3, set_4, set_5, set_6, set_7, set_8, set_9, set_10, set_11, set_12, set_13, set_14, set_15, set_16, List.map_cons, List.map_nil, List.cons_append, List.nil_append, List.replicate_succ, List.replicate_zero, List.append_nil, List.length_cons, List.length_nil, if_true, if_false, Bool.not_true, Bool.not_false, Bool.false_eq_true, Nat.sub_self, Nat.reduceSub, Nat.reduceAdd, Nat.zero_add, Nat.reduceLeDiff, lim, and_true, true_and, decide_true, decide_false, PV.isRef, wipeE, B_mulI', B_divI', B_modI', decT, decF, I_shr0, I_shr1, D_shr, OkS_for_nil, C_eqR, C_neR, C_eqNil, C_neNil, C_eqI1, C_eqI2, C_eqB1, Rv_tup, Rv_lst, List.reverse_cons, List.reverse_nil, isTy, isNo_shr, isNo_tup, isNo_non, isNo_int, isNo_bl, isNo_str, isNo_lst, isNo_ref, bne_self_eq_false, Bool.bne_true, Bool.bne_false, Bool.true_bne, Bool.false_bne, bindT_nm, bindT_tp, bindT_shr, bindTs_nil, bindTs_cons, Option.bind_some, Int.toNat_natCast, get_17, set_17, get_18, set_18, get_19, set_19, get_20, set_20, E_sst, E_lrg, Rg_l, Rg_t, L_sum, inl, get_21, set_21, get_22, set_22, get_23, set_23, get_24, set_24, get_25, set_25, get_26, set_26, get_27, set_27, get_28, set_28, get_29, set_29, get_30, set_30, E_ktp, E_cnt]
      exact ⟨hc, by rw [mkI_a]; exact ⟨_, _, rfl, _, rfl, _, _, rfl, _, _, rfl, _, rfl, _, rfl, _, rfl, _, rfl, _, _, rfl, _, rfl, _, _, rfl, _, rfl, _, rfl, _, _, rfl, _, _, rfl, _, _, rfl, _, _, rfl, _, _, rfl, _, _, rfl, _, _, rfl, _, _, rfl, rfl⟩⟩
    · have i2 : ¬ ((T.count (t0 + (k : Nat)) : Nat) : Int) = 0 := by omega
      have e2 : msK T t0 (k + 1) = msK T t0 k := by rw [msK_s, if_neg n2, List.append_nil]
      rw [e1, e2]
      simp -dsimp (disch := first | (refine OM.mk ?_; first | omega | assumption | rfl) | ((fail_if_success refine OM.mk ?_); first | assumption | omega | exact deref_int | exact ty_int | exact deref_tup | exact ty_tup | exact D_shr | exact ty_shr | exact deref_bl | exact ty_bl | exact deref_non | exact ty_non | exact deref_str | exact ty_str | exact deref_lst | exact ty_lst | (refine mulOk_sz ?_ ?_ <;> (repeat' (first | exact Sz.mono (by assumption) (by decide) | exact Sz.mono (B.n (by assumption)) (by decide) | exact Sz.mono (B.d (by assumption)) (by decide) | exact Sz.of (m := 1000000000000) (by omega) (by decide) | exact Sz.of (m := 1000000) (by omega) (by decide) | exact B.mono (by assumption) (by decide) | exact ⟨Sz.of (m := 1000000000000) (by omega) (by decide), Sz.of (m := 1000000000000) (by omega) (by decide)⟩ | apply Sz.mul2 | (refine Sz.add2 ?_ ?_ (by decide)) | (refine Sz.sub2 ?_ ?_ (by decide)) | apply Sz.neg | apply B.mul2 | (refine B.add2 ?_ ?_ (by decide)) | (refine B.sub2 ?_ ?_ (by decide)) | apply B.neg)); done) | (refine nice_ok ?_; (repeat' (first | exact nice_shr | exact nice_spt | exact nice_mpv | exact nice_int | exact nice_bl | exact nice_non | exact nicel_nil | refine nicel_cons ?_ ?_ | refine nice_tup (by simp) ?_ | refine nice_lst (by simp) ?_)); done) | ((repeat' (first | exact Sz.mono (by assumption) (by decide) | exact Sz.mono (B.n (by assumption)) (by decide) | exact Sz.mono (B.d (by assumption)) (by decide) | exact Sz.of (m := 1000000000000) (by omega) (by decide) | exact Sz.of (m := 1000000) (by omega) (by decide) | exact B.mono (by assumption) (by decide) | exact ⟨Sz.of (m := 1000000000000) (by omega) (by decide), Sz.of (m := 1000000000000) (by omega) (by decide)⟩ | apply Sz.mul2 | (refine Sz.add2 ?_ ?_ (by decide)) | (refine Sz.sub2 ?_ ?_ (by decide)) | apply Sz.neg | apply B.mul2 | (refine B.add2 ?_ ?_ (by decide)) | (refine B.sub2 ?_ ?_ (by decide)) | apply B.neg)); done) | (unfold tB; simp; done) | decide)) only [S_done, S_asg, S_asgT, S_par, S_sub, S_expr, S_if, S_for, S_forB, S_ret, S_retN, E_var, E_cst, E_gl, E_yes, E_tup, E_lst, E_mkl, E_bin, E_mkb, E_neg, E_not, E_cmp, E_chain, E_isN, E_isB, E_and, E_or, E_ite, E_idx, E_rev, E_slc, P_non, P_cst, P_var, P_bin, P_neg, P_call, P_blt, E_call, E_blt, E_mkt, E_isi, E_app, Es_nil, Es_cons, E_T, E_alloc, E_lc, E_mkc, LC_nil, LC_cons, LC_B, lcQ, accO, bls, Option.map_some, List.all_cons, List.all_nil, id_eq, Bool.and_true, OkO_some, OkI_t, OkI_f, Ok_ok, OkS_next, OkS_ret, deref_int, deref_bl, deref_str, deref_non, deref_tup, deref_lst, deref_fn, deref_frz, deref_r0, deref_r1, deref_r2, T_bl, T_int, T_tup, T_lst, T_non, B_addI, B_addL, B_addT, B_subI, C_ltI, C_leI, C_gtI, C_geI, C_eqI, C_eqB, C_neB, C_neI, I_tup, I_lst, L_tup, L_lst, L_abs, L_max, L_min, L_int, L_tupL, L_tupT, L_listT, L_listL, L_listF, L_all, L_any, It_L, It_T, It_r1, It_r2, negO_int, intO_int, isBo, setAll, atI_0, atI_1, atI_2, atI_3, get_0, get_1, get_2, get_3, get_4, get_5, get_6, get_7, get_8, get_9, get_10, get_11, get_12, get_13, get_14, get_15, get_16, set_0, set_1, set_2, set_3, set_4, set_5, set_6, set_7, set_8, set_9, set_10, set_11, set_12, set_13, set_14, set_15, set_16, List.map_cons, List.map_nil, List.cons_append, List.nil_append, List.replicate_succ, List.replicate_zero, List.append_nil, List.length_cons, List.length_nil, if_true, if_false, Bool.not_true, Bool.not_false, Bool.false_eq_true, Nat.sub_self, Nat.reduceSub, Nat.reduceAdd, Nat.zero_add, Nat.reduceLeDiff, lim, and_true, true_and, decide_true, decide_false, PV.isRef, wipeE, B_mulI', B_divI', B_modI', decT, decF, I_shr0, I_shr1, D_shr, OkS_for_nil, C_eqR, C_neR, C_eqNil, C_neNil, C_eqI1, C_eqI2, C_eqB1, Rv_tup, Rv_lst, List.reverse_cons, List.reverse_nil, isTy, isNo_shr, isNo_tup, isNo_non, isNo_int, isNo_bl, isNo_str, isNo_lst, isNo_ref, bne_self_eq_false, Bool.bne_true, Bool.bne_false, Bool.true_bne, Bool.false_bne, bindT_nm, bindT_tp, bindT_shr, bindTs_nil, bindTs_cons, Option.bind_some, Int.toNat_natCast, get_17, set_17, get_18, set_18, get_19, set_19, get_20, set_20, E_sst, E_lrg, Rg_l, Rg_t, L_sum, inl, get_21, set_21, get_22, set_22, get_23, set_23, get_24, set_24, get_25, set_25, get_26, set_26, get_27, set_27, get_28, set_28, get_29, set_29, get_30, set_30, E_ktp, E_cnt, mkI, i1, i2, List.length_map]
      rw [if_pos (by omega)]
      simp -dsimp (disch := first | (refine OM.mk ?_; first | omega | assumption | rfl) | ((fail_if_success refine OM.mk ?_); first | assumption | omega | exact deref_int | exact ty_int | exact deref_tup | exact ty_tup | exact D_shr | exact ty_shr | exact deref_bl | exact ty_bl | exact deref_non | exact ty_non | exact deref_str | exact ty_str | exact deref_lst | exact ty_lst | (refine mulOk_sz ?_ ?_ <;> (repeat' (first | exact Sz.mono (by assumption) (by decide) | exact Sz.mono (B.n (by assumption)) (by decide) | exact Sz.mono (B.d (by assumption)) (by decide) | exact Sz.of (m := 1000000000000) (by omega) (by decide) | exact Sz.of (m := 1000000) (by omega) (by decide) | exact B.mono (by assumption) (by decide) | exact ⟨Sz.of (m := 1000000000000) (by omega) (by decide), Sz.of (m := 1000000000000) (by omega) (by decide)⟩ | apply Sz.mul2 | (refine Sz.add2 ?_ ?_ (by decide)) | (refine Sz.sub2 ?_ ?_ (by decide)) | apply Sz.neg | apply B.mul2 | (refine B.add2 ?_ ?_ (by decide)) | (refine B.sub2 ?_ ?_ (by decide)) | apply B.neg)); done) | (refine nice_ok ?_; (repeat' (first | exact nice_shr | exact nice_spt | exact nice_mpv | exact nice_int | exact nice_bl | exact nice_non | exact nicel_nil | refine nicel_cons ?_ ?_ | refine nice_tup (by simp) ?_ | refine nice_lst (by simp) ?_)); done) | ((repeat' (first | exact Sz.mono (by assumption) (by decide) | exact Sz.mono (B.n (by assumption)) (by decide) | exact Sz.mono (B.d (by assumption)) (by decide) | exact Sz.of (m := 1000000000000) (by omega) (by decide) | exact Sz.of (m := 1000000) (by omega) (by decide) | exact B.mono (by assumption) (by decide) | exact ⟨Sz.of (m := 1000000000000) (by omega) (by decide), Sz.of (m := 1000000000000) (by omega) (by decide)⟩ | apply Sz.mul2 | (refine Sz.add2 ?_ ?_ (by decide)) | (refine Sz.sub2 ?_ ?_ (by decide)) | apply Sz.neg | apply B.mul2 | (refine B.add2 ?_ ?_ (by decide)) | (refine B.sub2 ?_ ?_ (by decide)) | apply B.neg)); done) | (unfold tB; simp; done) | decide)) only [S_done, S_asg, S_asgT, S_par, S_sub, S_expr, S_if, S_for, S_forB, S_ret, S_retN, E_var, E_cst, E_gl, E_yes, E_tup, E_lst, E_mkl, E_bin, E_mkb, E_neg, E_not, E_cmp, E_chain, E_isN, E_isB, E_and, E_or, E_ite, E_idx, E_rev, E_slc, P_non, P_cst, P_var, P_bin, P_neg, P_call, P_blt, E_call, E_blt, E_mkt, E_isi, E_app, Es_nil, Es_cons, E_T, E_alloc, E_lc, E_mkc, LC_nil, LC_cons, LC_B, lcQ, accO, bls, Option.map_some, List.all_cons, List.all_nil, id_eq, Bool.and_true, OkO_some, OkI_t, OkI_f, Ok_ok, OkS_next, OkS_ret, deref_int, deref_bl, deref_str, deref_non, deref_tup, deref_lst, deref_fn, deref_frz, deref_r0, deref_r1, deref_r2, T_bl, T_int, T_tup, T_lst, T_non, B_addI, B_addL, B_addT, B_subI, C_ltI, C_leI, C_gtI, C_geI, C_eqI, C_eqB, C_neB, C_neI, I_tup, I_lst, L_tup, L_lst, L_abs, L_max, L_min, L_int, L_tupL, L_tupT, L_listT, L_listL, L_listF, L_all, L_any, It_L, It_T, It_r1, It_r2, negO_int, intO_int, isBo, setAll, atI_0, atI_1, atI_2, atI_3, get_0, get_1, get_2, get_3, get_4, get_5, get_6, get_7, get_8, get_9, get_10, get_11, get_12, get_13, get_14, get_15, get_16, set_0, set_1, set_2, set_3, set_4, set_5, set_6, set_7, set_8, set_9, set_10, set_11, set_12, set_13, set_14, set_15, set_16, List.map_cons, List.map_nil, List.cons_append, List.nil_append, List.replicate_succ, List.replicate_zero, List.append_nil, List.length_cons, List.length_nil, if_true, if_false, Bool.not_true, Bool.not_false, Bool.false_eq_true, Nat.sub_self, Nat.reduceSub, Nat.reduceAdd, Nat.zero_add, Nat.reduceLeDiff, lim, and_true, true_and, decide_true, decide_false, PV.isRef, wipeE, B_mulI', B_divI', B_modI', decT, decF, I_shr0, I_shr1, D_shr, OkS_for_nil, C_eqR, C_neR, C_eqNil, C_neNil, C_eqI1, C_eqI2, C_eqB1, Rv_tup, Rv_lst, List.reverse_cons, List.reverse_nil, isTy, isNo_shr, isNo_tup, isNo_non, isNo_int, isNo_bl, isNo_str, isNo_lst, isNo_ref, bne_self_eq_false, Bool.bne_true, Bool.bne_false, Bool.true_bne, Bool.false_bne, bindT_nm, bindT_tp, bindT_shr, bindTs_nil, bindTs_cons, Option.bind_some, Int.toNat_natCast, get_17, set_17, get_18, set_18, get_19, set_19, get_20, set_20, E_sst, E_lrg, Rg_l, Rg_t, L_sum, inl, get_21, set_21, get_22, set_22, get_23, set_23, get_24, set_24, get_25, set_25, get_26, set_26, get_27, set_27, get_28, set_28, get_29, set_29, get_30, set_30, E_ktp, E_cnt, mkI, List.length_map]
      rw [if_pos (by omega)]
      simp -dsimp (disch := first | (refine OM.mk ?_; first | omega | assumption | rfl) | ((fail_if_success refine OM.mk ?_); first | assumption | omega | exact deref_int | exact ty_int | exact deref_tup | exact ty_tup | exact D_shr | exact ty_shr | exact deref_bl | exact ty_bl | exact deref_non | exact ty_non | exact deref_str | exact ty_str | exact deref_lst | exact ty_lst | (refine mulOk_sz ?_ ?_ <;> (repeat' (first | exact Sz.mono (by assumption) (by decide) | exact Sz.mono (B.n (by assumption)) (by decide) | exact Sz.mono (B.d (by assumption)) (by decide) | exact Sz.of (m := 1000000000000) (by omega) (by decide) | exact Sz.of (m := 1000000) (by omega) (by decide) | exact B.mono (by assumption) (by decide) | exact ⟨Sz.of (m := 1000000000000) (by omega) (by decide), Sz.of (m := 1000000000000) (by omega) (by decide)⟩ | apply Sz.mul2 | (refine Sz.add2 ?_ ?_ (by decide)) | (refine Sz.sub2 ?_ ?_ (by decide)) | apply Sz.neg | apply B.mul2 | (refine B.add2 ?_ ?_ (by decide)) | (refine B.sub2 ?_ ?_ (by decide)) | apply B.neg)); done) | (refine nice_ok ?_; (repeat' (first | exact nice_shr | exact nice_spt | exact nice_mpv | exact nice_int | exact nice_bl | exact nice_non | exact nicel_nil | refine nicel_cons ?_ ?_ | refine nice_tup (by simp) ?_ | refine nice_lst (by simp) ?_)); done) | ((repeat' (first | exact Sz.mono (by assumption) (by decide) | exact Sz.mono (B.n (by assumption)) (by decide) | exact Sz.mono (B.d (by assumption)) (by decide) | exact Sz.of (m := 1000000000000) (by omega) (by decide) | exact Sz.of (m := 1000000) (by omega) (by decide) | exact B.mono (by assumption) (by decide) | exact ⟨Sz.of (m := 1000000000000) (by omega) (by decide), Sz.of (m := 1000000000000) (by omega) (by decide)⟩ | apply Sz.mul2 | (refine Sz.add2 ?_ ?_ (by decide)) | (refine Sz.sub2 ?_ ?_ (by decide)) | apply Sz.neg | apply B.mul2 | (refine B.add2 ?_ ?_ (by decide)) | (refine B.sub2 ?_ ?_ (by decide)) | apply B.neg)); done) | (unfold tB; simp; done) | decide)) only [S_done, S_asg, S_asgT, S_par, S_sub, S_expr, S_if, S_for, S_forB, S_ret, S_retN, E_var, E_cst, E_gl, E_yes, E_tup, E_lst, E_mkl, E_bin, E_mkb, E_neg, E_not, E_cmp, E_chain, E_isN, E_isB, E_and, E_or, E_ite, E_idx, E_rev, E_slc, P_non, P_cst, P_var, P_bin, P_neg, P_call, P_blt, E_call, E_blt, E_mkt, E_isi, E_app, Es_nil, Es_cons, E_T, E_alloc, E_lc, E_mkc, LC_nil, LC_cons, LC_B, lcQ, accO, bls, Option.map_some, List.all_cons, List.all_nil, id_eq, Bool.and_true, OkO_some, OkI_t, OkI_f, Ok_ok, OkS_next, OkS_ret, deref_int, deref_bl, deref_str, deref_non, deref_tup, deref_lst, deref_fn, deref_frz, deref_r0, deref_r1, deref_r2, T_bl, T_int, T_tup, T_lst, T_non, B_addI, B_addL, B_addT, B_subI, C_ltI, C_leI, C_gtI, C_geI, C_eqI, C_eqB, C_neB, C_neI, I_tup, I_lst, L_tup, L_lst, L_abs, L_max, L_min, L_int, L_tupL, L_tupT, L_listT, L_listL, L_listF, L_all, L_any, It_L, It_T, It_r1, It_r2, negO_int, intO_int, isBo, setAll, atI_0, atI_1, atI_2, atI_3, get_0, get_1, get_2, get_3, get_4, get_5, get_6, get_7, get_8, get_9, get_10, get_11, get_12, get_13, get_14, get_15, get_16, set_0, set_1, set_2, set_3, set_4, set_5, set_6, set_7, set_8, set_9, set_10, set_11, set_12, set_13, set_14, set_15, set_16, List.map_cons, List.map_nil, List.cons_append, List.nil_append, List.replicate_succ, List.replicate_zero, List.append_nil, List.length_cons, List.length_nil, if_true, if_false, Bool.not_true, Bool.not_false, Bool.false_eq_true, Nat.sub_self, Nat.reduceSub, Nat.reduceAdd, Nat.zero_add, Nat.reduceLeDiff, lim, and_true, true_and, decide_true, decide_false, PV.isRef, wipeE, B_mulI', B_divI', B_modI', decT, decF, I_shr0, I_shr1, D_shr, OkS_for_nil, C_eqR, C_neR, C_eqNil, C_neNil, C_eqI1, C_eqI2, C_eqB1, Rv_tup, Rv_lst, List.reverse_cons, List.reverse_nil, isTy, isNo_shr, isNo_tup, isNo_non, isNo_int, isNo_bl, isNo_str, isNo_lst, isNo_ref, bne_self_eq_false, Bool.bne_true, Bool.bne_false, Bool.true_bne, Bool.false_bne, bindT_nm, bindT_tp, bindT_shr, bindTs_nil, bindTs_cons, Option.bind_some, Int.toNat_natCast, get_17, set_17, get_18, set_18, get_19, set_19, get_20, set_20, E_sst, E_lrg, Rg_l, Rg_t, L_sum, inl, get_21, set_21, get_22, set_22, get_23, set_23, get_24, set_24, get_25, set_25, get_26, set_26, get_27, set_27, get_28, set_28, get_29, set_29, get_30, set_30, E_ktp, E_cnt]
      exact ⟨hc, ⟨_, _, rfl, _, rfl, _, _, rfl, _, _, rfl, _, rfl, _, rfl, _, rfl, _, rfl, _, _, rfl, _, rfl, _, _, rfl, _, rfl, _, rfl, _, _, rfl, _, _, rfl, _, _, rfl, _, _, rfl, _, _, rfl, _, _, rfl, _, _, rfl, _, _, rfl, rfl⟩⟩
/-- after the count -/
theorem rest0 {a b c d lo hi : Int} {N : Nat} {ρ : Env} (h : fsc a b) (g : fsc c d) (hr : rng lo hi) (h60 : hi - lo ≤ 60) (rg : rgOk (nr0 a b c d lo) (nrE a b c d lo hi + 1) = true) (hL : (nrE a b c d lo hi + 1 - nr0 a b c d lo).toNat ≤ 100000) (hN : (nrE a b c d lo hi + 1 - nr0 a b c d lo).toNat = N)
    (hk : Keeps [none, some (.ref 0), none, none, some (scv a b), some (scv c d), some (.int lo), some (.int hi), none, some (tbV a b c d lo hi), none, some (mkI (twK (tabL a b c d lo hi) (nr0 a b c d lo) N)), some (mkI (msK (tabL a b c d lo hi) (nr0 a b c d lo) N)), none, none, none, none, none, none, none, none] ρ) (hc : CupI st) :
    OkSp (evS (callN Tb 5000 39) 5000 kL_law_0 ρ st) (KI [none, some (.ref 0), none, none, none, none, none, none, none, none, none, none, none, none, none, none, none, none, none, none, none] CupI) (fun r _ => r = .bl true) := by
  obtain ⟨a0, _, rfl, _, rfl, a2, _, rfl, a3, _, rfl, _, rfl, _, rfl, _, rfl, _, rfl, a8, _, rfl, _, rfl, a10, _, rfl, _, rfl, _, rfl, a13, _, rfl, a14, _, rfl, a15, _, rfl, a16, _, rfl, a17, _, rfl, a18, _, rfl, a19, _, rfl, a20, _, rfl, rfl⟩ := hk
  refine OkSp.of ?_
  have hm := h.m
  have gm := g.m
  have rm := hr.m
  have l1 := twK_len (T := tabL a b c d lo hi) (t0 := nr0 a b c d lo) (k := N)
  have l2 := msK_len (T := tabL a b c d lo hi) (t0 := nr0 a b c d lo) (k := N)
  have em : (((List.range N).filter fun j => !decide (nr0 a b c d lo + (j : Nat) ∈ tabL a b c d lo hi)).map fun j => (.int (nr0 a b c d lo + (j : Nat)) : PV)) = (msK (tabL a b c d lo hi) (nr0 a b c d lo) N).map .int := by
    unfold msK; rw [List.map_map]; rfl
  have et : sset ((tabL a b c d lo hi).filter fun x => decide (1 < (tabL a b c d lo hi).count x)) = twK (tabL a b c d lo hi) (nr0 a b c d lo) N := by
    refine tw_eq fun x hx => ?_
    obtain ⟨p, q⟩ := tabL_mem hm gm rm hx
    omega
  have s1 := same_two (Tb := Tb) (st := st) (n := 38) (same_ints (st := st) (l := twK (tabL a b c d lo hi) (nr0 a b c d lo) N) (by decide) (by omega)) (same_ints (st := st) (l := msK (tabL a b c d lo hi) (nr0 a b c d lo) N) (by decide) (by omega))
  have o1 : d - c ≤ b - a → msK (tabL a b c d lo hi) (nr0 a b c d lo) N = [] := fun z => by rw [← hN]; exact ms_nil hm z rm
  have o2 : b - a ≤ d - c → twK (tabL a b c d lo hi) (nr0 a b c d lo) N = [] := fun z => tw_nil hm z
  simp -dsimp (disch := first | (refine OM.mk ?_; first | omega | assumption | rfl) | ((fail_if_success refine OM.mk ?_); first | assumption | omega | exact deref_int | exact ty_int | exact deref_tup | exact ty_tup | exact D_shr | exact ty_shr | exact deref_bl | exact ty_bl | exact deref_non | exact ty_non | exact deref_str | exact ty_str | exact deref_lst | exact ty_lst | (refine mulOk_sz ?_ ?_ <;> (repeat' (first | exact Sz.mono (by assumption) (by decide) | exact Sz.mono (B.n (by assumption)) (by decide) | exact Sz.mono (B.d (by assumption)) (by decide) | exact Sz.of (m := 1000000000000) (by omega) (by decide) | exact Sz.of (m := 1000000) (by omega) (by decide) | exact B.mono (by assumption) (by decide) | exact ⟨Sz.of (m := 1000000000000) (by omega) (by decide), Sz.of (m := 1000000000000) (by omega) (by decide)⟩ | apply Sz.mul2 | (refine Sz.add2 ?_ ?_ (by decide)) | (refine Sz.sub2 ?_ ?_ (by decide)) | apply Sz.neg | apply B.mul2 | (refine B.add2 ?_ ?_ (by decide)) | (refine B.sub2 ?_ ?_ (by decide)) | apply B.neg)); done) | (refine nice_ok ?_; (repeat' (first | exact nice_shr | exact nice_spt | exact nice_mpv | exact nice_int | exact nice_bl | exact nice_non | exact nicel_nil | refine nicel_cons ?_ ?_ | refine nice_tup (by simp) ?_ | refine nice_lst (by simp) ?_)); done) | ((repeat' (first | exact Sz.mono (by assumption) (by decide) | exact Sz.mono (B.n (by assumption)) (by decide) | exact Sz.mono (B.d (by assumption)) (by decide) | exact Sz.of (m := 1000000000000) (by omega) (by decide) | exact Sz.of (m := 1000000) (by omega) (by decide) | exact B.mono (by assumption) (by decide) | exact ⟨Sz.of (m := 1000000000000) (by omega) (by decide), Sz.of (m := 1000000000000) (by omega) (by decide)⟩ | apply Sz.mul2 | (refine Sz.add2 ?_ ?_ (by decide)) | (refine Sz.sub2 ?_ ?_ (by decide)) | apply Sz.neg | apply B.mul2 | (refine B.add2 ?_ ?_ (by decide)) | (refine B.sub2 ?_ ?_ (by decide)) | apply B.neg)); done) | (unfold tB; simp; done) | decide)) only [kL_law_0, S_done, S_asg, S_asgT, S_par, S_sub, S_expr, S_if, S_for, S_forB, S_ret, S_retN, E_var, E_cst, E_gl, E_yes, E_tup, E_lst, E_mkl, E_bin, E_mkb, E_neg, E_not, E_cmp, E_chain, E_isN, E_isB, E_and, E_or, E_ite, E_idx, E_rev, E_slc, P_non, P_cst, P_var, P_bin, P_neg, P_call, P_blt, E_call, E_blt, E_mkt, E_isi, E_app, Es_nil, Es_cons, E_T, E_alloc, E_lc, E_mkc, LC_nil, LC_cons, LC_B, lcQ, accO, bls, Option.map_some, List.all_cons, List.all_nil, id_eq, Bool.and_true, OkO_some, OkI_t, OkI_f, Ok_ok, OkS_next, OkS_ret, deref_int, deref_bl, deref_str, deref_non, deref_tup, deref_lst, deref_fn, deref_frz, deref_r0, deref_r1, deref_r2, T_bl, T_int, T_tup, T_lst, T_non, B_addI, B_addL, B_addT, B_subI, C_ltI, C_leI, C_gtI, C_geI, C_eqI, C_eqB, C_neB, C_neI, I_tup, I_lst, L_tup, L_lst, L_abs, L_max, L_min, L_int, L_tupL, L_tupT, L_listT, L_listL, L_listF, L_all, L_any, It_L, It_T, It_r1, It_r2, negO_int, intO_int, isBo, setAll, atI_0, atI_1, atI_2, atI_3, get_0, get_1, get_2, get_3, get_4, get_5, get_6, get_7, get_8, get_9, get_10, get_11, get_12, get_13, get_14, get_15, get_16, set_0, set_1, set_2, set_3, set_4, set_5, set_6, set_7, set_8, set_9, set_10, set_11, set_12, set_13, set_14, set_15, set_16, List.map_cons, List.map_nil, List.cons_append, List.nil_append, List.replicate_succ, List.replicate_zero, List.append_nil, List.length_cons, List.length_nil, if_true, if_false, Bool.not_true, Bool.not_false, Bool.false_eq_true, Nat.sub_self, Nat.reduceSub, Nat.reduceAdd, Nat.zero_add, Nat.reduceLeDiff, lim, and_true, true_and, decide_true, decide_false, PV.isRef, wipeE, B_mulI', B_divI', B_modI', decT, decF, I_shr0, I_shr1, D_shr, OkS_for_nil, C_eqR, C_neR, C_eqNil, C_neNil, C_eqI1, C_eqI2, C_eqB1, Rv_tup, Rv_lst, List.reverse_cons, List.reverse_nil, isTy, isNo_shr, isNo_tup, isNo_non, isNo_int, isNo_bl, isNo_str, isNo_lst, isNo_ref, bne_self_eq_false, Bool.bne_true, Bool.bne_false, Bool.true_bne, Bool.false_bne, bindT_nm, bindT_tp, bindT_shr, bindTs_nil, bindTs_cons, Option.bind_some, Int.toNat_natCast, get_17, set_17, get_18, set_18, get_19, set_19, get_20, set_20, E_sst, E_lrg, Rg_l, Rg_t, L_sum, inl, get_21, set_21, get_22, set_22, get_23, set_23, get_24, set_24, get_25, set_25, get_26, set_26, get_27, set_27, get_28, set_28, get_29, set_29, get_30, set_30, E_ktp, E_cnt, mkI, sp_doubled, sp_missed, hN, em, et, s1]
  by_cases z1 : d - c ≤ b - a
  · have o1 := o1 z1
    by_cases z2 : b - a ≤ d - c
    · have o2 := o2 z2
      simp -dsimp (disch := first | (refine OM.mk ?_; first | omega | assumption | rfl) | ((fail_if_success refine OM.mk ?_); first | assumption | omega | exact deref_int | exact ty_int | exact deref_tup | exact ty_tup | exact D_shr | exact ty_shr | exact deref_bl | exact ty_bl | exact deref_non | exact ty_non | exact deref_str | exact ty_str | exact deref_lst | exact ty_lst | (refine mulOk_sz ?_ ?_ <;> (repeat' (first | exact Sz.mono (by assumption) (by decide) | exact Sz.mono (B.n (by assumption)) (by decide) | exact Sz.mono (B.d (by assumption)) (by decide) | exact Sz.of (m := 1000000000000) (by omega) (by decide) | exact Sz.of (m := 1000000) (by omega) (by decide) | exact B.mono (by assumption) (by decide) | exact ⟨Sz.of (m := 1000000000000) (by omega) (by decide), Sz.of (m := 1000000000000) (by omega) (by decide)⟩ | apply Sz.mul2 | (refine Sz.add2 ?_ ?_ (by decide)) | (refine Sz.sub2 ?_ ?_ (by decide)) | apply Sz.neg | apply B.mul2 | (refine B.add2 ?_ ?_ (by decide)) | (refine B.sub2 ?_ ?_ (by decide)) | apply B.neg)); done) | (refine nice_ok ?_; (repeat' (first | exact nice_shr | exact nice_spt | exact nice_mpv | exact nice_int | exact nice_bl | exact nice_non | exact nicel_nil | refine nicel_cons ?_ ?_ | refine nice_tup (by simp) ?_ | refine nice_lst (by simp) ?_)); done) | ((repeat' (first | exact Sz.mono (by assumption) (by decide) | exact Sz.mono (B.n (by assumption)) (by decide) | exact Sz.mono (B.d (by assumption)) (by decide) | exact Sz.of (m := 1000000000000) (by omega) (by decide) | exact Sz.of (m := 1000000) (by omega) (by decide) | exact B.mono (by assumption) (by decide) | exact ⟨Sz.of (m := 1000000000000) (by omega) (by decide), Sz.of (m := 1000000000000) (by omega) (by decide)⟩ | apply Sz.mul2 | (refine Sz.add2 ?_ ?_ (by decide)) | (refine Sz.sub2 ?_ ?_ (by decide)) | apply Sz.neg | apply B.mul2 | (refine B.add2 ?_ ?_ (by decide)) | (refine B.sub2 ?_ ?_ (by decide)) | apply B.neg)); done) | (unfold tB; simp; done) | decide)) only [S_done, S_asg, S_asgT, S_par, S_sub, S_expr, S_if, S_for, S_forB, S_ret, S_retN, E_var, E_cst, E_gl, E_yes, E_tup, E_lst, E_mkl, E_bin, E_mkb, E_neg, E_not, E_cmp, E_chain, E_isN, E_isB, E_and, E_or, E_ite, E_idx, E_rev, E_slc, P_non, P_cst, P_var, P_bin, P_neg, P_call, P_blt, E_call, E_blt, E_mkt, E_isi, E_app, Es_nil, Es_cons, E_T, E_alloc, E_lc, E_mkc, LC_nil, LC_cons, LC_B, lcQ, accO, bls, Option.map_some, List.all_cons, List.all_nil, id_eq, Bool.and_true, OkO_some, OkI_t, OkI_f, Ok_ok, OkS_next, OkS_ret, deref_int, deref_bl, deref_str, deref_non, deref_tup, deref_lst, deref_fn, deref_frz, deref_r0, deref_r1, deref_r2, T_bl, T_int, T_tup, T_lst, T_non, B_addI, B_addL, B_addT, B_subI, C_ltI, C_leI, C_gtI, C_geI, C_eqI, C_eqB, C_neB, C_neI, I_tup, I_lst, L_tup, L_lst, L_abs, L_max, L_min, L_int, L_tupL, L_tupT, L_listT, L_listL, L_listF, L_all, L_any, It_L, It_T, It_r1, It_r2, negO_int, intO_int, isBo, setAll, atI_0, atI_1, atI_2, atI_3, get_0, get_1, get_2, get_3, get_4, get_5, get_6, get_7, get_8, get_9, get_10, get_11, get_12, get_13, get_14, get_15, get_16, set_0, set_1, set_2, set_3, set_4, set_5, set_6, set_7, set_8, set_9, set_10, set_11, set_12, set_13, set_14, set_15, set_16, List.map_cons, List.map_nil, List.cons_append, List.nil_append, List.replicate_succ, List.replicate_zero, List.append_nil, List.length_cons, List.length_nil, if_true, if_false, Bool.not_true, Bool.not_false, Bool.false_eq_true, Nat.sub_self, Nat.reduceSub, Nat.reduceAdd, Nat.zero_add, Nat.reduceLeDiff, lim, and_true, true_and, decide_true, decide_false, PV.isRef, wipeE, B_mulI', B_divI', B_modI', decT, decF, I_shr0, I_shr1, D_shr, OkS_for_nil, C_eqR, C_neR, C_eqNil, C_neNil, C_eqI1, C_eqI2, C_eqB1, Rv_tup, Rv_lst, List.reverse_cons, List.reverse_nil, isTy, isNo_shr, isNo_tup, isNo_non, isNo_int, isNo_bl, isNo_str, isNo_lst, isNo_ref, bne_self_eq_false, Bool.bne_true, Bool.bne_false, Bool.true_bne, Bool.false_bne, bindT_nm, bindT_tp, bindT_shr, bindTs_nil, bindTs_cons, Option.bind_some, Int.toNat_natCast, get_17, set_17, get_18, set_18, get_19, set_19, get_20, set_20, E_sst, E_lrg, Rg_l, Rg_t, L_sum, inl, get_21, set_21, get_22, set_22, get_23, set_23, get_24, set_24, get_25, set_25, get_26, set_26, get_27, set_27, get_28, set_28, get_29, set_29, get_30, set_30, E_ktp, E_cnt, mkI, z1, z2, C_neIL, o1, o2, List.isEmpty_nil]
      exact ⟨hc, ⟨_, _, rfl, _, rfl, _, _, rfl, _, _, rfl, _, _, rfl, _, _, rfl, _, _, rfl, _, _, rfl, _, _, rfl, _, _, rfl, _, _, rfl, _, _, rfl, _, _, rfl, _, _, rfl, _, _, rfl, _, _, rfl, _, _, rfl, _, _, rfl, _, _, rfl, _, _, rfl, _, _, rfl, rfl⟩⟩
    · simp -dsimp (disch := first | (refine OM.mk ?_; first | omega | assumption | rfl) | ((fail_if_success refine OM.mk ?_); first | assumption | omega | exact deref_int | exact ty_int | exact deref_tup | exact ty_tup | exact D_shr | exact ty_shr | exact deref_bl | exact ty_bl | exact deref_non | exact ty_non | exact deref_str | exact ty_str | exact deref_lst | exact ty_lst | (refine mulOk_sz ?_ ?_ <;> (repeat' (first | exact Sz.mono (by assumption) (by decide) | exact Sz.mono (B.n (by assumption)) (by decide) | exact Sz.mono (B.d (by assumption)) (by decide) | exact Sz.of (m := 1000000000000) (by omega) (by decide) | exact Sz.of (m := 1000000) (by omega) (by decide) | exact B.mono (by assumption) (by decide) | exact ⟨Sz.of (m := 1000000000000) (by omega) (by decide), Sz.of (m := 1000000000000) (by omega) (by decide)⟩ | apply Sz.mul2 | (refine Sz.add2 ?_ ?_ (by decide)) | (refine Sz.sub2 ?_ ?_ (by decide)) | apply Sz.neg | apply B.mul2 | (refine B.add2 ?_ ?_ (by decide)) | (refine B.sub2 ?_ ?_ (by decide)) | apply B.neg)); done) | (refine nice_ok ?_; (repeat' (first | exact nice_shr | exact nice_spt | exact nice_mpv | exact nice_int | exact nice_bl | exact nice_non | exact nicel_nil | refine nicel_cons ?_ ?_ | refine nice_tup (by simp) ?_ | refine nice_lst (by simp) ?_)); done) | ((repeat' (first | exact Sz.mono (by assumption) (by decide) | exact Sz.mono (B.n (by assumption)) (by decide) | exact Sz.mono (B.d (by assumption)) (by decide) | exact Sz.of (m := 1000000000000) (by omega) (by decide) | exact Sz.of (m := 1000000) (by omega) (by decide) | exact B.mono (by assumption) (by decide) | exact ⟨Sz.of (m := 1000000000000) (by omega) (by decide), Sz.of (m := 1000000000000) (by omega) (by decide)⟩ | apply Sz.mul2 | (refine Sz.add2 ?_ ?_ (by decide)) | (refine Sz.sub2 ?_ ?_ (by decide)) | apply Sz.neg | apply B.mul2 | (refine B.add2 ?_ ?_ (by decide)) | (refine B.sub2 ?_ ?_ (by decide)) | apply B.neg)); done) | (unfold tB; simp; done) | decide)) only [S_done, S_asg, S_asgT, S_par, S_sub, S_expr, S_if, S_for, S_forB, S_ret, S_retN, E_var, E_cst, E_gl, E_yes, E_tup, E_lst, E_mkl, E_bin, E_mkb, E_neg, E_not, E_cmp, E_chain, E_isN, E_isB, E_and, E_or, E_ite, E_idx, E_rev, E_slc, P_non, P_cst, P_var, P_bin, P_neg, P_call, P_blt, E_call, E_blt, E_mkt, E_isi, E_app, Es_nil, Es_cons, E_T, E_alloc, E_lc, E_mkc, LC_nil, LC_cons, LC_B, lcQ, accO, bls, Option.map_some, List.all_cons, List.all_nil, id_eq, Bool.and_true, OkO_some, OkI_t, OkI_f, Ok_ok, OkS_next, OkS_ret, deref_int, deref_bl, deref_str, deref_non, deref_tup, deref_lst, deref_fn, deref_frz, deref_r0, deref_r1, deref_r2, T_bl, T_int, T_tup, T_lst, T_non, B_addI, B_addL, B_addT, B_subI, C_ltI, C_leI, C_gtI, C_geI, C_eqI, C_eqB, C_neB, C_neI, I_tup, I_lst, L_tup, L_lst, L_abs, L_max, L_min, L_int, L_tupL, L_tupT, L_listT, L_listL, L_listF, L_all, L_any, It_L, It_T, It_r1, It_r2, negO_int, intO_int, isBo, setAll, atI_0, atI_1, atI_2, atI_3, get_0, get_1, get_2, get_3, get_4, get_5, get_6, get_7, get_8, get_9, get_10, get_11, get_12, get_13, get_14, get_15, get_16, set_0, set_1, set_2, set_3, set_4, set_5, set_6, set_7, set_8, set_9, set_10, set_11, set_12, set_13, set_14, set_15, set_16, List.map_cons, List.map_nil, List.cons_append, List.nil_append, List.replicate_succ, List.replicate_zero, List.append_nil, List.length_cons, List.length_nil, if_true, if_false, Bool.not_true, Bool.not_false, Bool.false_eq_true, Nat.sub_self, Nat.reduceSub, Nat.reduceAdd, Nat.zero_add, Nat.reduceLeDiff, lim, and_true, true_and, decide_true, decide_false, PV.isRef, wipeE, B_mulI', B_divI', B_modI', decT, decF, I_shr0, I_shr1, D_shr, OkS_for_nil, C_eqR, C_neR, C_eqNil, C_neNil, C_eqI1, C_eqI2, C_eqB1, Rv_tup, Rv_lst, List.reverse_cons, List.reverse_nil, isTy, isNo_shr, isNo_tup, isNo_non, isNo_int, isNo_bl, isNo_str, isNo_lst, isNo_ref, bne_self_eq_false, Bool.bne_true, Bool.bne_false, Bool.true_bne, Bool.false_bne, bindT_nm, bindT_tp, bindT_shr, bindTs_nil, bindTs_cons, Option.bind_some, Int.toNat_natCast, get_17, set_17, get_18, set_18, get_19, set_19, get_20, set_20, E_sst, E_lrg, Rg_l, Rg_t, L_sum, inl, get_21, set_21, get_22, set_22, get_23, set_23, get_24, set_24, get_25, set_25, get_26, set_26, get_27, set_27, get_28, set_28, get_29, set_29, get_30, set_30, E_ktp, E_cnt, mkI, z1, z2, C_neIL, o1, List.isEmpty_nil]
      exact ⟨hc, ⟨_, _, rfl, _, rfl, _, _, rfl, _, _, rfl, _, _, rfl, _, _, rfl, _, _, rfl, _, _, rfl, _, _, rfl, _, _, rfl, _, _, rfl, _, _, rfl, _, _, rfl, _, _, rfl, _, _, rfl, _, _, rfl, _, _, rfl, _, _, rfl, _, _, rfl, _, _, rfl, _, _, rfl, rfl⟩⟩
  · have z2 : b - a ≤ d - c := by omega
    have o2 := o2 z2
    simp -dsimp (disch := first | (refine OM.mk ?_; first | omega | assumption | rfl) | ((fail_if_success refine OM.mk ?_); first | assumption | omega | exact deref_int | exact ty_int | exact deref_tup | exact ty_tup | exact D_shr | exact ty_shr | exact deref_bl | exact ty_bl | exact deref_non | exact ty_non | exact deref_str | exact ty_str | exact deref_lst | exact ty_lst | (refine mulOk_sz ?_ ?_ <;> (repeat' (first | exact Sz.mono (by assumption) (by decide) | exact Sz.mono (B.n (by assumption)) (by decide) | exact Sz.mono (B.d (by assumption)) (by decide) | exact Sz.of (m := 1000000000000) (by omega) (by decide) | exact Sz.of (m := 1000000) (by omega) (by decide) | exact B.mono (by assumption) (by decide) | exact ⟨Sz.of (m := 1000000000000) (by omega) (by decide), Sz.of (m := 1000000000000) (by omega) (by decide)⟩ | apply Sz.mul2 | (refine Sz.add2 ?_ ?_ (by decide)) | (refine Sz.sub2 ?_ ?_ (by decide)) | apply Sz.neg | apply B.mul2 | (refine B.add2 ?_ ?_ (by decide)) | (refine B.sub2 ?_ ?_ (by decide)) | apply B.neg)); done) | (refine nice_ok ?_; (repeat' (first | exact nice_shr | exact nice_spt | exact nice_mpv | exact nice_int | exact nice_bl | exact nice_non | exact nicel_nil | refine nicel_cons ?_ ?_ | refine nice_tup (by simp) ?_ | refine nice_lst (by simp) ?_)); done) | ((repeat' (first | exact Sz.mono (by assumption) (by decide) | exact Sz.mono (B.n (by assumption)) (by decide) | exact Sz.mono (B.d (by assumption)) (by decide) | exact Sz.of (m := 1000000000000) (by omega) (by decide) | exact Sz.of (m := 1000000) (by omega) (by decide) | exact B.mono (by assumption) (by decide) | exact ⟨Sz.of (m := 1000000000000) (by omega) (by decide), Sz.of (m := 1000000000000) (by omega) (by decide)⟩ | apply Sz.mul2 | (refine Sz.add2 ?_ ?_ (by decide)) | (refine Sz.sub2 ?_ ?_ (by decide)) | apply Sz.neg | apply B.mul2 | (refine B.add2 ?_ ?_ (by decide)) | (refine B.sub2 ?_ ?_ (by decide)) | apply B.neg)); done) | (unfold tB; simp; done) | decide)) only [S_done, S_asg, S_asgT, S_par, S_sub, S_expr, S_if, S_for, S_forB, S_ret, S_retN, E_var, E_cst, E_gl, E_yes, E_tup, E_lst, E_mkl, E_bin, E_mkb, E_neg, E_not, E_cmp, E_chain, E_isN, E_isB, E_and, E_or, E_ite, E_idx, E_rev, E_slc, P_non, P_cst, P_var, P_bin, P_neg, P_call, P_blt, E_call, E_blt, E_mkt, E_isi, E_app, Es_nil, Es_cons, E_T, E_alloc, E_lc, E_mkc, LC_nil, LC_cons, LC_B, lcQ, accO, bls, Option.map_some, List.all_cons, List.all_nil, id_eq, Bool.and_true, OkO_some, OkI_t, OkI_f, Ok_ok, OkS_next, OkS_ret, deref_int, deref_bl, deref_str, deref_non, deref_tup, deref_lst, deref_fn, deref_frz, deref_r0, deref_r1, deref_r2, T_bl, T_int, T_tup, T_lst, T_non, B_addI, B_addL, B_addT, B_subI, C_ltI, C_leI, C_gtI, C_geI, C_eqI, C_eqB, C_neB, C_neI, I_tup, I_lst, L_tup, L_lst, L_abs, L_max, L_min, L_int, L_tupL, L_tupT, L_listT, L_listL, L_listF, L_all, L_any, It_L, It_T, It_r1, It_r2, negO_int, intO_int, isBo, setAll, atI_0, atI_1, atI_2, atI_3, get_0, get_1, get_2, get_3, get_4, get_5, get_6, get_7, get_8, get_9, get_10, get_11, get_12, get_13, get_14, get_15, get_16, set_0, set_1, set_2, set_3, set_4, set_5, set_6, set_7, set_8, set_9, set_10, set_11, set_12, set_13, set_14, set_15, set_16, List.map_cons, List.map_nil, List.cons_append, List.nil_append, List.replicate_succ, List.replicate_zero, List.append_nil, List.length_cons, List.length_nil, if_true, if_false, Bool.not_true, Bool.not_false, Bool.false_eq_true, Nat.sub_self, Nat.reduceSub, Nat.reduceAdd, Nat.zero_add, Nat.reduceLeDiff, lim, and_true, true_and, decide_true, decide_false, PV.isRef, wipeE, B_mulI', B_divI', B_modI', decT, decF, I_shr0, I_shr1, D_shr, OkS_for_nil, C_eqR, C_neR, C_eqNil, C_neNil, C_eqI1, C_eqI2, C_eqB1, Rv_tup, Rv_lst, List.reverse_cons, List.reverse_nil, isTy, isNo_shr, isNo_tup, isNo_non, isNo_int, isNo_bl, isNo_str, isNo_lst, isNo_ref, bne_self_eq_false, Bool.bne_true, Bool.bne_false, Bool.true_bne, Bool.false_bne, bindT_nm, bindT_tp, bindT_shr, bindTs_nil, bindTs_cons, Option.bind_some, Int.toNat_natCast, get_17, set_17, get_18, set_18, get_19, set_19, get_20, set_20, E_sst, E_lrg, Rg_l, Rg_t, L_sum, inl, get_21, set_21, get_22, set_22, get_23, set_23, get_24, set_24, get_25, set_25, get_26, set_26, get_27, set_27, get_28, set_28, get_29, set_29, get_30, set_30, E_ktp, E_cnt, mkI, z1, z2, C_neIL, o2, List.isEmpty_nil]
    exact ⟨hc, ⟨_, _, rfl, _, rfl, _, _, rfl, _, _, rfl, _, _, rfl, _, _, rfl, _, _, rfl, _, _, rfl, _, _, rfl, _, _, rfl, _, _, rfl, _, _, rfl, _, _, rfl, _, _, rfl, _, _, rfl, _, _, rfl, _, _, rfl, _, _, rfl, _, _, rfl, _, _, rfl, _, _, rfl, rfl⟩⟩
end

end Ev.K83
end
section
set_option Elab.async false
set_option linter.all false
set_option maxRecDepth 100000
set_option maxHeartbeats 4000000
set_option exponentiation.threshold 5000
namespace Ev.K83
open PySem L2
variable {Tb : List Fd} [IsTab Tb]
section
variable {st : Store}
theorem roll25 {x : PV} (h : x ∈ [PV.int 9, PV.int 25]) : ∃ k : Int, x = .int k ∧ 1 ≤ k ∧ k ≤ 25 := by
  simp only [List.mem_cons, List.not_mem_nil, or_false] at h
  rcases h with rfl | rfl
  · exact ⟨9, rfl, by decide, by decide⟩
  · exact ⟨25, rfl, by decide, by decide⟩
theorem far30 {x : PV} (h : x ∈ [PV.int 5, PV.int 30]) : ∃ k : Int, x = .int k ∧ 1 ≤ k ∧ k ≤ 30 := by
  simp only [List.mem_cons, List.not_mem_nil, or_false] at h
  rcases h with rfl | rfl
  · exact ⟨5, rfl, by decide, by decide⟩
  · exact ⟨30, rfl, by decide, by decide⟩
theorem It_e' {m : Nat} {f : Nat → PV} : items .enum [.lst (rl m f)] = some (rl m fun i => .tup [.int i, f i]) := It_eL
theorem turn_ok {ρ : Env} {v : PV} (hk : Keeps [none, some (.ref 0), none, none, none, none, none, none, none, none, none, none, none, none, none, none, none, none, none, none, none] ρ) (hc : CupI st) :
    OkSp (forB (callN Tb 5000 39) 5000 (.nm 2) bL_law_1 v ρ st) (KI [none, some (.ref 0), none, none, none, none, none, none, none, none, none, none, none, none, none, none, none, none, none, none, none] CupI) (fun r _ => r = .bl true) := by
  obtain ⟨a0, _, rfl, _, rfl, a2, _, rfl, a3, _, rfl, a4, _, rfl, a5, _, rfl, a6, _, rfl, a7, _, rfl, a8, _, rfl, a9, _, rfl, a10, _, rfl, a11, _, rfl, a12, _, rfl, a13, _, rfl, a14, _, rfl, a15, _, rfl, a16, _, rfl, a17, _, rfl, a18, _, rfl, a19, _, rfl, a20, _, rfl, rfl⟩ := hk
  refine OkSp.of ?_
  simp -dsimp (disch := first | (refine OM.mk ?_; first | omega | assumption | rfl) | ((fail_if_success refine OM.mk ?_); first | assumption | omega | exact deref_int | exact ty_int | exact deref_tup | exact ty_tup | exact D_shr | exact ty_shr | exact deref_bl | exact ty_bl | exact deref_non | exact ty_non | exact deref_str | exact ty_str | exact deref_lst | exact ty_lst | (refine mulOk_sz ?_ ?_ <;> (repeat' (first | exact Sz.mono (by assumption) (by decide) | exact Sz.mono (B.n (by assumption)) (by decide) | exact Sz.mono (B.d (by assumption)) (by decide) | exact Sz.of (m := 1000000000000) (by omega) (by decide) | exact Sz.of (m := 1000000) (by omega) (by decide) | exact B.mono (by assumption) (by decide) | exact ⟨Sz.of (m := 1000000000000) (by omega) (by decide), Sz.of (m := 1000000000000) (by omega) (by decide)⟩ | apply Sz.mul2 | (refine Sz.add2 ?_ ?_ (by decide)) | (refine Sz.sub2 ?_ ?_ (by decide)) | apply Sz.neg | apply B.mul2 | (refine B.add2 ?_ ?_ (by decide)) | (refine B.sub2 ?_ ?_ (by decide)) | apply B.neg)); done) | (refine nice_ok ?_; (repeat' (first | exact nice_shr | exact nice_spt | exact nice_mpv | exact nice_int | exact nice_bl | exact nice_non | exact nicel_nil | refine nicel_cons ?_ ?_ | refine nice_tup (by simp) ?_ | refine nice_lst (by simp) ?_)); done) | ((repeat' (first | exact Sz.mono (by assumption) (by decide) | exact Sz.mono (B.n (by assumption)) (by decide) | exact Sz.mono (B.d (by assumption)) (by decide) | exact Sz.of (m := 1000000000000) (by omega) (by decide) | exact Sz.of (m := 1000000) (by omega) (by decide) | exact B.mono (by assumption) (by decide) | exact ⟨Sz.of (m := 1000000000000) (by omega) (by decide), Sz.of (m := 1000000000000) (by omega) (by decide)⟩ | apply Sz.mul2 | (refine Sz.add2 ?_ ?_ (by decide)) | (refine Sz.sub2 ?_ ?_ (by decide)) | apply Sz.neg | apply B.mul2 | (refine B.add2 ?_ ?_ (by decide)) | (refine B.sub2 ?_ ?_ (by decide)) | apply B.neg)); done) | (unfold tB; simp; done) | decide)) only [bL_law_1, S_done, S_asg, S_asgT, S_par, S_sub, S_expr, S_if, S_for, S_forB, S_ret, S_retN, E_var, E_cst, E_gl, E_yes, E_tup, E_lst, E_mkl, E_bin, E_mkb, E_neg, E_not, E_cmp, E_chain, E_isN, E_isB, E_and, E_or, E_ite, E_idx, E_rev, E_slc, P_non, P_cst, P_var, P_bin, P_neg, P_call, P_blt, E_call, E_blt, E_mkt, E_isi, E_app, Es_nil, Es_cons, E_T, E_alloc, E_lc, E_mkc, LC_nil, LC_cons, LC_B, lcQ, accO, bls, Option.map_some, List.all_cons, List.all_nil, id_eq, Bool.and_true, OkO_some, OkI_t, OkI_f, Ok_ok, OkS_next, OkS_ret, deref_int, deref_bl, deref_str, deref_non, deref_tup, deref_lst, deref_fn, deref_frz, deref_r0, deref_r1, deref_r2, T_bl, T_int, T_tup, T_lst, T_non, B_addI, B_addL, B_addT, B_subI, C_ltI, C_leI, C_gtI, C_geI, C_eqI, C_eqB, C_neB, C_neI, I_tup, I_lst, L_tup, L_lst, L_abs, L_max, L_min, L_int, L_tupL, L_tupT, L_listT, L_listL, L_listF, L_all, L_any, It_L, It_T, It_r1, It_r2, negO_int, intO_int, isBo, setAll, atI_0, atI_1, atI_2, atI_3, get_0, get_1, get_2, get_3, get_4, get_5, get_6, get_7, get_8, get_9, get_10, get_11, get_12, get_13, get_14, get_15, get_16, set_0, set_1, set_2, set_3, set_4, set_5, set_6, set_7, set_8, set_9, set_10, set_11, set_12, set_13, set_14, set_15, set_16, List.map_cons, List.map_nil, List.cons_append, List.nil_append, List.replicate_succ, List.replicate_zero, List.append_nil, List.length_cons, List.length_nil, if_true, if_false, Bool.not_true, Bool.not_false, Bool.false_eq_true, Nat.sub_self, Nat.reduceSub, Nat.reduceAdd, Nat.zero_add, Nat.reduceLeDiff, lim, and_true, true_and, decide_true, decide_false, PV.isRef, wipeE, B_mulI', B_divI', B_modI', decT, decF, I_shr0, I_shr1, D_shr, OkS_for_nil, C_eqR, C_neR, C_eqNil, C_neNil, C_eqI1, C_eqI2, C_eqB1, Rv_tup, Rv_lst, List.reverse_cons, List.reverse_nil, isTy, isNo_shr, isNo_tup, isNo_non, isNo_int, isNo_bl, isNo_str, isNo_lst, isNo_ref, bne_self_eq_false, Bool.bne_true, Bool.bne_false, Bool.true_bne, Bool.false_bne, bindT_nm, bindT_tp, bindT_shr, bindTs_nil, bindTs_cons, Option.bind_some, Int.toNat_natCast, get_17, set_17, get_18, set_18, get_19, set_19, get_20, set_20, E_sst, E_lrg, Rg_l, Rg_t, L_sum, inl, get_21, set_21, get_22, set_22, get_23, set_23, get_24, set_24, get_25, set_25, get_26, set_26, get_27, set_27, get_28, set_28, get_29, set_29, get_30, set_30, E_ktp, E_cnt]
  refine (lw_some (by decide) (by decide) (by decide) hc).to fun r st1 ⟨e, hc1⟩ => ?_
  obtain ⟨far, e, f1, f2⟩ := far30 e
  rw [e]; clear e
  simp -dsimp (disch := first | (refine OM.mk ?_; first | omega | assumption | rfl) | ((fail_if_success refine OM.mk ?_); first | assumption | omega | exact deref_int | exact ty_int | exact deref_tup | exact ty_tup | exact D_shr | exact ty_shr | exact deref_bl | exact ty_bl | exact deref_non | exact ty_non | exact deref_str | exact ty_str | exact deref_lst | exact ty_lst | (refine mulOk_sz ?_ ?_ <;> (repeat' (first | exact Sz.mono (by assumption) (by decide) | exact Sz.mono (B.n (by assumption)) (by decide) | exact Sz.mono (B.d (by assumption)) (by decide) | exact Sz.of (m := 1000000000000) (by omega) (by decide) | exact Sz.of (m := 1000000) (by omega) (by decide) | exact B.mono (by assumption) (by decide) | exact ⟨Sz.of (m := 1000000000000) (by omega) (by decide), Sz.of (m := 1000000000000) (by omega) (by decide)⟩ | apply Sz.mul2 | (refine Sz.add2 ?_ ?_ (by decide)) | (refine Sz.sub2 ?_ ?_ (by decide)) | apply Sz.neg | apply B.mul2 | (refine B.add2 ?_ ?_ (by decide)) | (refine B.sub2 ?_ ?_ (by decide)) | apply B.neg)); done) | (refine nice_ok ?_; (repeat' (first | exact nice_shr | exact nice_spt | exact nice_mpv | exact nice_int | exact nice_bl | exact nice_non | exact nicel_nil | refine nicel_cons ?_ ?_ | refine nice_tup (by simp) ?_ | refine nice_lst (by simp) ?_)); done) | ((repeat' (first | exact Sz.mono (by assumption) (by decide) | exact Sz.mono (B.n (by assumption)) (by decide) | exact Sz.mono (B.d (by assumption)) (by decide) | exact Sz.of (m := 1000000000000) (by omega) (by decide) | exact Sz.of (m := 1000000) (by omega) (by decide) | exact B.mono (by assumption) (by decide) | exact ⟨Sz.of (m := 1000000000000) (by omega) (by decide), Sz.of (m := 1000000000000) (by omega) (by decide)⟩ | apply Sz.mul2 | (refine Sz.add2 ?_ ?_ (by decide)) | (refine Sz.sub2 ?_ ?_ (by decide)) | apply Sz.neg | apply B.mul2 | (refine B.add2 ?_ ?_ (by decide)) | (refine B.sub2 ?_ ?_ (by decide)) | apply B.neg)); done) | (unfold tB; simp; done) | decide)) only [S_done, S_asg, S_asgT, S_par, S_sub, S_expr, S_if, S_for, S_forB, S_ret, S_retN, E_var, E_cst, E_gl, E_yes, E_tup, E_lst, E_mkl, E_bin, E_mkb, E_neg, E_not, E_cmp, E_chain, E_isN, E_isB, E_and, E_or, E_ite, E_idx, E_rev, E_slc, P_non, P_cst, P_var, P_bin, P_neg, P_call, P_blt, E_call, E_blt, E_mkt, E_isi, E_app, Es_nil, Es_cons, E_T, E_alloc, E_lc, E_mkc, LC_nil, LC_cons, LC_B, lcQ, accO, bls, Option.map_some, List.all_cons, List.all_nil, id_eq, Bool.and_true, OkO_some, OkI_t, OkI_f, Ok_ok, OkS_next, OkS_ret, deref_int, deref_bl, deref_str, deref_non, deref_tup, deref_lst, deref_fn, deref_frz, deref_r0, deref_r1, deref_r2, T_bl, T_int, T_tup, T_lst, T_non, B_addI, B_addL, B_addT, B_subI, C_ltI, C_leI, C_gtI, C_geI, C_eqI, C_eqB, C_neB, C_neI, I_tup, I_lst, L_tup, L_lst, L_abs, L_max, L_min, L_int, L_tupL, L_tupT, L_listT, L_listL, L_listF, L_all, L_any, It_L, It_T, It_r1, It_r2, negO_int, intO_int, isBo, setAll, atI_0, atI_1, atI_2, atI_3, get_0, get_1, get_2, get_3, get_4, get_5, get_6, get_7, get_8, get_9, get_10, get_11, get_12, get_13, get_14, get_15, get_16, set_0, set_1, set_2, set_3, set_4, set_5, set_6, set_7, set_8, set_9, set_10, set_11, set_12, set_13, set_14, set_15, set_16, List.map_cons, List.map_nil, List.cons_append, List.nil_append, List.replicate_succ, List.replicate_zero, List.append_nil, List.length_cons, List.length_nil, if_true, if_false, Bool.not_true, Bool.not_false, Bool.false_eq_true, Nat.sub_self, Nat.reduceSub, Nat.reduceAdd, Nat.zero_add, Nat.reduceLeDiff, lim, and_true, true_and, decide_true, decide_false, PV.isRef, wipeE, B_mulI', B_divI', B_modI', decT, decF, I_shr0, I_shr1, D_shr, OkS_for_nil, C_eqR, C_neR, C_eqNil, C_neNil, C_eqI1, C_eqI2, C_eqB1, Rv_tup, Rv_lst, List.reverse_cons, List.reverse_nil, isTy, isNo_shr, isNo_tup, isNo_non, isNo_int, isNo_bl, isNo_str, isNo_lst, isNo_ref, bne_self_eq_false, Bool.bne_true, Bool.bne_false, Bool.true_bne, Bool.false_bne, bindT_nm, bindT_tp, bindT_shr, bindTs_nil, bindTs_cons, Option.bind_some, Int.toNat_natCast, get_17, set_17, get_18, set_18, get_19, set_19, get_20, set_20, E_sst, E_lrg, Rg_l, Rg_t, L_sum, inl, get_21, set_21, get_22, set_22, get_23, set_23, get_24, set_24, get_25, set_25, get_26, set_26, get_27, set_27, get_28, set_28, get_29, set_29, get_30, set_30, E_ktp, E_cnt]
  refine (lw_scale (by decide) (by omega) (by omega) hc1).to fun r st2 ⟨a, b, e, h, hc2⟩ => ?_
  rw [e]; clear e
  simp -dsimp (disch := first | (refine OM.mk ?_; first | omega | assumption | rfl) | ((fail_if_success refine OM.mk ?_); first | assumption | omega | exact deref_int | exact ty_int | exact deref_tup | exact ty_tup | exact D_shr | exact ty_shr | exact deref_bl | exact ty_bl | exact deref_non | exact ty_non | exact deref_str | exact ty_str | exact deref_lst | exact ty_lst | (refine mulOk_sz ?_ ?_ <;> (repeat' (first | exact Sz.mono (by assumption) (by decide) | exact Sz.mono (B.n (by assumption)) (by decide) | exact Sz.mono (B.d (by assumption)) (by decide) | exact Sz.of (m := 1000000000000) (by omega) (by decide) | exact Sz.of (m := 1000000) (by omega) (by decide) | exact B.mono (by assumption) (by decide) | exact ⟨Sz.of (m := 1000000000000) (by omega) (by decide), Sz.of (m := 1000000000000) (by omega) (by decide)⟩ | apply Sz.mul2 | (refine Sz.add2 ?_ ?_ (by decide)) | (refine Sz.sub2 ?_ ?_ (by decide)) | apply Sz.neg | apply B.mul2 | (refine B.add2 ?_ ?_ (by decide)) | (refine B.sub2 ?_ ?_ (by decide)) | apply B.neg)); done) | (refine nice_ok ?_; (repeat' (first | exact nice_shr | exact nice_spt | exact nice_mpv | exact nice_int | exact nice_bl | exact nice_non | exact nicel_nil | refine nicel_cons ?_ ?_ | refine nice_tup (by simp) ?_ | refine nice_lst (by simp) ?_)); done) | ((repeat' (first | exact Sz.mono (by assumption) (by decide) | exact Sz.mono (B.n (by assumption)) (by decide) | exact Sz.mono (B.d (by assumption)) (by decide) | exact Sz.of (m := 1000000000000) (by omega) (by decide) | exact Sz.of (m := 1000000) (by omega) (by decide) | exact B.mono (by assumption) (by decide) | exact ⟨Sz.of (m := 1000000000000) (by omega) (by decide), Sz.of (m := 1000000000000) (by omega) (by decide)⟩ | apply Sz.mul2 | (refine Sz.add2 ?_ ?_ (by decide)) | (refine Sz.sub2 ?_ ?_ (by decide)) | apply Sz.neg | apply B.mul2 | (refine B.add2 ?_ ?_ (by decide)) | (refine B.sub2 ?_ ?_ (by decide)) | apply B.neg)); done) | (unfold tB; simp; done) | decide)) only [S_done, S_asg, S_asgT, S_par, S_sub, S_expr, S_if, S_for, S_forB, S_ret, S_retN, E_var, E_cst, E_gl, E_yes, E_tup, E_lst, E_mkl, E_bin, E_mkb, E_neg, E_not, E_cmp, E_chain, E_isN, E_isB, E_and, E_or, E_ite, E_idx, E_rev, E_slc, P_non, P_cst, P_var, P_bin, P_neg, P_call, P_blt, E_call, E_blt, E_mkt, E_isi, E_app, Es_nil, Es_cons, E_T, E_alloc, E_lc, E_mkc, LC_nil, LC_cons, LC_B, lcQ, accO, bls, Option.map_some, List.all_cons, List.all_nil, id_eq, Bool.and_true, OkO_some, OkI_t, OkI_f, Ok_ok, OkS_next, OkS_ret, deref_int, deref_bl, deref_str, deref_non, deref_tup, deref_lst, deref_fn, deref_frz, deref_r0, deref_r1, deref_r2, T_bl, T_int, T_tup, T_lst, T_non, B_addI, B_addL, B_addT, B_subI, C_ltI, C_leI, C_gtI, C_geI, C_eqI, C_eqB, C_neB, C_neI, I_tup, I_lst, L_tup, L_lst, L_abs, L_max, L_min, L_int, L_tupL, L_tupT, L_listT, L_listL, L_listF, L_all, L_any, It_L, It_T, It_r1, It_r2, negO_int, intO_int, isBo, setAll, atI_0, atI_1, atI_2, atI_3, get_0, get_1, get_2, get_3, get_4, get_5, get_6, get_7, get_8, get_9, get_10, get_11, get_12, get_13, get_14, get_15, get_16, set_0, set_1, set_2, set_3, set_4, set_5, set_6, set_7, set_8, set_9, set_10, set_11, set_12, set_13, set_14, set_15, set_16, List.map_cons, List.map_nil, List.cons_append, List.nil_append, List.replicate_succ, List.replicate_zero, List.append_nil, List.length_cons, List.length_nil, if_true, if_false, Bool.not_true, Bool.not_false, Bool.false_eq_true, Nat.sub_self, Nat.reduceSub, Nat.reduceAdd, Nat.zero_add, Nat.reduceLeDiff, lim, and_true, true_and, decide_true, decide_false, PV.isRef, wipeE, B_mulI', B_divI', B_modI', decT, decF, I_shr0, I_shr1, D_shr, OkS_for_nil, C_eqR, C_neR, C_eqNil, C_neNil, C_eqI1, C_eqI2, C_eqB1, Rv_tup, Rv_lst, List.reverse_cons, List.reverse_nil, isTy, isNo_shr, isNo_tup, isNo_non, isNo_int, isNo_bl, isNo_str, isNo_lst, isNo_ref, bne_self_eq_false, Bool.bne_true, Bool.bne_false, Bool.true_bne, Bool.false_bne, bindT_nm, bindT_tp, bindT_shr, bindTs_nil, bindTs_cons, Option.bind_some, Int.toNat_natCast, get_17, set_17, get_18, set_18, get_19, set_19, get_20, set_20, E_sst, E_lrg, Rg_l, Rg_t, L_sum, inl, get_21, set_21, get_22, set_22, get_23, set_23, get_24, set_24, get_25, set_25, get_26, set_26, get_27, set_27, get_28, set_28, get_29, set_29, get_30, set_30, E_ktp, E_cnt]
  refine (lw_scale (by decide) (by omega) (by omega) hc2).to fun r st3 ⟨c, d, e, g, hc3⟩ => ?_
  rw [e]; clear e
  simp -dsimp (disch := first | (refine OM.mk ?_; first | omega | assumption | rfl) | ((fail_if_success refine OM.mk ?_); first | assumption | omega | exact deref_int | exact ty_int | exact deref_tup | exact ty_tup | exact D_shr | exact ty_shr | exact deref_bl | exact ty_bl | exact deref_non | exact ty_non | exact deref_str | exact ty_str | exact deref_lst | exact ty_lst | (refine mulOk_sz ?_ ?_ <;> (repeat' (first | exact Sz.mono (by assumption) (by decide) | exact Sz.mono (B.n (by assumption)) (by decide) | exact Sz.mono (B.d (by assumption)) (by decide) | exact Sz.of (m := 1000000000000) (by omega) (by decide) | exact Sz.of (m := 1000000) (by omega) (by decide) | exact B.mono (by assumption) (by decide) | exact ⟨Sz.of (m := 1000000000000) (by omega) (by decide), Sz.of (m := 1000000000000) (by omega) (by decide)⟩ | apply Sz.mul2 | (refine Sz.add2 ?_ ?_ (by decide)) | (refine Sz.sub2 ?_ ?_ (by decide)) | apply Sz.neg | apply B.mul2 | (refine B.add2 ?_ ?_ (by decide)) | (refine B.sub2 ?_ ?_ (by decide)) | apply B.neg)); done) | (refine nice_ok ?_; (repeat' (first | exact nice_shr | exact nice_spt | exact nice_mpv | exact nice_int | exact nice_bl | exact nice_non | exact nicel_nil | refine nicel_cons ?_ ?_ | refine nice_tup (by simp) ?_ | refine nice_lst (by simp) ?_)); done) | ((repeat' (first | exact Sz.mono (by assumption) (by decide) | exact Sz.mono (B.n (by assumption)) (by decide) | exact Sz.mono (B.d (by assumption)) (by decide) | exact Sz.of (m := 1000000000000) (by omega) (by decide) | exact Sz.of (m := 1000000) (by omega) (by decide) | exact B.mono (by assumption) (by decide) | exact ⟨Sz.of (m := 1000000000000) (by omega) (by decide), Sz.of (m := 1000000000000) (by omega) (by decide)⟩ | apply Sz.mul2 | (refine Sz.add2 ?_ ?_ (by decide)) | (refine Sz.sub2 ?_ ?_ (by decide)) | apply Sz.neg | apply B.mul2 | (refine B.add2 ?_ ?_ (by decide)) | (refine B.sub2 ?_ ?_ (by decide)) | apply B.neg)); done) | (unfold tB; simp; done) | decide)) only [S_done, S_asg, S_asgT, S_par, S_sub, S_expr, S_if, S_for, S_forB, S_ret, S_retN, E_var, E_cst, E_gl, E_yes, E_tup, E_lst, E_mkl, E_bin, E_mkb, E_neg, E_not, E_cmp, E_chain, E_isN, E_isB, E_and, E_or, E_ite, E_idx, E_rev, E_slc, P_non, P_cst, P_var, P_bin, P_neg, P_call, P_blt, E_call, E_blt, E_mkt, E_isi, E_app, Es_nil, Es_cons, E_T, E_alloc, E_lc, E_mkc, LC_nil, LC_cons, LC_B, lcQ, accO, bls, Option.map_some, List.all_cons, List.all_nil, id_eq, Bool.and_true, OkO_some, OkI_t, OkI_f, Ok_ok, OkS_next, OkS_ret, deref_int, deref_bl, deref_str, deref_non, deref_tup, deref_lst, deref_fn, deref_frz, deref_r0, deref_r1, deref_r2, T_bl, T_int, T_tup, T_lst, T_non, B_addI, B_addL, B_addT, B_subI, C_ltI, C_leI, C_gtI, C_geI, C_eqI, C_eqB, C_neB, C_neI, I_tup, I_lst, L_tup, L_lst, L_abs, L_max, L_min, L_int, L_tupL, L_tupT, L_listT, L_listL, L_listF, L_all, L_any, It_L, It_T, It_r1, It_r2, negO_int, intO_int, isBo, setAll, atI_0, atI_1, atI_2, atI_3, get_0, get_1, get_2, get_3, get_4, get_5, get_6, get_7, get_8, get_9, get_10, get_11, get_12, get_13, get_14, get_15, get_16, set_0, set_1, set_2, set_3, set_4, set_5, set_6, set_7, set_8, set_9, set_10, set_11, set_12, set_13, set_14, set_15, set_16, List.map_cons, List.map_nil, List.cons_append, List.nil_append, List.replicate_succ, List.replicate_zero, List.append_nil, List.length_cons, List.length_nil, if_true, if_false, Bool.not_true, Bool.not_false, Bool.false_eq_true, Nat.sub_self, Nat.reduceSub, Nat.reduceAdd, Nat.zero_add, Nat.reduceLeDiff, lim, and_true, true_and, decide_true, decide_false, PV.isRef, wipeE, B_mulI', B_divI', B_modI', decT, decF, I_shr0, I_shr1, D_shr, OkS_for_nil, C_eqR, C_neR, C_eqNil, C_neNil, C_eqI1, C_eqI2, C_eqB1, Rv_tup, Rv_lst, List.reverse_cons, List.reverse_nil, isTy, isNo_shr, isNo_tup, isNo_non, isNo_int, isNo_bl, isNo_str, isNo_lst, isNo_ref, bne_self_eq_false, Bool.bne_true, Bool.bne_false, Bool.true_bne, Bool.false_bne, bindT_nm, bindT_tp, bindT_shr, bindTs_nil, bindTs_cons, Option.bind_some, Int.toNat_natCast, get_17, set_17, get_18, set_18, get_19, set_19, get_20, set_20, E_sst, E_lrg, Rg_l, Rg_t, L_sum, inl, get_21, set_21, get_22, set_22, get_23, set_23, get_24, set_24, get_25, set_25, get_26, set_26, get_27, set_27, get_28, set_28, get_29, set_29, get_30, set_30, E_ktp, E_cnt]
  refine (lw_roll (by decide) (by decide) (Sz.of (m := 401) (by decide) (by decide)) hc3).to fun r st4 ⟨i, e, i0, i1, hc4⟩ => ?_
  rw [e]; clear e
  simp -dsimp (disch := first | (refine OM.mk ?_; first | omega | assumption | rfl) | ((fail_if_success refine OM.mk ?_); first | assumption | omega | exact deref_int | exact ty_int | exact deref_tup | exact ty_tup | exact D_shr | exact ty_shr | exact deref_bl | exact ty_bl | exact deref_non | exact ty_non | exact deref_str | exact ty_str | exact deref_lst | exact ty_lst | (refine mulOk_sz ?_ ?_ <;> (repeat' (first | exact Sz.mono (by assumption) (by decide) | exact Sz.mono (B.n (by assumption)) (by decide) | exact Sz.mono (B.d (by assumption)) (by decide) | exact Sz.of (m := 1000000000000) (by omega) (by decide) | exact Sz.of (m := 1000000) (by omega) (by decide) | exact B.mono (by assumption) (by decide) | exact ⟨Sz.of (m := 1000000000000) (by omega) (by decide), Sz.of (m := 1000000000000) (by omega) (by decide)⟩ | apply Sz.mul2 | (refine Sz.add2 ?_ ?_ (by decide)) | (refine Sz.sub2 ?_ ?_ (by decide)) | apply Sz.neg | apply B.mul2 | (refine B.add2 ?_ ?_ (by decide)) | (refine B.sub2 ?_ ?_ (by decide)) | apply B.neg)); done) | (refine nice_ok ?_; (repeat' (first | exact nice_shr | exact nice_spt | exact nice_mpv | exact nice_int | exact nice_bl | exact nice_non | exact nicel_nil | refine nicel_cons ?_ ?_ | refine nice_tup (by simp) ?_ | refine nice_lst (by simp) ?_)); done) | ((repeat' (first | exact Sz.mono (by assumption) (by decide) | exact Sz.mono (B.n (by assumption)) (by decide) | exact Sz.mono (B.d (by assumption)) (by decide) | exact Sz.of (m := 1000000000000) (by omega) (by decide) | exact Sz.of (m := 1000000) (by omega) (by decide) | exact B.mono (by assumption) (by decide) | exact ⟨Sz.of (m := 1000000000000) (by omega) (by decide), Sz.of (m := 1000000000000) (by omega) (by decide)⟩ | apply Sz.mul2 | (refine Sz.add2 ?_ ?_ (by decide)) | (refine Sz.sub2 ?_ ?_ (by decide)) | apply Sz.neg | apply B.mul2 | (refine B.add2 ?_ ?_ (by decide)) | (refine B.sub2 ?_ ?_ (by decide)) | apply B.neg)); done) | (unfold tB; simp; done) | decide)) only [S_done, S_asg, S_asgT, S_par, S_sub, S_expr, S_if, S_for, S_forB, S_ret, S_retN, E_var, E_cst, E_gl, E_yes, E_tup, E_lst, E_mkl, E_bin, E_mkb, E_neg, E_not, E_cmp, E_chain, E_isN, E_isB, E_and, E_or, E_ite, E_idx, E_rev, E_slc, P_non, P_cst, P_var, P_bin, P_neg, P_call, P_blt, E_call, E_blt, E_mkt, E_isi, E_app, Es_nil, Es_cons, E_T, E_alloc, E_lc, E_mkc, LC_nil, LC_cons, LC_B, lcQ, accO, bls, Option.map_some, List.all_cons, List.all_nil, id_eq, Bool.and_true, OkO_some, OkI_t, OkI_f, Ok_ok, OkS_next, OkS_ret, deref_int, deref_bl, deref_str, deref_non, deref_tup, deref_lst, deref_fn, deref_frz, deref_r0, deref_r1, deref_r2, T_bl, T_int, T_tup, T_lst, T_non, B_addI, B_addL, B_addT, B_subI, C_ltI, C_leI, C_gtI, C_geI, C_eqI, C_eqB, C_neB, C_neI, I_tup, I_lst, L_tup, L_lst, L_abs, L_max, L_min, L_int, L_tupL, L_tupT, L_listT, L_listL, L_listF, L_all, L_any, It_L, It_T, It_r1, It_r2, negO_int, intO_int, isBo, setAll, atI_0, atI_1, atI_2, atI_3, get_0, get_1, get_2, get_3, get_4, get_5, get_6, get_7, get_8, get_9, get_10, get_11, get_12, get_13, get_14, get_15, get_16, set_0, set_1, set_2, set_3, set_4, set_5, set_6, set_7, set_8, set_9, set_10, set_11, set_12, set_13, set_14, set_15, set_16, List.map_cons, List.map_nil, List.cons_append, List.nil_append, List.replicate_succ, List.replicate_zero, List.append_nil, List.length_cons, List.length_nil, if_true, if_false, Bool.not_true, Bool.not_false, Bool.false_eq_true, Nat.sub_self, Nat.reduceSub, Nat.reduceAdd, Nat.zero_add, Nat.reduceLeDiff, lim, and_true, true_and, decide_true, decide_false, PV.isRef, wipeE, B_mulI', B_divI', B_modI', decT, decF, I_shr0, I_shr1, D_shr, OkS_for_nil, C_eqR, C_neR, C_eqNil, C_neNil, C_eqI1, C_eqI2, C_eqB1, Rv_tup, Rv_lst, List.reverse_cons, List.reverse_nil, isTy, isNo_shr, isNo_tup, isNo_non, isNo_int, isNo_bl, isNo_str, isNo_lst, isNo_ref, bne_self_eq_false, Bool.bne_true, Bool.bne_false, Bool.true_bne, Bool.false_bne, bindT_nm, bindT_tp, bindT_shr, bindTs_nil, bindTs_cons, Option.bind_some, Int.toNat_natCast, get_17, set_17, get_18, set_18, get_19, set_19, get_20, set_20, E_sst, E_lrg, Rg_l, Rg_t, L_sum, inl, get_21, set_21, get_22, set_22, get_23, set_23, get_24, set_24, get_25, set_25, get_26, set_26, get_27, set_27, get_28, set_28, get_29, set_29, get_30, set_30, E_ktp, E_cnt]
  refine (lw_some (by decide) (by decide) (by decide) hc4).to fun r st5 ⟨e, hc5⟩ => ?_
  obtain ⟨w, e, w1, w2⟩ := roll25 e
  rw [e]; clear e
  simp -dsimp (disch := first | (refine OM.mk ?_; first | omega | assumption | rfl) | ((fail_if_success refine OM.mk ?_); first | assumption | omega | exact deref_int | exact ty_int | exact deref_tup | exact ty_tup | exact D_shr | exact ty_shr | exact deref_bl | exact ty_bl | exact deref_non | exact ty_non | exact deref_str | exact ty_str | exact deref_lst | exact ty_lst | (refine mulOk_sz ?_ ?_ <;> (repeat' (first | exact Sz.mono (by assumption) (by decide) | exact Sz.mono (B.n (by assumption)) (by decide) | exact Sz.mono (B.d (by assumption)) (by decide) | exact Sz.of (m := 1000000000000) (by omega) (by decide) | exact Sz.of (m := 1000000) (by omega) (by decide) | exact B.mono (by assumption) (by decide) | exact ⟨Sz.of (m := 1000000000000) (by omega) (by decide), Sz.of (m := 1000000000000) (by omega) (by decide)⟩ | apply Sz.mul2 | (refine Sz.add2 ?_ ?_ (by decide)) | (refine Sz.sub2 ?_ ?_ (by decide)) | apply Sz.neg | apply B.mul2 | (refine B.add2 ?_ ?_ (by decide)) | (refine B.sub2 ?_ ?_ (by decide)) | apply B.neg)); done) | (refine nice_ok ?_; (repeat' (first | exact nice_shr | exact nice_spt | exact nice_mpv | exact nice_int | exact nice_bl | exact nice_non | exact nicel_nil | refine nicel_cons ?_ ?_ | refine nice_tup (by simp) ?_ | refine nice_lst (by simp) ?_)); done) | ((repeat' (first | exact Sz.mono (by assumption) (by decide) | exact Sz.mono (B.n (by assumption)) (by decide) | exact Sz.mono (B.d (by assumption)) (by decide) | exact Sz.of (m := 1000000000000) (by omega) (by decide) | exact Sz.of (m := 1000000) (by omega) (by decide) | exact B.mono (by assumption) (by decide) | exact ⟨Sz.of (m := 1000000000000) (by omega) (by decide), Sz.of (m := 1000000000000) (by omega) (by decide)⟩ | apply Sz.mul2 | (refine Sz.add2 ?_ ?_ (by decide)) | (refine Sz.sub2 ?_ ?_ (by decide)) | apply Sz.neg | apply B.mul2 | (refine B.add2 ?_ ?_ (by decide)) | (refine B.sub2 ?_ ?_ (by decide)) | apply B.neg)); done) | (unfold tB; simp; done) | decide)) only [S_done, S_asg, S_asgT, S_par, S_sub, S_expr, S_if, S_for, S_forB, S_ret, S_retN, E_var, E_cst, E_gl, E_yes, E_tup, E_lst, E_mkl, E_bin, E_mkb, E_neg, E_not, E_cmp, E_chain, E_isN, E_isB, E_and, E_or, E_ite, E_idx, E_rev, E_slc, P_non, P_cst, P_var, P_bin, P_neg, P_call, P_blt, E_call, E_blt, E_mkt, E_isi, E_app, Es_nil, Es_cons, E_T, E_alloc, E_lc, E_mkc, LC_nil, LC_cons, LC_B, lcQ, accO, bls, Option.map_some, List.all_cons, List.all_nil, id_eq, Bool.and_true, OkO_some, OkI_t, OkI_f, Ok_ok, OkS_next, OkS_ret, deref_int, deref_bl, deref_str, deref_non, deref_tup, deref_lst, deref_fn, deref_frz, deref_r0, deref_r1, deref_r2, T_bl, T_int, T_tup, T_lst, T_non, B_addI, B_addL, B_addT, B_subI, C_ltI, C_leI, C_gtI, C_geI, C_eqI, C_eqB, C_neB, C_neI, I_tup, I_lst, L_tup, L_lst, L_abs, L_max, L_min, L_int, L_tupL, L_tupT, L_listT, L_listL, L_listF, L_all, L_any, It_L, It_T, It_r1, It_r2, negO_int, intO_int, isBo, setAll, atI_0, atI_1, atI_2, atI_3, get_0, get_1, get_2, get_3, get_4, get_5, get_6, get_7, get_8, get_9, get_10, get_11, get_12, get_13, get_14, get_15, get_16, set_0, set_1, set_2, set_3, set_4, set_5, set_6, set_7, set_8, set_9, set_10, set_11, set_12, set_13, set_14, set_15, set_16, List.map_cons, List.map_nil, List.cons_append, List.nil_append, List.replicate_succ, List.replicate_zero, List.append_nil, List.length_cons, List.length_nil, if_true, if_false, Bool.not_true, Bool.not_false, Bool.false_eq_true, Nat.sub_self, Nat.reduceSub, Nat.reduceAdd, Nat.zero_add, Nat.reduceLeDiff, lim, and_true, true_and, decide_true, decide_false, PV.isRef, wipeE, B_mulI', B_divI', B_modI', decT, decF, I_shr0, I_shr1, D_shr, OkS_for_nil, C_eqR, C_neR, C_eqNil, C_neNil, C_eqI1, C_eqI2, C_eqB1, Rv_tup, Rv_lst, List.reverse_cons, List.reverse_nil, isTy, isNo_shr, isNo_tup, isNo_non, isNo_int, isNo_bl, isNo_str, isNo_lst, isNo_ref, bne_self_eq_false, Bool.bne_true, Bool.bne_false, Bool.true_bne, Bool.false_bne, bindT_nm, bindT_tp, bindT_shr, bindTs_nil, bindTs_cons, Option.bind_some, Int.toNat_natCast, get_17, set_17, get_18, set_18, get_19, set_19, get_20, set_20, E_sst, E_lrg, Rg_l, Rg_t, L_sum, inl, get_21, set_21, get_22, set_22, get_23, set_23, get_24, set_24, get_25, set_25, get_26, set_26, get_27, set_27, get_28, set_28, get_29, set_29, get_30, set_30, E_ktp, E_cnt]
  refine (lw_roll (by decide) w1 (Sz.of (m := 25) (by omega) (by decide)) hc5).to fun r st6 ⟨j, e, j0, j1, hc6⟩ => ?_
  rw [e]; clear e
  simp -dsimp (disch := first | (refine OM.mk ?_; first | omega | assumption | rfl) | ((fail_if_success refine OM.mk ?_); first | assumption | omega | exact deref_int | exact ty_int | exact deref_tup | exact ty_tup | exact D_shr | exact ty_shr | exact deref_bl | exact ty_bl | exact deref_non | exact ty_non | exact deref_str | exact ty_str | exact deref_lst | exact ty_lst | (refine mulOk_sz ?_ ?_ <;> (repeat' (first | exact Sz.mono (by assumption) (by decide) | exact Sz.mono (B.n (by assumption)) (by decide) | exact Sz.mono (B.d (by assumption)) (by decide) | exact Sz.of (m := 1000000000000) (by omega) (by decide) | exact Sz.of (m := 1000000) (by omega) (by decide) | exact B.mono (by assumption) (by decide) | exact ⟨Sz.of (m := 1000000000000) (by omega) (by decide), Sz.of (m := 1000000000000) (by omega) (by decide)⟩ | apply Sz.mul2 | (refine Sz.add2 ?_ ?_ (by decide)) | (refine Sz.sub2 ?_ ?_ (by decide)) | apply Sz.neg | apply B.mul2 | (refine B.add2 ?_ ?_ (by decide)) | (refine B.sub2 ?_ ?_ (by decide)) | apply B.neg)); done) | (refine nice_ok ?_; (repeat' (first | exact nice_shr | exact nice_spt | exact nice_mpv | exact nice_int | exact nice_bl | exact nice_non | exact nicel_nil | refine nicel_cons ?_ ?_ | refine nice_tup (by simp) ?_ | refine nice_lst (by simp) ?_)); done) | ((repeat' (first | exact Sz.mono (by assumption) (by decide) | exact Sz.mono (B.n (by assumption)) (by decide) | exact Sz.mono (B.d (by assumption)) (by decide) | exact Sz.of (m := 1000000000000) (by omega) (by decide) | exact Sz.of (m := 1000000) (by omega) (by decide) | exact B.mono (by assumption) (by decide) | exact ⟨Sz.of (m := 1000000000000) (by omega) (by decide), Sz.of (m := 1000000000000) (by omega) (by decide)⟩ | apply Sz.mul2 | (refine Sz.add2 ?_ ?_ (by decide)) | (refine Sz.sub2 ?_ ?_ (by decide)) | apply Sz.neg | apply B.mul2 | (refine B.add2 ?_ ?_ (by decide)) | (refine B.sub2 ?_ ?_ (by decide)) | apply B.neg)); done) | (unfold tB; simp; done) | decide)) only [S_done, S_asg, S_asgT, S_par, S_sub, S_expr, S_if, S_for, S_forB, S_ret, S_retN, E_var, E_cst, E_gl, E_yes, E_tup, E_lst, E_mkl, E_bin, E_mkb, E_neg, E_not, E_cmp, E_chain, E_isN, E_isB, E_and, E_or, E_ite, E_idx, E_rev, E_slc, P_non, P_cst, P_var, P_bin, P_neg, P_call, P_blt, E_call, E_blt, E_mkt, E_isi, E_app, Es_nil, Es_cons, E_T, E_alloc, E_lc, E_mkc, LC_nil, LC_cons, LC_B, lcQ, accO, bls, Option.map_some, List.all_cons, List.all_nil, id_eq, Bool.and_true, OkO_some, OkI_t, OkI_f, Ok_ok, OkS_next, OkS_ret, deref_int, deref_bl, deref_str, deref_non, deref_tup, deref_lst, deref_fn, deref_frz, deref_r0, deref_r1, deref_r2, T_bl, T_int, T_tup, T_lst, T_non, B_addI, B_addL, B_addT, B_subI, C_ltI, C_leI, C_gtI, C_geI, C_eqI, C_eqB, C_neB, C_neI, I_tup, I_lst, L_tup, L_lst, L_abs, L_max, L_min, L_int, L_tupL, L_tupT, L_listT, L_listL, L_listF, L_all, L_any, It_L, It_T, It_r1, It_r2, negO_int, intO_int, isBo, setAll, atI_0, atI_1, atI_2, atI_3, get_0, get_1, get_2, get_3, get_4, get_5, get_6, get_7, get_8, get_9, get_10, get_11, get_12, get_13, get_14, get_15, get_16, set_0, set_1, set_2, set_3, set_4, set_5, set_6, set_7, set_8, set_9, set_10, set_11, set_12, set_13, set_14, set_15, set_16, List.map_cons, List.map_nil, List.cons_append, List.nil_append, List.replicate_succ, List.replicate_zero, List.append_nil, List.length_cons, List.length_nil, if_true, if_false, Bool.not_true, Bool.not_false, Bool.false_eq_true, Nat.sub_self, Nat.reduceSub, Nat.reduceAdd, Nat.zero_add, Nat.reduceLeDiff, lim, and_true, true_and, decide_true, decide_false, PV.isRef, wipeE, B_mulI', B_divI', B_modI', decT, decF, I_shr0, I_shr1, D_shr, OkS_for_nil, C_eqR, C_neR, C_eqNil, C_neNil, C_eqI1, C_eqI2, C_eqB1, Rv_tup, Rv_lst, List.reverse_cons, List.reverse_nil, isTy, isNo_shr, isNo_tup, isNo_non, isNo_int, isNo_bl, isNo_str, isNo_lst, isNo_ref, bne_self_eq_false, Bool.bne_true, Bool.bne_false, Bool.true_bne, Bool.false_bne, bindT_nm, bindT_tp, bindT_shr, bindTs_nil, bindTs_cons, Option.bind_some, Int.toNat_natCast, get_17, set_17, get_18, set_18, get_19, set_19, get_20, set_20, E_sst, E_lrg, Rg_l, Rg_t, L_sum, inl, get_21, set_21, get_22, set_22, get_23, set_23, get_24, set_24, get_25, set_25, get_26, set_26, get_27, set_27, get_28, set_28, get_29, set_29, get_30, set_30, E_ktp, E_cnt]
  obtain ⟨lo, e⟩ : ∃ lo, i - 200 = lo := ⟨_, rfl⟩
  rw [e]
  obtain ⟨hi, e2⟩ : ∃ hi, lo + j = hi := ⟨_, rfl⟩
  rw [e2]
  have hl := h.l; have hm := h.m; have hh := h.h
  have gl := g.l; have gm := g.m; have gh := g.h
  have lo1 : -200 ≤ lo := by omega
  have lo2 : lo ≤ 200 := by omega
  have hi1 : lo ≤ hi := by omega
  have hi2 : hi - lo ≤ 24 := by omega
  clear e e2 i0 i1 j0 j1 w1 w2
  have ra : ∀ k, k ≤ 24 → (nr (rowR a b c d lo k)).natAbs ≤ 1000000 := fun k hk => row_abs hm (by omega) (by omega) (by omega) (by omega) (by omega)
  have hfar : nrE a b c d lo hi ≤ nr0 a b c d lo + 60 * 24 := by
    have := st_far (f := fun i => nr (rowR a b c d lo i)) (n := 25) (s := 60) (fun i _ => tab_far hm (by omega) i) ((hi + 1 - lo).toNat - 1) (by omega)
    have e : nrE a b c d lo hi = nr (rowR a b c d lo ((hi + 1 - lo).toNat - 1)) := rfl
    have e2 : nr0 a b c d lo = nr (rowR a b c d lo 0) := rfl
    omega
  have b0 : (nr0 a b c d lo).natAbs ≤ 1000000 := ra 0 (by decide)
  have bE : (nrE a b c d lo hi).natAbs ≤ 1000000 := ra _ (by omega)
  have hs := h.fsc (by omega)
  have gs := g.fsc (by omega)
  clear ra hl hh gl gh h g f1 f2
  have hr : rng lo hi := ⟨by omega, hi1, by omega, by omega⟩
  have rg := rg2_ok hr
  have l1 : 1 ≤ (hi + 1 - lo).toNat := by omega
  have l0 : 0 < (hi + 1 - lo).toNat := by omega
  have := hs.a; have := hs.b; have := gs.a; have := gs.b
  have rowB : ∀ k, k < (hi + 1 - lo).toNat → B 900 (rowR a b c d lo k) := fun k hk => by
    have hB := int_B (j := lo + (k : Nat)) (by omega)
    exact (turn_B hs gs hB).mono
  simp -dsimp (disch := first | (refine OM.mk ?_; first | omega | assumption | rfl) | ((fail_if_success refine OM.mk ?_); first | assumption | omega | exact deref_int | exact ty_int | exact deref_tup | exact ty_tup | exact D_shr | exact ty_shr | exact deref_bl | exact ty_bl | exact deref_non | exact ty_non | exact deref_str | exact ty_str | exact deref_lst | exact ty_lst | (refine mulOk_sz ?_ ?_ <;> (repeat' (first | exact Sz.mono (by assumption) (by decide) | exact Sz.mono (B.n (by assumption)) (by decide) | exact Sz.mono (B.d (by assumption)) (by decide) | exact Sz.of (m := 1000000000000) (by omega) (by decide) | exact Sz.of (m := 1000000) (by omega) (by decide) | exact B.mono (by assumption) (by decide) | exact ⟨Sz.of (m := 1000000000000) (by omega) (by decide), Sz.of (m := 1000000000000) (by omega) (by decide)⟩ | apply Sz.mul2 | (refine Sz.add2 ?_ ?_ (by decide)) | (refine Sz.sub2 ?_ ?_ (by decide)) | apply Sz.neg | apply B.mul2 | (refine B.add2 ?_ ?_ (by decide)) | (refine B.sub2 ?_ ?_ (by decide)) | apply B.neg)); done) | (refine nice_ok ?_; (repeat' (first | exact nice_shr | exact nice_spt | exact nice_mpv | exact nice_int | exact nice_bl | exact nice_non | exact nicel_nil | refine nicel_cons ?_ ?_ | refine nice_tup (by simp) ?_ | refine nice_lst (by simp) ?_)); done) | ((repeat' (first | exact Sz.mono (by assumption) (by decide) | exact Sz.mono (B.n (by assumption)) (by decide) | exact Sz.mono (B.d (by assumption)) (by decide) | exact Sz.of (m := 1000000000000) (by omega) (by decide) | exact Sz.of (m := 1000000) (by omega) (by decide) | exact B.mono (by assumption) (by decide) | exact ⟨Sz.of (m := 1000000000000) (by omega) (by decide), Sz.of (m := 1000000000000) (by omega) (by decide)⟩ | apply Sz.mul2 | (refine Sz.add2 ?_ ?_ (by decide)) | (refine Sz.sub2 ?_ ?_ (by decide)) | apply Sz.neg | apply B.mul2 | (refine B.add2 ?_ ?_ (by decide)) | (refine B.sub2 ?_ ?_ (by decide)) | apply B.neg)); done) | (unfold tB; simp; done) | decide)) only [S_done, S_asg, S_asgT, S_par, S_sub, S_expr, S_if, S_for, S_forB, S_ret, S_retN, E_var, E_cst, E_gl, E_yes, E_tup, E_lst, E_mkl, E_bin, E_mkb, E_neg, E_not, E_cmp, E_chain, E_isN, E_isB, E_and, E_or, E_ite, E_idx, E_rev, E_slc, P_non, P_cst, P_var, P_bin, P_neg, P_call, P_blt, E_call, E_blt, E_mkt, E_isi, E_app, Es_nil, Es_cons, E_T, E_alloc, E_lc, E_mkc, LC_nil, LC_cons, LC_B, lcQ, accO, bls, Option.map_some, List.all_cons, List.all_nil, id_eq, Bool.and_true, OkO_some, OkI_t, OkI_f, Ok_ok, OkS_next, OkS_ret, deref_int, deref_bl, deref_str, deref_non, deref_tup, deref_lst, deref_fn, deref_frz, deref_r0, deref_r1, deref_r2, T_bl, T_int, T_tup, T_lst, T_non, B_addI, B_addL, B_addT, B_subI, C_ltI, C_leI, C_gtI, C_geI, C_eqI, C_eqB, C_neB, C_neI, I_tup, I_lst, L_tup, L_lst, L_abs, L_max, L_min, L_int, L_tupL, L_tupT, L_listT, L_listL, L_listF, L_all, L_any, It_L, It_T, It_r1, It_r2, negO_int, intO_int, isBo, setAll, atI_0, atI_1, atI_2, atI_3, get_0, get_1, get_2, get_3, get_4, get_5, get_6, get_7, get_8, get_9, get_10, get_11, get_12, get_13, get_14, get_15, get_16, set_0, set_1, set_2, set_3, set_4, set_5, set_6, set_7, set_8, set_9, set_10, set_11, set_12, set_13, set_14, set_15, set_16, List.map_cons, List.map_nil, List.cons_append, List.nil_append, List.replicate_succ, List.replicate_zero, List.append_nil, List.length_cons, List.length_nil, if_true, if_false, Bool.not_true, Bool.not_false, Bool.false_eq_true, Nat.sub_self, Nat.reduceSub, Nat.reduceAdd, Nat.zero_add, Nat.reduceLeDiff, lim, and_true, true_and, decide_true, decide_false, PV.isRef, wipeE, B_mulI', B_divI', B_modI', decT, decF, I_shr0, I_shr1, D_shr, OkS_for_nil, C_eqR, C_neR, C_eqNil, C_neNil, C_eqI1, C_eqI2, C_eqB1, Rv_tup, Rv_lst, List.reverse_cons, List.reverse_nil, isTy, isNo_shr, isNo_tup, isNo_non, isNo_int, isNo_bl, isNo_str, isNo_lst, isNo_ref, bne_self_eq_false, Bool.bne_true, Bool.bne_false, Bool.true_bne, Bool.false_bne, bindT_nm, bindT_tp, bindT_shr, bindTs_nil, bindTs_cons, Option.bind_some, Int.toNat_natCast, get_17, set_17, get_18, set_18, get_19, set_19, get_20, set_20, E_sst, E_lrg, Rg_l, Rg_t, L_sum, inl, get_21, set_21, get_22, set_22, get_23, set_23, get_24, set_24, get_25, set_25, get_26, set_26, get_27, set_27, get_28, set_28, get_29, set_29, get_30, set_30, E_ktp, E_cnt, rg, rgV_ra]
  refine Ok_eq (lc_rl (n := (hi + 1 - lo).toNat) (g := fun i => shr (rowR a b c d lo i)) (by omega) fun i hi3 => lcB_ok ?_) ?_
  · have hB := int_B (j := lo + (i : Nat)) (by omega)
    have hB3 : B 300 ((lo + (i : Nat) : Int) : Rat) := hB.mono
    simp -dsimp (disch := first | (refine OM.mk ?_; first | omega | assumption | rfl) | ((fail_if_success refine OM.mk ?_); first | assumption | omega | exact deref_int | exact ty_int | exact deref_tup | exact ty_tup | exact D_shr | exact ty_shr | exact deref_bl | exact ty_bl | exact deref_non | exact ty_non | exact deref_str | exact ty_str | exact deref_lst | exact ty_lst | (refine mulOk_sz ?_ ?_ <;> (repeat' (first | exact Sz.mono (by assumption) (by decide) | exact Sz.mono (B.n (by assumption)) (by decide) | exact Sz.mono (B.d (by assumption)) (by decide) | exact Sz.of (m := 1000000000000) (by omega) (by decide) | exact Sz.of (m := 1000000) (by omega) (by decide) | exact B.mono (by assumption) (by decide) | exact ⟨Sz.of (m := 1000000000000) (by omega) (by decide), Sz.of (m := 1000000000000) (by omega) (by decide)⟩ | apply Sz.mul2 | (refine Sz.add2 ?_ ?_ (by decide)) | (refine Sz.sub2 ?_ ?_ (by decide)) | apply Sz.neg | apply B.mul2 | (refine B.add2 ?_ ?_ (by decide)) | (refine B.sub2 ?_ ?_ (by decide)) | apply B.neg)); done) | (refine nice_ok ?_; (repeat' (first | exact nice_shr | exact nice_spt | exact nice_mpv | exact nice_int | exact nice_bl | exact nice_non | exact nicel_nil | refine nicel_cons ?_ ?_ | refine nice_tup (by simp) ?_ | refine nice_lst (by simp) ?_)); done) | ((repeat' (first | exact Sz.mono (by assumption) (by decide) | exact Sz.mono (B.n (by assumption)) (by decide) | exact Sz.mono (B.d (by assumption)) (by decide) | exact Sz.of (m := 1000000000000) (by omega) (by decide) | exact Sz.of (m := 1000000) (by omega) (by decide) | exact B.mono (by assumption) (by decide) | exact ⟨Sz.of (m := 1000000000000) (by omega) (by decide), Sz.of (m := 1000000000000) (by omega) (by decide)⟩ | apply Sz.mul2 | (refine Sz.add2 ?_ ?_ (by decide)) | (refine Sz.sub2 ?_ ?_ (by decide)) | apply Sz.neg | apply B.mul2 | (refine B.add2 ?_ ?_ (by decide)) | (refine B.sub2 ?_ ?_ (by decide)) | apply B.neg)); done) | (unfold tB; simp; done) | decide)) only [S_done, S_asg, S_asgT, S_par, S_sub, S_expr, S_if, S_for, S_forB, S_ret, S_retN, E_var, E_cst, E_gl, E_yes, E_tup, E_lst, E_mkl, E_bin, E_mkb, E_neg, E_not, E_cmp, E_chain, E_isN, E_isB, E_and, E_or, E_ite, E_idx, E_rev, E_slc, P_non, P_cst, P_var, P_bin, P_neg, P_call, P_blt, E_call, E_blt, E_mkt, E_isi, E_app, Es_nil, Es_cons, E_T, E_alloc, E_lc, E_mkc, LC_nil, LC_cons, LC_B, lcQ, accO, bls, Option.map_some, List.all_cons, List.all_nil, id_eq, Bool.and_true, OkO_some, OkI_t, OkI_f, Ok_ok, OkS_next, OkS_ret, deref_int, deref_bl, deref_str, deref_non, deref_tup, deref_lst, deref_fn, deref_frz, deref_r0, deref_r1, deref_r2, T_bl, T_int, T_tup, T_lst, T_non, B_addI, B_addL, B_addT, B_subI, C_ltI, C_leI, C_gtI, C_geI, C_eqI, C_eqB, C_neB, C_neI, I_tup, I_lst, L_tup, L_lst, L_abs, L_max, L_min, L_int, L_tupL, L_tupT, L_listT, L_listL, L_listF, L_all, L_any, It_L, It_T, It_r1, It_r2, negO_int, intO_int, isBo, setAll, atI_0, atI_1, atI_2, atI_3, get_0, get_1, get_2, get_3, get_4, get_5, get_6, get_7, get_8, get_9, get_10, get_11, get_12, get_13, get_14, get_15, get_16, set_0, set_1, set_2, set_3, set_4, set_5, set_6, set_7, set_8, set_9, set_10, set_11, set_12, set_13, set_14, set_15, set_16, List.map_cons, List.map_nil, List.cons_append, List.nil_append, List.replicate_succ, List.replicate_zero, List.append_nil, List.length_cons, List.length_nil, if_true, if_false, Bool.not_true, Bool.not_false, Bool.false_eq_true, Nat.sub_self, Nat.reduceSub, Nat.reduceAdd, Nat.zero_add, Nat.reduceLeDiff, lim, and_true, true_and, decide_true, decide_false, PV.isRef, wipeE, B_mulI', B_divI', B_modI', decT, decF, I_shr0, I_shr1, D_shr, OkS_for_nil, C_eqR, C_neR, C_eqNil, C_neNil, C_eqI1, C_eqI2, C_eqB1, Rv_tup, Rv_lst, List.reverse_cons, List.reverse_nil, isTy, isNo_shr, isNo_tup, isNo_non, isNo_int, isNo_bl, isNo_str, isNo_lst, isNo_ref, bne_self_eq_false, Bool.bne_true, Bool.bne_false, Bool.true_bne, Bool.false_bne, bindT_nm, bindT_tp, bindT_shr, bindTs_nil, bindTs_cons, Option.bind_some, Int.toNat_natCast, get_17, set_17, get_18, set_18, get_19, set_19, get_20, set_20, E_sst, E_lrg, Rg_l, Rg_t, L_sum, inl, get_21, set_21, get_22, set_22, get_23, set_23, get_24, set_24, get_25, set_25, get_26, set_26, get_27, set_27, get_28, set_28, get_29, set_29, get_30, set_30, E_ktp, E_cnt, shr_one (j := lo + (i : Nat)), lw_turned_to]
    rfl
  simp -dsimp (disch := first | (refine OM.mk ?_; first | omega | assumption | rfl) | ((fail_if_success refine OM.mk ?_); first | assumption | omega | exact deref_int | exact ty_int | exact deref_tup | exact ty_tup | exact D_shr | exact ty_shr | exact deref_bl | exact ty_bl | exact deref_non | exact ty_non | exact deref_str | exact ty_str | exact deref_lst | exact ty_lst | (refine mulOk_sz ?_ ?_ <;> (repeat' (first | exact Sz.mono (by assumption) (by decide) | exact Sz.mono (B.n (by assumption)) (by decide) | exact Sz.mono (B.d (by assumption)) (by decide) | exact Sz.of (m := 1000000000000) (by omega) (by decide) | exact Sz.of (m := 1000000) (by omega) (by decide) | exact B.mono (by assumption) (by decide) | exact ⟨Sz.of (m := 1000000000000) (by omega) (by decide), Sz.of (m := 1000000000000) (by omega) (by decide)⟩ | apply Sz.mul2 | (refine Sz.add2 ?_ ?_ (by decide)) | (refine Sz.sub2 ?_ ?_ (by decide)) | apply Sz.neg | apply B.mul2 | (refine B.add2 ?_ ?_ (by decide)) | (refine B.sub2 ?_ ?_ (by decide)) | apply B.neg)); done) | (refine nice_ok ?_; (repeat' (first | exact nice_shr | exact nice_spt | exact nice_mpv | exact nice_int | exact nice_bl | exact nice_non | exact nicel_nil | refine nicel_cons ?_ ?_ | refine nice_tup (by simp) ?_ | refine nice_lst (by simp) ?_)); done) | ((repeat' (first | exact Sz.mono (by assumption) (by decide) | exact Sz.mono (B.n (by assumption)) (by decide) | exact Sz.mono (B.d (by assumption)) (by decide) | exact Sz.of (m := 1000000000000) (by omega) (by decide) | exact Sz.of (m := 1000000) (by omega) (by decide) | exact B.mono (by assumption) (by decide) | exact ⟨Sz.of (m := 1000000000000) (by omega) (by decide), Sz.of (m := 1000000000000) (by omega) (by decide)⟩ | apply Sz.mul2 | (refine Sz.add2 ?_ ?_ (by decide)) | (refine Sz.sub2 ?_ ?_ (by decide)) | apply Sz.neg | apply B.mul2 | (refine B.add2 ?_ ?_ (by decide)) | (refine B.sub2 ?_ ?_ (by decide)) | apply B.neg)); done) | (unfold tB; simp; done) | decide)) only [S_done, S_asg, S_asgT, S_par, S_sub, S_expr, S_if, S_for, S_forB, S_ret, S_retN, E_var, E_cst, E_gl, E_yes, E_tup, E_lst, E_mkl, E_bin, E_mkb, E_neg, E_not, E_cmp, E_chain, E_isN, E_isB, E_and, E_or, E_ite, E_idx, E_rev, E_slc, P_non, P_cst, P_var, P_bin, P_neg, P_call, P_blt, E_call, E_blt, E_mkt, E_isi, E_app, Es_nil, Es_cons, E_T, E_alloc, E_lc, E_mkc, LC_nil, LC_cons, LC_B, lcQ, accO, bls, Option.map_some, List.all_cons, List.all_nil, id_eq, Bool.and_true, OkO_some, OkI_t, OkI_f, Ok_ok, OkS_next, OkS_ret, deref_int, deref_bl, deref_str, deref_non, deref_tup, deref_lst, deref_fn, deref_frz, deref_r0, deref_r1, deref_r2, T_bl, T_int, T_tup, T_lst, T_non, B_addI, B_addL, B_addT, B_subI, C_ltI, C_leI, C_gtI, C_geI, C_eqI, C_eqB, C_neB, C_neI, I_tup, I_lst, L_tup, L_lst, L_abs, L_max, L_min, L_int, L_tupL, L_tupT, L_listT, L_listL, L_listF, L_all, L_any, It_L, It_T, It_r1, It_r2, negO_int, intO_int, isBo, setAll, atI_0, atI_1, atI_2, atI_3, get_0, get_1, get_2, get_3, get_4, get_5, get_6, get_7, get_8, get_9, get_10, get_11, get_12, get_13, get_14, get_15, get_16, set_0, set_1, set_2, set_3, set_4, set_5, set_6, set_7, set_8, set_9, set_10, set_11, set_12, set_13, set_14, set_15, set_16, List.map_cons, List.map_nil, List.cons_append, List.nil_append, List.replicate_succ, List.replicate_zero, List.append_nil, List.length_cons, List.length_nil, if_true, if_false, Bool.not_true, Bool.not_false, Bool.false_eq_true, Nat.sub_self, Nat.reduceSub, Nat.reduceAdd, Nat.zero_add, Nat.reduceLeDiff, lim, and_true, true_and, decide_true, decide_false, PV.isRef, wipeE, B_mulI', B_divI', B_modI', decT, decF, I_shr0, I_shr1, D_shr, OkS_for_nil, C_eqR, C_neR, C_eqNil, C_neNil, C_eqI1, C_eqI2, C_eqB1, Rv_tup, Rv_lst, List.reverse_cons, List.reverse_nil, isTy, isNo_shr, isNo_tup, isNo_non, isNo_int, isNo_bl, isNo_str, isNo_lst, isNo_ref, bne_self_eq_false, Bool.bne_true, Bool.bne_false, Bool.true_bne, Bool.false_bne, bindT_nm, bindT_tp, bindT_shr, bindTs_nil, bindTs_cons, Option.bind_some, Int.toNat_natCast, get_17, set_17, get_18, set_18, get_19, set_19, get_20, set_20, E_sst, E_lrg, Rg_l, Rg_t, L_sum, inl, get_21, set_21, get_22, set_22, get_23, set_23, get_24, set_24, get_25, set_25, get_26, set_26, get_27, set_27, get_28, set_28, get_29, set_29, get_30, set_30, E_ktp, E_cnt]
  refine Ok_eq (lc_rl (n := (hi + 1 - lo).toNat) (g := fun i => .int (nr (rowR a b c d lo i))) (by omega) fun i hi3 => lcB_ok ?_) ?_
  · have := rowB i hi3
    simp -dsimp (disch := first | (refine OM.mk ?_; first | omega | assumption | rfl) | ((fail_if_success refine OM.mk ?_); first | assumption | omega | exact deref_int | exact ty_int | exact deref_tup | exact ty_tup | exact D_shr | exact ty_shr | exact deref_bl | exact ty_bl | exact deref_non | exact ty_non | exact deref_str | exact ty_str | exact deref_lst | exact ty_lst | (refine mulOk_sz ?_ ?_ <;> (repeat' (first | exact Sz.mono (by assumption) (by decide) | exact Sz.mono (B.n (by assumption)) (by decide) | exact Sz.mono (B.d (by assumption)) (by decide) | exact Sz.of (m := 1000000000000) (by omega) (by decide) | exact Sz.of (m := 1000000) (by omega) (by decide) | exact B.mono (by assumption) (by decide) | exact ⟨Sz.of (m := 1000000000000) (by omega) (by decide), Sz.of (m := 1000000000000) (by omega) (by decide)⟩ | apply Sz.mul2 | (refine Sz.add2 ?_ ?_ (by decide)) | (refine Sz.sub2 ?_ ?_ (by decide)) | apply Sz.neg | apply B.mul2 | (refine B.add2 ?_ ?_ (by decide)) | (refine B.sub2 ?_ ?_ (by decide)) | apply B.neg)); done) | (refine nice_ok ?_; (repeat' (first | exact nice_shr | exact nice_spt | exact nice_mpv | exact nice_int | exact nice_bl | exact nice_non | exact nicel_nil | refine nicel_cons ?_ ?_ | refine nice_tup (by simp) ?_ | refine nice_lst (by simp) ?_)); done) | ((repeat' (first | exact Sz.mono (by assumption) (by decide) | exact Sz.mono (B.n (by assumption)) (by decide) | exact Sz.mono (B.d (by assumption)) (by decide) | exact Sz.of (m := 1000000000000) (by omega) (by decide) | exact Sz.of (m := 1000000) (by omega) (by decide) | exact B.mono (by assumption) (by decide) | exact ⟨Sz.of (m := 1000000000000) (by omega) (by decide), Sz.of (m := 1000000000000) (by omega) (by decide)⟩ | apply Sz.mul2 | (refine Sz.add2 ?_ ?_ (by decide)) | (refine Sz.sub2 ?_ ?_ (by decide)) | apply Sz.neg | apply B.mul2 | (refine B.add2 ?_ ?_ (by decide)) | (refine B.sub2 ?_ ?_ (by decide)) | apply B.neg)); done) | (unfold tB; simp; done) | decide)) only [S_done, S_asg, S_asgT, S_par, S_sub, S_expr, S_if, S_for, S_forB, S_ret, S_retN, E_var, E_cst, E_gl, E_yes, E_tup, E_lst, E_mkl, E_bin, E_mkb, E_neg, E_not, E_cmp, E_chain, E_isN, E_isB, E_and, E_or, E_ite, E_idx, E_rev, E_slc, P_non, P_cst, P_var, P_bin, P_neg, P_call, P_blt, E_call, E_blt, E_mkt, E_isi, E_app, Es_nil, Es_cons, E_T, E_alloc, E_lc, E_mkc, LC_nil, LC_cons, LC_B, lcQ, accO, bls, Option.map_some, List.all_cons, List.all_nil, id_eq, Bool.and_true, OkO_some, OkI_t, OkI_f, Ok_ok, OkS_next, OkS_ret, deref_int, deref_bl, deref_str, deref_non, deref_tup, deref_lst, deref_fn, deref_frz, deref_r0, deref_r1, deref_r2, T_bl, T_int, T_tup, T_lst, T_non, B_addI, B_addL, B_addT, B_subI, C_ltI, C_leI, C_gtI, C_geI, C_eqI, C_eqB, C_neB, C_neI, I_tup, I_lst, L_tup, L_lst, L_abs, L_max, L_min, L_int, L_tupL, L_tupT, L_listT, L_listL, L_listF, L_all, L_any, It_L, It_T, It_r1, It_r2, negO_int, intO_int, isBo, setAll, atI_0, atI_1, atI_2, atI_3, get_0, get_1, get_2, get_3, get_4, get_5, get_6, get_7, get_8, get_9, get_10, get_11, get_12, get_13, get_14, get_15, get_16, set_0, set_1, set_2, set_3, set_4, set_5, set_6, set_7, set_8, set_9, set_10, set_11, set_12, set_13, set_14, set_15, set_16, List.map_cons, List.map_nil, List.cons_append, List.nil_append, List.replicate_succ, List.replicate_zero, List.append_nil, List.length_cons, List.length_nil, if_true, if_false, Bool.not_true, Bool.not_false, Bool.false_eq_true, Nat.sub_self, Nat.reduceSub, Nat.reduceAdd, Nat.zero_add, Nat.reduceLeDiff, lim, and_true, true_and, decide_true, decide_false, PV.isRef, wipeE, B_mulI', B_divI', B_modI', decT, decF, I_shr0, I_shr1, D_shr, OkS_for_nil, C_eqR, C_neR, C_eqNil, C_neNil, C_eqI1, C_eqI2, C_eqB1, Rv_tup, Rv_lst, List.reverse_cons, List.reverse_nil, isTy, isNo_shr, isNo_tup, isNo_non, isNo_int, isNo_bl, isNo_str, isNo_lst, isNo_ref, bne_self_eq_false, Bool.bne_true, Bool.bne_false, Bool.true_bne, Bool.false_bne, bindT_nm, bindT_tp, bindT_shr, bindTs_nil, bindTs_cons, Option.bind_some, Int.toNat_natCast, get_17, set_17, get_18, set_18, get_19, set_19, get_20, set_20, E_sst, E_lrg, Rg_l, Rg_t, L_sum, inl, get_21, set_21, get_22, set_22, get_23, set_23, get_24, set_24, get_25, set_25, get_26, set_26, get_27, set_27, get_28, set_28, get_29, set_29, get_30, set_30, E_ktp, E_cnt, lw_nearest]
  simp -dsimp (disch := first | (refine OM.mk ?_; first | omega | assumption | rfl) | ((fail_if_success refine OM.mk ?_); first | assumption | omega | exact deref_int | exact ty_int | exact deref_tup | exact ty_tup | exact D_shr | exact ty_shr | exact deref_bl | exact ty_bl | exact deref_non | exact ty_non | exact deref_str | exact ty_str | exact deref_lst | exact ty_lst | (refine mulOk_sz ?_ ?_ <;> (repeat' (first | exact Sz.mono (by assumption) (by decide) | exact Sz.mono (B.n (by assumption)) (by decide) | exact Sz.mono (B.d (by assumption)) (by decide) | exact Sz.of (m := 1000000000000) (by omega) (by decide) | exact Sz.of (m := 1000000) (by omega) (by decide) | exact B.mono (by assumption) (by decide) | exact ⟨Sz.of (m := 1000000000000) (by omega) (by decide), Sz.of (m := 1000000000000) (by omega) (by decide)⟩ | apply Sz.mul2 | (refine Sz.add2 ?_ ?_ (by decide)) | (refine Sz.sub2 ?_ ?_ (by decide)) | apply Sz.neg | apply B.mul2 | (refine B.add2 ?_ ?_ (by decide)) | (refine B.sub2 ?_ ?_ (by decide)) | apply B.neg)); done) | (refine nice_ok ?_; (repeat' (first | exact nice_shr | exact nice_spt | exact nice_mpv | exact nice_int | exact nice_bl | exact nice_non | exact nicel_nil | refine nicel_cons ?_ ?_ | refine nice_tup (by simp) ?_ | refine nice_lst (by simp) ?_)); done) | ((repeat' (first | exact Sz.mono (by assumption) (by decide) | exact Sz.mono (B.n (by assumption)) (by decide) | exact Sz.mono (B.d (by assumption)) (by decide) | exact Sz.of (m := 1000000000000) (by omega) (by decide) | exact Sz.of (m := 1000000) (by omega) (by decide) | exact B.mono (by assumption) (by decide) | exact ⟨Sz.of (m := 1000000000000) (by omega) (by decide), Sz.of (m := 1000000000000) (by omega) (by decide)⟩ | apply Sz.mul2 | (refine Sz.add2 ?_ ?_ (by decide)) | (refine Sz.sub2 ?_ ?_ (by decide)) | apply Sz.neg | apply B.mul2 | (refine B.add2 ?_ ?_ (by decide)) | (refine B.sub2 ?_ ?_ (by decide)) | apply B.neg)); done) | (unfold tB; simp; done) | decide)) only [S_done, S_asg, S_asgT, S_par, S_sub, S_expr, S_if, S_for, S_forB, S_ret, S_retN, E_var, E_cst, E_gl, E_yes, E_tup, E_lst, E_mkl, E_bin, E_mkb, E_neg, E_not, E_cmp, E_chain, E_isN, E_isB, E_and, E_or, E_ite, E_idx, E_rev, E_slc, P_non, P_cst, P_var, P_bin, P_neg, P_call, P_blt, E_call, E_blt, E_mkt, E_isi, E_app, Es_nil, Es_cons, E_T, E_alloc, E_lc, E_mkc, LC_nil, LC_cons, LC_B, lcQ, accO, bls, Option.map_some, List.all_cons, List.all_nil, id_eq, Bool.and_true, OkO_some, OkI_t, OkI_f, Ok_ok, OkS_next, OkS_ret, deref_int, deref_bl, deref_str, deref_non, deref_tup, deref_lst, deref_fn, deref_frz, deref_r0, deref_r1, deref_r2, T_bl, T_int, T_tup, T_lst, T_non, B_addI, B_addL, B_addT, B_subI, C_ltI, C_leI, C_gtI, C_geI, C_eqI, C_eqB, C_neB, C_neI, I_tup, I_lst, L_tup, L_lst, L_abs, L_max, L_min, L_int, L_tupL, L_tupT, L_listT, L_listL, L_listF, L_all, L_any, It_L, It_T, It_r1, It_r2, negO_int, intO_int, isBo, setAll, atI_0, atI_1, atI_2, atI_3, get_0, get_1, get_2, get_3, get_4, get_5, get_6, get_7, get_8, get_9, get_10, get_11, get_12, get_13, get_14, get_15, get_16, set_0, set_1, set_2, set_3, set_4, set_5, set_6, set_7, set_8, set_9, set_10, set_11, set_12, set_13, set_14, set_15, set_16, List.map_cons, List.map_nil, List.cons_append, List.nil_append, List.replicate_succ, List.replicate_zero, List.append_nil, List.length_cons, List.length_nil, if_true, if_false, Bool.not_true, Bool.not_false, Bool.false_eq_true, Nat.sub_self, Nat.reduceSub, Nat.reduceAdd, Nat.zero_add, Nat.reduceLeDiff, lim, and_true, true_and, decide_true, decide_false, PV.isRef, wipeE, B_mulI', B_divI', B_modI', decT, decF, I_shr0, I_shr1, D_shr, OkS_for_nil, C_eqR, C_neR, C_eqNil, C_neNil, C_eqI1, C_eqI2, C_eqB1, Rv_tup, Rv_lst, List.reverse_cons, List.reverse_nil, isTy, isNo_shr, isNo_tup, isNo_non, isNo_int, isNo_bl, isNo_str, isNo_lst, isNo_ref, bne_self_eq_false, Bool.bne_true, Bool.bne_false, Bool.true_bne, Bool.false_bne, bindT_nm, bindT_tp, bindT_shr, bindTs_nil, bindTs_cons, Option.bind_some, Int.toNat_natCast, get_17, set_17, get_18, set_18, get_19, set_19, get_20, set_20, E_sst, E_lrg, Rg_l, Rg_t, L_sum, inl, get_21, set_21, get_22, set_22, get_23, set_23, get_24, set_24, get_25, set_25, get_26, set_26, get_27, set_27, get_28, set_28, get_29, set_29, get_30, set_30, E_ktp, E_cnt, It_e']
  refine Ok_eq (lc_rlif (n := (hi + 1 - lo).toNat) (p := fun i => decide (((rowR a b c d lo i).den : Int) = 1)) (g := fun i => .tup [.int (lo + (i : Nat)), .int (rowR a b c d lo i).num]) (by omega) fun i hi2 => lcB_ok ?_) ?_
  · by_cases z : ((rowR a b c d lo i).den : Int) = 1
    · simp -dsimp (disch := first | (refine OM.mk ?_; first | omega | assumption | rfl) | ((fail_if_success refine OM.mk ?_); first | assumption | omega | exact deref_int | exact ty_int | exact deref_tup | exact ty_tup | exact D_shr | exact ty_shr | exact deref_bl | exact ty_bl | exact deref_non | exact ty_non | exact deref_str | exact ty_str | exact deref_lst | exact ty_lst | (refine mulOk_sz ?_ ?_ <;> (repeat' (first | exact Sz.mono (by assumption) (by decide) | exact Sz.mono (B.n (by assumption)) (by decide) | exact Sz.mono (B.d (by assumption)) (by decide) | exact Sz.of (m := 1000000000000) (by omega) (by decide) | exact Sz.of (m := 1000000) (by omega) (by decide) | exact B.mono (by assumption) (by decide) | exact ⟨Sz.of (m := 1000000000000) (by omega) (by decide), Sz.of (m := 1000000000000) (by omega) (by decide)⟩ | apply Sz.mul2 | (refine Sz.add2 ?_ ?_ (by decide)) | (refine Sz.sub2 ?_ ?_ (by decide)) | apply Sz.neg | apply B.mul2 | (refine B.add2 ?_ ?_ (by decide)) | (refine B.sub2 ?_ ?_ (by decide)) | apply B.neg)); done) | (refine nice_ok ?_; (repeat' (first | exact nice_shr | exact nice_spt | exact nice_mpv | exact nice_int | exact nice_bl | exact nice_non | exact nicel_nil | refine nicel_cons ?_ ?_ | refine nice_tup (by simp) ?_ | refine nice_lst (by simp) ?_)); done) | ((repeat' (first | exact Sz.mono (by assumption) (by decide) | exact Sz.mono (B.n (by assumption)) (by decide) | exact Sz.mono (B.d (by assumption)) (by decide) | exact Sz.of (m := 1000000000000) (by omega) (by decide) | exact Sz.of (m := 1000000) (by omega) (by decide) | exact B.mono (by assumption) (by decide) | exact ⟨Sz.of (m := 1000000000000) (by omega) (by decide), Sz.of (m := 1000000000000) (by omega) (by decide)⟩ | apply Sz.mul2 | (refine Sz.add2 ?_ ?_ (by decide)) | (refine Sz.sub2 ?_ ?_ (by decide)) | apply Sz.neg | apply B.mul2 | (refine B.add2 ?_ ?_ (by decide)) | (refine B.sub2 ?_ ?_ (by decide)) | apply B.neg)); done) | (unfold tB; simp; done) | decide)) only [S_done, S_asg, S_asgT, S_par, S_sub, S_expr, S_if, S_for, S_forB, S_ret, S_retN, E_var, E_cst, E_gl, E_yes, E_tup, E_lst, E_mkl, E_bin, E_mkb, E_neg, E_not, E_cmp, E_chain, E_isN, E_isB, E_and, E_or, E_ite, E_idx, E_rev, E_slc, P_non, P_cst, P_var, P_bin, P_neg, P_call, P_blt, E_call, E_blt, E_mkt, E_isi, E_app, Es_nil, Es_cons, E_T, E_alloc, E_lc, E_mkc, LC_nil, LC_cons, LC_B, lcQ, accO, bls, Option.map_some, List.all_cons, List.all_nil, id_eq, Bool.and_true, OkO_some, OkI_t, OkI_f, Ok_ok, OkS_next, OkS_ret, deref_int, deref_bl, deref_str, deref_non, deref_tup, deref_lst, deref_fn, deref_frz, deref_r0, deref_r1, deref_r2, T_bl, T_int, T_tup, T_lst, T_non, B_addI, B_addL, B_addT, B_subI, C_ltI, C_leI, C_gtI, C_geI, C_eqI, C_eqB, C_neB, C_neI, I_tup, I_lst, L_tup, L_lst, L_abs, L_max, L_min, L_int, L_tupL, L_tupT, L_listT, L_listL, L_listF, L_all, L_any, It_L, It_T, It_r1, It_r2, negO_int, intO_int, isBo, setAll, atI_0, atI_1, atI_2, atI_3, get_0, get_1, get_2, get_3, get_4, get_5, get_6, get_7, get_8, get_9, get_10, get_11, get_12, get_13, get_14, get_15, get_16, set_0, set_1, set_2, set_3, set_4, set_5, set_6, set_7, set_8, set_9, set_10, set_11, set_12, set_13, set_14, set_15, set_16, List.map_cons, List.map_nil, List.cons_append, List.nil_append, List.replicate_succ, List.replicate_zero, List.append_nil, List.length_cons, List.length_nil, if_true, if_false, Bool.not_true, Bool.not_false, Bool.false_eq_true, Nat.sub_self, Nat.reduceSub, Nat.reduceAdd, Nat.zero_add, Nat.reduceLeDiff, lim, and_true, true_and, decide_true, decide_false, PV.isRef, wipeE, B_mulI', B_divI', B_modI', decT, decF, I_shr0, I_shr1, D_shr, OkS_for_nil, C_eqR, C_neR, C_eqNil, C_neNil, C_eqI1, C_eqI2, C_eqB1, Rv_tup, Rv_lst, List.reverse_cons, List.reverse_nil, isTy, isNo_shr, isNo_tup, isNo_non, isNo_int, isNo_bl, isNo_str, isNo_lst, isNo_ref, bne_self_eq_false, Bool.bne_true, Bool.bne_false, Bool.true_bne, Bool.false_bne, bindT_nm, bindT_tp, bindT_shr, bindTs_nil, bindTs_cons, Option.bind_some, Int.toNat_natCast, get_17, set_17, get_18, set_18, get_19, set_19, get_20, set_20, E_sst, E_lrg, Rg_l, Rg_t, L_sum, inl, get_21, set_21, get_22, set_22, get_23, set_23, get_24, set_24, get_25, set_25, get_26, set_26, get_27, set_27, get_28, set_28, get_29, set_29, get_30, set_30, E_ktp, E_cnt, z]
    · simp -dsimp (disch := first | (refine OM.mk ?_; first | omega | assumption | rfl) | ((fail_if_success refine OM.mk ?_); first | assumption | omega | exact deref_int | exact ty_int | exact deref_tup | exact ty_tup | exact D_shr | exact ty_shr | exact deref_bl | exact ty_bl | exact deref_non | exact ty_non | exact deref_str | exact ty_str | exact deref_lst | exact ty_lst | (refine mulOk_sz ?_ ?_ <;> (repeat' (first | exact Sz.mono (by assumption) (by decide) | exact Sz.mono (B.n (by assumption)) (by decide) | exact Sz.mono (B.d (by assumption)) (by decide) | exact Sz.of (m := 1000000000000) (by omega) (by decide) | exact Sz.of (m := 1000000) (by omega) (by decide) | exact B.mono (by assumption) (by decide) | exact ⟨Sz.of (m := 1000000000000) (by omega) (by decide), Sz.of (m := 1000000000000) (by omega) (by decide)⟩ | apply Sz.mul2 | (refine Sz.add2 ?_ ?_ (by decide)) | (refine Sz.sub2 ?_ ?_ (by decide)) | apply Sz.neg | apply B.mul2 | (refine B.add2 ?_ ?_ (by decide)) | (refine B.sub2 ?_ ?_ (by decide)) | apply B.neg)); done) | (refine nice_ok ?_; (repeat' (first | exact nice_shr | exact nice_spt | exact nice_mpv | exact nice_int | exact nice_bl | exact nice_non | exact nicel_nil | refine nicel_cons ?_ ?_ | refine nice_tup (by simp) ?_ | refine nice_lst (by simp) ?_)); done) | ((repeat' (first | exact Sz.mono (by assumption) (by decide) | exact Sz.mono (B.n (by assumption)) (by decide) | exact Sz.mono (B.d (by assumption)) (by decide) | exact Sz.of (m := 1000000000000) (by omega) (by decide) | exact Sz.of (m := 1000000) (by omega) (by decide) | exact B.mono (by assumption) (by decide) | exact ⟨Sz.of (m := 1000000000000) (by omega) (by decide), Sz.of (m := 1000000000000) (by omega) (by decide)⟩ | apply Sz.mul2 | (refine Sz.add2 ?_ ?_ (by decide)) | (refine Sz.sub2 ?_ ?_ (by decide)) | apply Sz.neg | apply B.mul2 | (refine B.add2 ?_ ?_ (by decide)) | (refine B.sub2 ?_ ?_ (by decide)) | apply B.neg)); done) | (unfold tB; simp; done) | decide)) only [S_done, S_asg, S_asgT, S_par, S_sub, S_expr, S_if, S_for, S_forB, S_ret, S_retN, E_var, E_cst, E_gl, E_yes, E_tup, E_lst, E_mkl, E_bin, E_mkb, E_neg, E_not, E_cmp, E_chain, E_isN, E_isB, E_and, E_or, E_ite, E_idx, E_rev, E_slc, P_non, P_cst, P_var, P_bin, P_neg, P_call, P_blt, E_call, E_blt, E_mkt, E_isi, E_app, Es_nil, Es_cons, E_T, E_alloc, E_lc, E_mkc, LC_nil, LC_cons, LC_B, lcQ, accO, bls, Option.map_some, List.all_cons, List.all_nil, id_eq, Bool.and_true, OkO_some, OkI_t, OkI_f, Ok_ok, OkS_next, OkS_ret, deref_int, deref_bl, deref_str, deref_non, deref_tup, deref_lst, deref_fn, deref_frz, deref_r0, deref_r1, deref_r2, T_bl, T_int, T_tup, T_lst, T_non, B_addI, B_addL, B_addT, B_subI, C_ltI, C_leI, C_gtI, C_geI, C_eqI, C_eqB, C_neB, C_neI, I_tup, I_lst, L_tup, L_lst, L_abs, L_max, L_min, L_int, L_tupL, L_tupT, L_listT, L_listL, L_listF, L_all, L_any, It_L, It_T, It_r1, It_r2, negO_int, intO_int, isBo, setAll, atI_0, atI_1, atI_2, atI_3, get_0, get_1, get_2, get_3, get_4, get_5, get_6, get_7, get_8, get_9, get_10, get_11, get_12, get_13, get_14, get_15, get_16, set_0, set_1, set_2, set_3, set_4, set_5, set_6, set_7, set_8, set_9, set_10, set_11, set_12, set_13, set_14, set_15, set_16, List.map_cons, List.map_nil, List.cons_append, List.nil_append, List.replicate_succ, List.replicate_zero, List.append_nil, List.length_cons, List.length_nil, if_true, if_false, Bool.not_true, Bool.not_false, Bool.false_eq_true, Nat.sub_self, Nat.reduceSub, Nat.reduceAdd, Nat.zero_add, Nat.reduceLeDiff, lim, and_true, true_and, decide_true, decide_false, PV.isRef, wipeE, B_mulI', B_divI', B_modI', decT, decF, I_shr0, I_shr1, D_shr, OkS_for_nil, C_eqR, C_neR, C_eqNil, C_neNil, C_eqI1, C_eqI2, C_eqB1, Rv_tup, Rv_lst, List.reverse_cons, List.reverse_nil, isTy, isNo_shr, isNo_tup, isNo_non, isNo_int, isNo_bl, isNo_str, isNo_lst, isNo_ref, bne_self_eq_false, Bool.bne_true, Bool.bne_false, Bool.true_bne, Bool.false_bne, bindT_nm, bindT_tp, bindT_shr, bindTs_nil, bindTs_cons, Option.bind_some, Int.toNat_natCast, get_17, set_17, get_18, set_18, get_19, set_19, get_20, set_20, E_sst, E_lrg, Rg_l, Rg_t, L_sum, inl, get_21, set_21, get_22, set_22, get_23, set_23, get_24, set_24, get_25, set_25, get_26, set_26, get_27, set_27, get_28, set_28, get_29, set_29, get_30, set_30, E_ktp, E_cnt, z]
  have lf := List.length_filter_le (fun i => decide (((rowR a b c d lo i).den : Int) = 1)) (List.range (hi + 1 - lo).toNat)
  rw [List.length_range] at lf
  have s1 := same_two (Tb := Tb) (st := st6) (n := 38) (lw_same1 (by decide) (nice_ok (nice_rows (d := 7) (l := (List.range (hi + 1 - lo).toNat).filter fun i => decide (((rowR a b c d lo i).den : Int) = 1)) (f := fun i => lo + (i : Nat)) (g := fun i => (rowR a b c d lo i).num) (by omega)))) (same_tab (m := (hi + 1 - lo).toNat) (f := fun i => nr (rowR a b c d lo i)) (by decide) (by omega))
  simp -dsimp (disch := first | (refine OM.mk ?_; first | omega | assumption | rfl) | ((fail_if_success refine OM.mk ?_); first | assumption | omega | exact deref_int | exact ty_int | exact deref_tup | exact ty_tup | exact D_shr | exact ty_shr | exact deref_bl | exact ty_bl | exact deref_non | exact ty_non | exact deref_str | exact ty_str | exact deref_lst | exact ty_lst | (refine mulOk_sz ?_ ?_ <;> (repeat' (first | exact Sz.mono (by assumption) (by decide) | exact Sz.mono (B.n (by assumption)) (by decide) | exact Sz.mono (B.d (by assumption)) (by decide) | exact Sz.of (m := 1000000000000) (by omega) (by decide) | exact Sz.of (m := 1000000) (by omega) (by decide) | exact B.mono (by assumption) (by decide) | exact ⟨Sz.of (m := 1000000000000) (by omega) (by decide), Sz.of (m := 1000000000000) (by omega) (by decide)⟩ | apply Sz.mul2 | (refine Sz.add2 ?_ ?_ (by decide)) | (refine Sz.sub2 ?_ ?_ (by decide)) | apply Sz.neg | apply B.mul2 | (refine B.add2 ?_ ?_ (by decide)) | (refine B.sub2 ?_ ?_ (by decide)) | apply B.neg)); done) | (refine nice_ok ?_; (repeat' (first | exact nice_shr | exact nice_spt | exact nice_mpv | exact nice_int | exact nice_bl | exact nice_non | exact nicel_nil | refine nicel_cons ?_ ?_ | refine nice_tup (by simp) ?_ | refine nice_lst (by simp) ?_)); done) | ((repeat' (first | exact Sz.mono (by assumption) (by decide) | exact Sz.mono (B.n (by assumption)) (by decide) | exact Sz.mono (B.d (by assumption)) (by decide) | exact Sz.of (m := 1000000000000) (by omega) (by decide) | exact Sz.of (m := 1000000) (by omega) (by decide) | exact B.mono (by assumption) (by decide) | exact ⟨Sz.of (m := 1000000000000) (by omega) (by decide), Sz.of (m := 1000000000000) (by omega) (by decide)⟩ | apply Sz.mul2 | (refine Sz.add2 ?_ ?_ (by decide)) | (refine Sz.sub2 ?_ ?_ (by decide)) | apply Sz.neg | apply B.mul2 | (refine B.add2 ?_ ?_ (by decide)) | (refine B.sub2 ?_ ?_ (by decide)) | apply B.neg)); done) | (unfold tB; simp; done) | decide)) only [S_done, S_asg, S_asgT, S_par, S_sub, S_expr, S_if, S_for, S_forB, S_ret, S_retN, E_var, E_cst, E_gl, E_yes, E_tup, E_lst, E_mkl, E_bin, E_mkb, E_neg, E_not, E_cmp, E_chain, E_isN, E_isB, E_and, E_or, E_ite, E_idx, E_rev, E_slc, P_non, P_cst, P_var, P_bin, P_neg, P_call, P_blt, E_call, E_blt, E_mkt, E_isi, E_app, Es_nil, Es_cons, E_T, E_alloc, E_lc, E_mkc, LC_nil, LC_cons, LC_B, lcQ, accO, bls, Option.map_some, List.all_cons, List.all_nil, id_eq, Bool.and_true, OkO_some, OkI_t, OkI_f, Ok_ok, OkS_next, OkS_ret, deref_int, deref_bl, deref_str, deref_non, deref_tup, deref_lst, deref_fn, deref_frz, deref_r0, deref_r1, deref_r2, T_bl, T_int, T_tup, T_lst, T_non, B_addI, B_addL, B_addT, B_subI, C_ltI, C_leI, C_gtI, C_geI, C_eqI, C_eqB, C_neB, C_neI, I_tup, I_lst, L_tup, L_lst, L_abs, L_max, L_min, L_int, L_tupL, L_tupT, L_listT, L_listL, L_listF, L_all, L_any, It_L, It_T, It_r1, It_r2, negO_int, intO_int, isBo, setAll, atI_0, atI_1, atI_2, atI_3, get_0, get_1, get_2, get_3, get_4, get_5, get_6, get_7, get_8, get_9, get_10, get_11, get_12, get_13, get_14, get_15, get_16, set_0, set_1, set_2, set_3, set_4, set_5, set_6, set_7, set_8, set_9, set_10, set_11, set_12, set_13, set_14, set_15, set_16, List.map_cons, List.map_nil, List.cons_append, List.nil_append, List.replicate_succ, List.replicate_zero, List.append_nil, List.length_cons, List.length_nil, if_true, if_false, Bool.not_true, Bool.not_false, Bool.false_eq_true, Nat.sub_self, Nat.reduceSub, Nat.reduceAdd, Nat.zero_add, Nat.reduceLeDiff, lim, and_true, true_and, decide_true, decide_false, PV.isRef, wipeE, B_mulI', B_divI', B_modI', decT, decF, I_shr0, I_shr1, D_shr, OkS_for_nil, C_eqR, C_neR, C_eqNil, C_neNil, C_eqI1, C_eqI2, C_eqB1, Rv_tup, Rv_lst, List.reverse_cons, List.reverse_nil, isTy, isNo_shr, isNo_tup, isNo_non, isNo_int, isNo_bl, isNo_str, isNo_lst, isNo_ref, bne_self_eq_false, Bool.bne_true, Bool.bne_false, Bool.true_bne, Bool.false_bne, bindT_nm, bindT_tp, bindT_shr, bindTs_nil, bindTs_cons, Option.bind_some, Int.toNat_natCast, get_17, set_17, get_18, set_18, get_19, set_19, get_20, set_20, E_sst, E_lrg, Rg_l, Rg_t, L_sum, inl, get_21, set_21, get_22, set_22, get_23, set_23, get_24, set_24, get_25, set_25, get_26, set_26, get_27, set_27, get_28, set_28, get_29, set_29, get_30, set_30, E_ktp, E_cnt, sp_meeting, sp_nearest, s1, rl_0 l0, rl_lastI l1]
  have e0 : nr (rowR a b c d lo 0) = nr0 a b c d lo := rfl
  have eE : nr (rowR a b c d lo ((hi + 1 - lo).toNat - 1)) = nrE a b c d lo hi := rfl
  have lm : lim = 1000000 := rfl
  have rg2 : rgOk (nr0 a b c d lo) (nrE a b c d lo hi + 1) = true := by
    unfold rgOk
    simp only [Bool.and_eq_true, Nat.ble_eq]
    omega
  simp -dsimp (disch := first | (refine OM.mk ?_; first | omega | assumption | rfl) | ((fail_if_success refine OM.mk ?_); first | assumption | omega | exact deref_int | exact ty_int | exact deref_tup | exact ty_tup | exact D_shr | exact ty_shr | exact deref_bl | exact ty_bl | exact deref_non | exact ty_non | exact deref_str | exact ty_str | exact deref_lst | exact ty_lst | (refine mulOk_sz ?_ ?_ <;> (repeat' (first | exact Sz.mono (by assumption) (by decide) | exact Sz.mono (B.n (by assumption)) (by decide) | exact Sz.mono (B.d (by assumption)) (by decide) | exact Sz.of (m := 1000000000000) (by omega) (by decide) | exact Sz.of (m := 1000000) (by omega) (by decide) | exact B.mono (by assumption) (by decide) | exact ⟨Sz.of (m := 1000000000000) (by omega) (by decide), Sz.of (m := 1000000000000) (by omega) (by decide)⟩ | apply Sz.mul2 | (refine Sz.add2 ?_ ?_ (by decide)) | (refine Sz.sub2 ?_ ?_ (by decide)) | apply Sz.neg | apply B.mul2 | (refine B.add2 ?_ ?_ (by decide)) | (refine B.sub2 ?_ ?_ (by decide)) | apply B.neg)); done) | (refine nice_ok ?_; (repeat' (first | exact nice_shr | exact nice_spt | exact nice_mpv | exact nice_int | exact nice_bl | exact nice_non | exact nicel_nil | refine nicel_cons ?_ ?_ | refine nice_tup (by simp) ?_ | refine nice_lst (by simp) ?_)); done) | ((repeat' (first | exact Sz.mono (by assumption) (by decide) | exact Sz.mono (B.n (by assumption)) (by decide) | exact Sz.mono (B.d (by assumption)) (by decide) | exact Sz.of (m := 1000000000000) (by omega) (by decide) | exact Sz.of (m := 1000000) (by omega) (by decide) | exact B.mono (by assumption) (by decide) | exact ⟨Sz.of (m := 1000000000000) (by omega) (by decide), Sz.of (m := 1000000000000) (by omega) (by decide)⟩ | apply Sz.mul2 | (refine Sz.add2 ?_ ?_ (by decide)) | (refine Sz.sub2 ?_ ?_ (by decide)) | apply Sz.neg | apply B.mul2 | (refine B.add2 ?_ ?_ (by decide)) | (refine B.sub2 ?_ ?_ (by decide)) | apply B.neg)); done) | (unfold tB; simp; done) | decide)) only [S_done, S_asg, S_asgT, S_par, S_sub, S_expr, S_if, S_for, S_forB, S_ret, S_retN, E_var, E_cst, E_gl, E_yes, E_tup, E_lst, E_mkl, E_bin, E_mkb, E_neg, E_not, E_cmp, E_chain, E_isN, E_isB, E_and, E_or, E_ite, E_idx, E_rev, E_slc, P_non, P_cst, P_var, P_bin, P_neg, P_call, P_blt, E_call, E_blt, E_mkt, E_isi, E_app, Es_nil, Es_cons, E_T, E_alloc, E_lc, E_mkc, LC_nil, LC_cons, LC_B, lcQ, accO, bls, Option.map_some, List.all_cons, List.all_nil, id_eq, Bool.and_true, OkO_some, OkI_t, OkI_f, Ok_ok, OkS_next, OkS_ret, deref_int, deref_bl, deref_str, deref_non, deref_tup, deref_lst, deref_fn, deref_frz, deref_r0, deref_r1, deref_r2, T_bl, T_int, T_tup, T_lst, T_non, B_addI, B_addL, B_addT, B_subI, C_ltI, C_leI, C_gtI, C_geI, C_eqI, C_eqB, C_neB, C_neI, I_tup, I_lst, L_tup, L_lst, L_abs, L_max, L_min, L_int, L_tupL, L_tupT, L_listT, L_listL, L_listF, L_all, L_any, It_L, It_T, It_r1, It_r2, negO_int, intO_int, isBo, setAll, atI_0, atI_1, atI_2, atI_3, get_0, get_1, get_2, get_3, get_4, get_5, get_6, get_7, get_8, get_9, get_10, get_11, get_12, get_13, get_14, get_15, get_16, set_0, set_1, set_2, set_3, set_4, set_5, set_6, set_7, set_8, set_9, set_10, set_11, set_12, set_13, set_14, set_15, set_16, List.map_cons, List.map_nil, List.cons_append, List.nil_append, List.replicate_succ, List.replicate_zero, List.append_nil, List.length_cons, List.length_nil, if_true, if_false, Bool.not_true, Bool.not_false, Bool.false_eq_true, Nat.sub_self, Nat.reduceSub, Nat.reduceAdd, Nat.zero_add, Nat.reduceLeDiff, lim, and_true, true_and, decide_true, decide_false, PV.isRef, wipeE, B_mulI', B_divI', B_modI', decT, decF, I_shr0, I_shr1, D_shr, OkS_for_nil, C_eqR, C_neR, C_eqNil, C_neNil, C_eqI1, C_eqI2, C_eqB1, Rv_tup, Rv_lst, List.reverse_cons, List.reverse_nil, isTy, isNo_shr, isNo_tup, isNo_non, isNo_int, isNo_bl, isNo_str, isNo_lst, isNo_ref, bne_self_eq_false, Bool.bne_true, Bool.bne_false, Bool.true_bne, Bool.false_bne, bindT_nm, bindT_tp, bindT_shr, bindTs_nil, bindTs_cons, Option.bind_some, Int.toNat_natCast, get_17, set_17, get_18, set_18, get_19, set_19, get_20, set_20, E_sst, E_lrg, Rg_l, Rg_t, L_sum, inl, get_21, set_21, get_22, set_22, get_23, set_23, get_24, set_24, get_25, set_25, get_26, set_26, get_27, set_27, get_28, set_28, get_29, set_29, get_30, set_30, E_ktp, E_cnt, e0, eE, rg2, rgV_ra]
  obtain ⟨N, hN⟩ : ∃ N, (nrE a b c d lo hi + 1 - nr0 a b c d lo).toNat = N := ⟨_, rfl⟩
  have hN2 : N ≤ 100000 := by omega
  rw [hN]
  refine for_rl (fun k ρ st => CupI st ∧ Keeps [none, some (.ref 0), none, none, some (scv a b), some (scv c d), some (.int lo), some (.int hi), none, some (tbV a b c d lo hi), none, some (mkI (twK (tabL a b c d lo hi) (nr0 a b c d lo) k)), some (mkI (msK (tabL a b c d lo hi) (nr0 a b c d lo) k)), none, none, none, none, none, none, none, none] ρ) ⟨hc6, ⟨_, _, rfl, _, rfl, _, _, rfl, _, _, rfl, _, rfl, _, rfl, _, rfl, _, rfl, _, _, rfl, _, rfl, _, _, rfl, _, rfl, _, rfl, _, _, rfl, _, _, rfl, _, _, rfl, _, _, rfl, _, _, rfl, _, _, rfl, _, _, rfl, _, _, rfl, rfl⟩⟩ (fun k hk ρ st ⟨hc, hkp⟩ => body0 rfl (by omega) (by omega) hkp hc) fun ρ st ⟨hc, hkp⟩ => ?_
  exact rest0 hs gs hr (by omega) rg2 (by omega) hN hkp hc
theorem last1 : (rl 7 fun i => (.int (nr (rowR 0 2 0 1 (-3) i)) : PV)) = [.int (-1), .int (-1), .int 0, .int 0, .int 1, .int 1, .int 2] := by
  have : (List.range 7).map (fun i => nr (rowR 0 2 0 1 (-3) i)) = [-1, -1, 0, 0, 1, 1, 2] := by decide +kernel
  have := congrArg (List.map PV.int) this
  rw [List.map_map] at this
  exact this
theorem last2 {s : Int} : (rl 1 fun i => (.int (nr (rowR 0 1 0 3 s i)) : PV)) = [.int (3 * s)] := by
  have : rowR 0 1 0 3 s 0 = ((3 * s : Int) : Rat) := by
    unfold rowR turnR atR wayR
    rw [Rat.intCast_mul, show s + ((0 : Nat) : Int) = s by omega, show ((0 : Int) : Rat) = 0 from rfl, show ((1 : Int) : Rat) = 1 from rfl, show ((3 : Int) : Rat) = 3 from rfl]
    grind
  show [PV.int (nr (rowR 0 1 0 3 s 0))] = _
  rw [this, nr_int]
theorem last3 : (((List.range 6).filter fun i => decide (((rowR 0 2 0 1 0 i).den : Int) = 1)).map fun i => (.tup [.int (0 + (i : Nat)), .int (rowR 0 2 0 1 0 i).num] : PV)) = [.tup [.int 0, .int 0], .tup [.int 2, .int 1], .tup [.int 4, .int 2]] := by
  have e1 : ((List.range 6).filter fun i => decide (((rowR 0 2 0 1 0 i).den : Int) = 1)) = [0, 2, 4] := by decide +kernel
  have e2 : (rowR 0 2 0 1 0 0).num = 0 := by decide +kernel
  have e3 : (rowR 0 2 0 1 0 2).num = 1 := by decide +kernel
  have e4 : (rowR 0 2 0 1 0 4).num = 2 := by decide +kernel
  rw [e1]
  simp only [List.map_cons, List.map_nil, e2, e3, e4]
  rfl
theorem same_tabL {n : Nat} {l : List Int} (hn : 10 ≤ n) (hl : l.length ≤ 100000) : callN Tb 5000 n i__law_same [.ktp (l.map .int), .tup (l.map .int)] st = .ok (.bl true) st := by
  have e : (l.map PV.int) = rl l.length fun i => .int (l.getD i 0) := by
    conv => lhs; rw [rl_of (0 : Int) l]
    unfold rl
    rw [List.map_map]
    rfl
  rw [e]
  exact same_tab hn hl
theorem law_true (ns : List Int) (v : PV) (h1 : ns.length ≤ 63) (h2 : ∀ z ∈ ns, PySem.Builtin.Int.intBits z ≤ 1048576) (h3 : v = .frz (ns.map .int) ∨ v = .lst (ns.map .int)) : ∃ st', callN Tb 5000 40 i_law [v] [] = .ok (.bl true) st' := by
  have main : Okp (callN Tb 5000 40 i_law [v] []) fun r _ => r = .bl true := by
    refine call_ok T_law rfl ?_
    have r8 : rgOk 0 8 = true := by decide
    simp -dsimp (disch := first | (refine OM.mk ?_; first | omega | assumption | rfl) | ((fail_if_success refine OM.mk ?_); first | assumption | omega | exact deref_int | exact ty_int | exact deref_tup | exact ty_tup | exact D_shr | exact ty_shr | exact deref_bl | exact ty_bl | exact deref_non | exact ty_non | exact deref_str | exact ty_str | exact deref_lst | exact ty_lst | (refine mulOk_sz ?_ ?_ <;> (repeat' (first | exact Sz.mono (by assumption) (by decide) | exact Sz.mono (B.n (by assumption)) (by decide) | exact Sz.mono (B.d (by assumption)) (by decide) | exact Sz.of (m := 1000000000000) (by omega) (by decide) | exact Sz.of (m := 1000000) (by omega) (by decide) | exact B.mono (by assumption) (by decide) | exact ⟨Sz.of (m := 1000000000000) (by omega) (by decide), Sz.of (m := 1000000000000) (by omega) (by decide)⟩ | apply Sz.mul2 | (refine Sz.add2 ?_ ?_ (by decide)) | (refine Sz.sub2 ?_ ?_ (by decide)) | apply Sz.neg | apply B.mul2 | (refine B.add2 ?_ ?_ (by decide)) | (refine B.sub2 ?_ ?_ (by decide)) | apply B.neg)); done) | (refine nice_ok ?_; (repeat' (first | exact nice_shr | exact nice_spt | exact nice_mpv | exact nice_int | exact nice_bl | exact nice_non | exact nicel_nil | refine nicel_cons ?_ ?_ | refine nice_tup (by simp) ?_ | refine nice_lst (by simp) ?_)); done) | ((repeat' (first | exact Sz.mono (by assumption) (by decide) | exact Sz.mono (B.n (by assumption)) (by decide) | exact Sz.mono (B.d (by assumption)) (by decide) | exact Sz.of (m := 1000000000000) (by omega) (by decide) | exact Sz.of (m := 1000000) (by omega) (by decide) | exact B.mono (by assumption) (by decide) | exact ⟨Sz.of (m := 1000000000000) (by omega) (by decide), Sz.of (m := 1000000000000) (by omega) (by decide)⟩ | apply Sz.mul2 | (refine Sz.add2 ?_ ?_ (by decide)) | (refine Sz.sub2 ?_ ?_ (by decide)) | apply Sz.neg | apply B.mul2 | (refine B.add2 ?_ ?_ (by decide)) | (refine B.sub2 ?_ ?_ (by decide)) | apply B.neg)); done) | (unfold tB; simp; done) | decide)) only [d_law, b_law, S_done, S_asg, S_asgT, S_par, S_sub, S_expr, S_if, S_for, S_forB, S_ret, S_retN, E_var, E_cst, E_gl, E_yes, E_tup, E_lst, E_mkl, E_bin, E_mkb, E_neg, E_not, E_cmp, E_chain, E_isN, E_isB, E_and, E_or, E_ite, E_idx, E_rev, E_slc, P_non, P_cst, P_var, P_bin, P_neg, P_call, P_blt, E_call, E_blt, E_mkt, E_isi, E_app, Es_nil, Es_cons, E_T, E_alloc, E_lc, E_mkc, LC_nil, LC_cons, LC_B, lcQ, accO, bls, Option.map_some, List.all_cons, List.all_nil, id_eq, Bool.and_true, OkO_some, OkI_t, OkI_f, Ok_ok, OkS_next, OkS_ret, deref_int, deref_bl, deref_str, deref_non, deref_tup, deref_lst, deref_fn, deref_frz, deref_r0, deref_r1, deref_r2, T_bl, T_int, T_tup, T_lst, T_non, B_addI, B_addL, B_addT, B_subI, C_ltI, C_leI, C_gtI, C_geI, C_eqI, C_eqB, C_neB, C_neI, I_tup, I_lst, L_tup, L_lst, L_abs, L_max, L_min, L_int, L_tupL, L_tupT, L_listT, L_listL, L_listF, L_all, L_any, It_L, It_T, It_r1, It_r2, negO_int, intO_int, isBo, setAll, atI_0, atI_1, atI_2, atI_3, get_0, get_1, get_2, get_3, get_4, get_5, get_6, get_7, get_8, get_9, get_10, get_11, get_12, get_13, get_14, get_15, get_16, set_0, set_1, set_2, set_3, set_4, set_5, set_6, set_7, set_8, set_9, set_10, set_11, set_12, set_13, set_14, set_15, set_16, List.map_cons, List.map_nil, List.cons_append, List.nil_append, List.replicate_succ, List.replicate_zero, List.append_nil, List.length_cons, List.length_nil, if_true, if_false, Bool.not_true, Bool.not_false, Bool.false_eq_true, Nat.sub_self, Nat.reduceSub, Nat.reduceAdd, Nat.zero_add, Nat.reduceLeDiff, lim, and_true, true_and, decide_true, decide_false, PV.isRef, wipeE, B_mulI', B_divI', B_modI', decT, decF, I_shr0, I_shr1, D_shr, OkS_for_nil, C_eqR, C_neR, C_eqNil, C_neNil, C_eqI1, C_eqI2, C_eqB1, Rv_tup, Rv_lst, List.reverse_cons, List.reverse_nil, isTy, isNo_shr, isNo_tup, isNo_non, isNo_int, isNo_bl, isNo_str, isNo_lst, isNo_ref, bne_self_eq_false, Bool.bne_true, Bool.bne_false, Bool.true_bne, Bool.false_bne, bindT_nm, bindT_tp, bindT_shr, bindTs_nil, bindTs_cons, Option.bind_some, Int.toNat_natCast, get_17, set_17, get_18, set_18, get_19, set_19, get_20, set_20, E_sst, E_lrg, Rg_l, Rg_t, L_sum, inl, get_21, set_21, get_22, set_22, get_23, set_23, get_24, set_24, get_25, set_25, get_26, set_26, get_27, set_27, get_28, set_28, get_29, set_29, get_30, set_30, E_ktp, E_cnt]
    refine (lw_cup (by decide) h2 h1 h3).to fun r st1 ⟨e, hc⟩ => ?_
    rw [e]; clear e
    simp -dsimp (disch := first | (refine OM.mk ?_; first | omega | assumption | rfl) | ((fail_if_success refine OM.mk ?_); first | assumption | omega | exact deref_int | exact ty_int | exact deref_tup | exact ty_tup | exact D_shr | exact ty_shr | exact deref_bl | exact ty_bl | exact deref_non | exact ty_non | exact deref_str | exact ty_str | exact deref_lst | exact ty_lst | (refine mulOk_sz ?_ ?_ <;> (repeat' (first | exact Sz.mono (by assumption) (by decide) | exact Sz.mono (B.n (by assumption)) (by decide) | exact Sz.mono (B.d (by assumption)) (by decide) | exact Sz.of (m := 1000000000000) (by omega) (by decide) | exact Sz.of (m := 1000000) (by omega) (by decide) | exact B.mono (by assumption) (by decide) | exact ⟨Sz.of (m := 1000000000000) (by omega) (by decide), Sz.of (m := 1000000000000) (by omega) (by decide)⟩ | apply Sz.mul2 | (refine Sz.add2 ?_ ?_ (by decide)) | (refine Sz.sub2 ?_ ?_ (by decide)) | apply Sz.neg | apply B.mul2 | (refine B.add2 ?_ ?_ (by decide)) | (refine B.sub2 ?_ ?_ (by decide)) | apply B.neg)); done) | (refine nice_ok ?_; (repeat' (first | exact nice_shr | exact nice_spt | exact nice_mpv | exact nice_int | exact nice_bl | exact nice_non | exact nicel_nil | refine nicel_cons ?_ ?_ | refine nice_tup (by simp) ?_ | refine nice_lst (by simp) ?_)); done) | ((repeat' (first | exact Sz.mono (by assumption) (by decide) | exact Sz.mono (B.n (by assumption)) (by decide) | exact Sz.mono (B.d (by assumption)) (by decide) | exact Sz.of (m := 1000000000000) (by omega) (by decide) | exact Sz.of (m := 1000000) (by omega) (by decide) | exact B.mono (by assumption) (by decide) | exact ⟨Sz.of (m := 1000000000000) (by omega) (by decide), Sz.of (m := 1000000000000) (by omega) (by decide)⟩ | apply Sz.mul2 | (refine Sz.add2 ?_ ?_ (by decide)) | (refine Sz.sub2 ?_ ?_ (by decide)) | apply Sz.neg | apply B.mul2 | (refine B.add2 ?_ ?_ (by decide)) | (refine B.sub2 ?_ ?_ (by decide)) | apply B.neg)); done) | (unfold tB; simp; done) | decide)) only [S_done, S_asg, S_asgT, S_par, S_sub, S_expr, S_if, S_for, S_forB, S_ret, S_retN, E_var, E_cst, E_gl, E_yes, E_tup, E_lst, E_mkl, E_bin, E_mkb, E_neg, E_not, E_cmp, E_chain, E_isN, E_isB, E_and, E_or, E_ite, E_idx, E_rev, E_slc, P_non, P_cst, P_var, P_bin, P_neg, P_call, P_blt, E_call, E_blt, E_mkt, E_isi, E_app, Es_nil, Es_cons, E_T, E_alloc, E_lc, E_mkc, LC_nil, LC_cons, LC_B, lcQ, accO, bls, Option.map_some, List.all_cons, List.all_nil, id_eq, Bool.and_true, OkO_some, OkI_t, OkI_f, Ok_ok, OkS_next, OkS_ret, deref_int, deref_bl, deref_str, deref_non, deref_tup, deref_lst, deref_fn, deref_frz, deref_r0, deref_r1, deref_r2, T_bl, T_int, T_tup, T_lst, T_non, B_addI, B_addL, B_addT, B_subI, C_ltI, C_leI, C_gtI, C_geI, C_eqI, C_eqB, C_neB, C_neI, I_tup, I_lst, L_tup, L_lst, L_abs, L_max, L_min, L_int, L_tupL, L_tupT, L_listT, L_listL, L_listF, L_all, L_any, It_L, It_T, It_r1, It_r2, negO_int, intO_int, isBo, setAll, atI_0, atI_1, atI_2, atI_3, get_0, get_1, get_2, get_3, get_4, get_5, get_6, get_7, get_8, get_9, get_10, get_11, get_12, get_13, get_14, get_15, get_16, set_0, set_1, set_2, set_3, set_4, set_5, set_6, set_7, set_8, set_9, set_10, set_11, set_12, set_13, set_14, set_15, set_16, List.map_cons, List.map_nil, List.cons_append, List.nil_append, List.replicate_succ, List.replicate_zero, List.append_nil, List.length_cons, List.length_nil, if_true, if_false, Bool.not_true, Bool.not_false, Bool.false_eq_true, Nat.sub_self, Nat.reduceSub, Nat.reduceAdd, Nat.zero_add, Nat.reduceLeDiff, lim, and_true, true_and, decide_true, decide_false, PV.isRef, wipeE, B_mulI', B_divI', B_modI', decT, decF, I_shr0, I_shr1, D_shr, OkS_for_nil, C_eqR, C_neR, C_eqNil, C_neNil, C_eqI1, C_eqI2, C_eqB1, Rv_tup, Rv_lst, List.reverse_cons, List.reverse_nil, isTy, isNo_shr, isNo_tup, isNo_non, isNo_int, isNo_bl, isNo_str, isNo_lst, isNo_ref, bne_self_eq_false, Bool.bne_true, Bool.bne_false, Bool.true_bne, Bool.false_bne, bindT_nm, bindT_tp, bindT_shr, bindTs_nil, bindTs_cons, Option.bind_some, Int.toNat_natCast, get_17, set_17, get_18, set_18, get_19, set_19, get_20, set_20, E_sst, E_lrg, Rg_l, Rg_t, L_sum, inl, get_21, set_21, get_22, set_22, get_23, set_23, get_24, set_24, get_25, set_25, get_26, set_26, get_27, set_27, get_28, set_28, get_29, set_29, get_30, set_30, E_ktp, E_cnt, r8]
    refine for_KI [none, some (.ref 0), none, none, none, none, none, none, none, none, none, none, none, none, none, none, none, none, none, none, none] CupI ⟨hc, ⟨_, _, rfl, _, rfl, _, _, rfl, _, _, rfl, _, _, rfl, _, _, rfl, _, _, rfl, _, _, rfl, _, _, rfl, _, _, rfl, _, _, rfl, _, _, rfl, _, _, rfl, _, _, rfl, _, _, rfl, _, _, rfl, _, _, rfl, _, _, rfl, _, _, rfl, _, _, rfl, _, _, rfl, rfl⟩⟩ (fun v hv ρ st hc hk => turn_ok hk hc) fun ρ st hc hk => ?_
    obtain ⟨a0, _, rfl, _, rfl, a2, _, rfl, a3, _, rfl, a4, _, rfl, a5, _, rfl, a6, _, rfl, a7, _, rfl, a8, _, rfl, a9, _, rfl, a10, _, rfl, a11, _, rfl, a12, _, rfl, a13, _, rfl, a14, _, rfl, a15, _, rfl, a16, _, rfl, a17, _, rfl, a18, _, rfl, a19, _, rfl, a20, _, rfl, rfl⟩ := hk
    refine OkSp.of ?_
    simp -dsimp (disch := first | (refine OM.mk ?_; first | omega | assumption | rfl) | ((fail_if_success refine OM.mk ?_); first | assumption | omega | exact deref_int | exact ty_int | exact deref_tup | exact ty_tup | exact D_shr | exact ty_shr | exact deref_bl | exact ty_bl | exact deref_non | exact ty_non | exact deref_str | exact ty_str | exact deref_lst | exact ty_lst | (refine mulOk_sz ?_ ?_ <;> (repeat' (first | exact Sz.mono (by assumption) (by decide) | exact Sz.mono (B.n (by assumption)) (by decide) | exact Sz.mono (B.d (by assumption)) (by decide) | exact Sz.of (m := 1000000000000) (by omega) (by decide) | exact Sz.of (m := 1000000) (by omega) (by decide) | exact B.mono (by assumption) (by decide) | exact ⟨Sz.of (m := 1000000000000) (by omega) (by decide), Sz.of (m := 1000000000000) (by omega) (by decide)⟩ | apply Sz.mul2 | (refine Sz.add2 ?_ ?_ (by decide)) | (refine Sz.sub2 ?_ ?_ (by decide)) | apply Sz.neg | apply B.mul2 | (refine B.add2 ?_ ?_ (by decide)) | (refine B.sub2 ?_ ?_ (by decide)) | apply B.neg)); done) | (refine nice_ok ?_; (repeat' (first | exact nice_shr | exact nice_spt | exact nice_mpv | exact nice_int | exact nice_bl | exact nice_non | exact nicel_nil | refine nicel_cons ?_ ?_ | refine nice_tup (by simp) ?_ | refine nice_lst (by simp) ?_)); done) | ((repeat' (first | exact Sz.mono (by assumption) (by decide) | exact Sz.mono (B.n (by assumption)) (by decide) | exact Sz.mono (B.d (by assumption)) (by decide) | exact Sz.of (m := 1000000000000) (by omega) (by decide) | exact Sz.of (m := 1000000) (by omega) (by decide) | exact B.mono (by assumption) (by decide) | exact ⟨Sz.of (m := 1000000000000) (by omega) (by decide), Sz.of (m := 1000000000000) (by omega) (by decide)⟩ | apply Sz.mul2 | (refine Sz.add2 ?_ ?_ (by decide)) | (refine Sz.sub2 ?_ ?_ (by decide)) | apply Sz.neg | apply B.mul2 | (refine B.add2 ?_ ?_ (by decide)) | (refine B.sub2 ?_ ?_ (by decide)) | apply B.neg)); done) | (unfold tB; simp; done) | decide)) only [kL_law_1, S_done, S_asg, S_asgT, S_par, S_sub, S_expr, S_if, S_for, S_forB, S_ret, S_retN, E_var, E_cst, E_gl, E_yes, E_tup, E_lst, E_mkl, E_bin, E_mkb, E_neg, E_not, E_cmp, E_chain, E_isN, E_isB, E_and, E_or, E_ite, E_idx, E_rev, E_slc, P_non, P_cst, P_var, P_bin, P_neg, P_call, P_blt, E_call, E_blt, E_mkt, E_isi, E_app, Es_nil, Es_cons, E_T, E_alloc, E_lc, E_mkc, LC_nil, LC_cons, LC_B, lcQ, accO, bls, Option.map_some, List.all_cons, List.all_nil, id_eq, Bool.and_true, OkO_some, OkI_t, OkI_f, Ok_ok, OkS_next, OkS_ret, deref_int, deref_bl, deref_str, deref_non, deref_tup, deref_lst, deref_fn, deref_frz, deref_r0, deref_r1, deref_r2, T_bl, T_int, T_tup, T_lst, T_non, B_addI, B_addL, B_addT, B_subI, C_ltI, C_leI, C_gtI, C_geI, C_eqI, C_eqB, C_neB, C_neI, I_tup, I_lst, L_tup, L_lst, L_abs, L_max, L_min, L_int, L_tupL, L_tupT, L_listT, L_listL, L_listF, L_all, L_any, It_L, It_T, It_r1, It_r2, negO_int, intO_int, isBo, setAll, atI_0, atI_1, atI_2, atI_3, get_0, get_1, get_2, get_3, get_4, get_5, get_6, get_7, get_8, get_9, get_10, get_11, get_12, get_13, get_14, get_15, get_16, set_0, set_1, set_2, set_3, set_4, set_5, set_6, set_7, set_8, set_9, set_10, set_11, set_12, set_13, set_14, set_15, set_16, List.map_cons, List.map_nil, List.cons_append, List.nil_append, List.replicate_succ, List.replicate_zero, List.append_nil, List.length_cons, List.length_nil, if_true, if_false, Bool.not_true, Bool.not_false, Bool.false_eq_true, Nat.sub_self, Nat.reduceSub, Nat.reduceAdd, Nat.zero_add, Nat.reduceLeDiff, lim, and_true, true_and, decide_true, decide_false, PV.isRef, wipeE, B_mulI', B_divI', B_modI', decT, decF, I_shr0, I_shr1, D_shr, OkS_for_nil, C_eqR, C_neR, C_eqNil, C_neNil, C_eqI1, C_eqI2, C_eqB1, Rv_tup, Rv_lst, List.reverse_cons, List.reverse_nil, isTy, isNo_shr, isNo_tup, isNo_non, isNo_int, isNo_bl, isNo_str, isNo_lst, isNo_ref, bne_self_eq_false, Bool.bne_true, Bool.bne_false, Bool.true_bne, Bool.false_bne, bindT_nm, bindT_tp, bindT_shr, bindTs_nil, bindTs_cons, Option.bind_some, Int.toNat_natCast, get_17, set_17, get_18, set_18, get_19, set_19, get_20, set_20, E_sst, E_lrg, Rg_l, Rg_t, L_sum, inl, get_21, set_21, get_22, set_22, get_23, set_23, get_24, set_24, get_25, set_25, get_26, set_26, get_27, set_27, get_28, set_28, get_29, set_29, get_30, set_30, E_ktp, E_cnt]
    refine (lw_roll (by decide) (by decide) (Sz.of (m := 1001) (by decide) (by decide)) hc).to fun r st2 ⟨s, e, s0, s1, hc2⟩ => ?_
    rw [e]; clear e
    have f1 : fsc 0 2 := ⟨by decide, by decide, by decide⟩
    have f2 : fsc 0 1 := ⟨by decide, by decide, by decide⟩
    have f3 : fsc 0 3 := ⟨by decide, by decide, by decide⟩
    have r1 : rng (-3) 3 := ⟨by decide, by decide, by decide, by decide⟩
    have r2 : rng s s := ⟨by omega, by omega, by omega, by omega⟩
    have r3 : rng 0 5 := ⟨by decide, by decide, by decide, by decide⟩
    have t1 : (3 + 1 - (-3) : Int).toNat = 7 := rfl
    have t2 : (s + 1 - s : Int).toNat = 1 := by omega
    have t3 : (5 + 1 - 0 : Int).toNat = 6 := rfl
    simp -dsimp (disch := first | (refine OM.mk ?_; first | omega | assumption | rfl) | ((fail_if_success refine OM.mk ?_); first | assumption | omega | exact deref_int | exact ty_int | exact deref_tup | exact ty_tup | exact D_shr | exact ty_shr | exact deref_bl | exact ty_bl | exact deref_non | exact ty_non | exact deref_str | exact ty_str | exact deref_lst | exact ty_lst | (refine mulOk_sz ?_ ?_ <;> (repeat' (first | exact Sz.mono (by assumption) (by decide) | exact Sz.mono (B.n (by assumption)) (by decide) | exact Sz.mono (B.d (by assumption)) (by decide) | exact Sz.of (m := 1000000000000) (by omega) (by decide) | exact Sz.of (m := 1000000) (by omega) (by decide) | exact B.mono (by assumption) (by decide) | exact ⟨Sz.of (m := 1000000000000) (by omega) (by decide), Sz.of (m := 1000000000000) (by omega) (by decide)⟩ | apply Sz.mul2 | (refine Sz.add2 ?_ ?_ (by decide)) | (refine Sz.sub2 ?_ ?_ (by decide)) | apply Sz.neg | apply B.mul2 | (refine B.add2 ?_ ?_ (by decide)) | (refine B.sub2 ?_ ?_ (by decide)) | apply B.neg)); done) | (refine nice_ok ?_; (repeat' (first | exact nice_shr | exact nice_spt | exact nice_mpv | exact nice_int | exact nice_bl | exact nice_non | exact nicel_nil | refine nicel_cons ?_ ?_ | refine nice_tup (by simp) ?_ | refine nice_lst (by simp) ?_)); done) | ((repeat' (first | exact Sz.mono (by assumption) (by decide) | exact Sz.mono (B.n (by assumption)) (by decide) | exact Sz.mono (B.d (by assumption)) (by decide) | exact Sz.of (m := 1000000000000) (by omega) (by decide) | exact Sz.of (m := 1000000) (by omega) (by decide) | exact B.mono (by assumption) (by decide) | exact ⟨Sz.of (m := 1000000000000) (by omega) (by decide), Sz.of (m := 1000000000000) (by omega) (by decide)⟩ | apply Sz.mul2 | (refine Sz.add2 ?_ ?_ (by decide)) | (refine Sz.sub2 ?_ ?_ (by decide)) | apply Sz.neg | apply B.mul2 | (refine B.add2 ?_ ?_ (by decide)) | (refine B.sub2 ?_ ?_ (by decide)) | apply B.neg)); done) | (unfold tB; simp; done) | decide)) only [S_done, S_asg, S_asgT, S_par, S_sub, S_expr, S_if, S_for, S_forB, S_ret, S_retN, E_var, E_cst, E_gl, E_yes, E_tup, E_lst, E_mkl, E_bin, E_mkb, E_neg, E_not, E_cmp, E_chain, E_isN, E_isB, E_and, E_or, E_ite, E_idx, E_rev, E_slc, P_non, P_cst, P_var, P_bin, P_neg, P_call, P_blt, E_call, E_blt, E_mkt, E_isi, E_app, Es_nil, Es_cons, E_T, E_alloc, E_lc, E_mkc, LC_nil, LC_cons, LC_B, lcQ, accO, bls, Option.map_some, List.all_cons, List.all_nil, id_eq, Bool.and_true, OkO_some, OkI_t, OkI_f, Ok_ok, OkS_next, OkS_ret, deref_int, deref_bl, deref_str, deref_non, deref_tup, deref_lst, deref_fn, deref_frz, deref_r0, deref_r1, deref_r2, T_bl, T_int, T_tup, T_lst, T_non, B_addI, B_addL, B_addT, B_subI, C_ltI, C_leI, C_gtI, C_geI, C_eqI, C_eqB, C_neB, C_neI, I_tup, I_lst, L_tup, L_lst, L_abs, L_max, L_min, L_int, L_tupL, L_tupT, L_listT, L_listL, L_listF, L_all, L_any, It_L, It_T, It_r1, It_r2, negO_int, intO_int, isBo, setAll, atI_0, atI_1, atI_2, atI_3, get_0, get_1, get_2, get_3, get_4, get_5, get_6, get_7, get_8, get_9, get_10, get_11, get_12, get_13, get_14, get_15, get_16, set_0, set_1, set_2, set_3, set_4, set_5, set_6, set_7, set_8, set_9, set_10, set_11, set_12, set_13, set_14, set_15, set_16, List.map_cons, List.map_nil, List.cons_append, List.nil_append, List.replicate_succ, List.replicate_zero, List.append_nil, List.length_cons, List.length_nil, if_true, if_false, Bool.not_true, Bool.not_false, Bool.false_eq_true, Nat.sub_self, Nat.reduceSub, Nat.reduceAdd, Nat.zero_add, Nat.reduceLeDiff, lim, and_true, true_and, decide_true, decide_false, PV.isRef, wipeE, B_mulI', B_divI', B_modI', decT, decF, I_shr0, I_shr1, D_shr, OkS_for_nil, C_eqR, C_neR, C_eqNil, C_neNil, C_eqI1, C_eqI2, C_eqB1, Rv_tup, Rv_lst, List.reverse_cons, List.reverse_nil, isTy, isNo_shr, isNo_tup, isNo_non, isNo_int, isNo_bl, isNo_str, isNo_lst, isNo_ref, bne_self_eq_false, Bool.bne_true, Bool.bne_false, Bool.true_bne, Bool.false_bne, bindT_nm, bindT_tp, bindT_shr, bindTs_nil, bindTs_cons, Option.bind_some, Int.toNat_natCast, get_17, set_17, get_18, set_18, get_19, set_19, get_20, set_20, E_sst, E_lrg, Rg_l, Rg_t, L_sum, inl, get_21, set_21, get_22, set_22, get_23, set_23, get_24, set_24, get_25, set_25, get_26, set_26, get_27, set_27, get_28, set_28, get_29, set_29, get_30, set_30, E_ktp, E_cnt, sp_nearest, sp_meeting, t1, t2, t3, last1, last2, last3]
    refine Ok_eq (same_three (n := 38) (same_tabL (l := [-1, -1, 0, 0, 1, 1, 2]) (by decide) (by decide)) (same_tabL (l := [3 * s]) (by decide) (by simp)) (lw_same1 (by decide) (nice_ok ?_))) ?_
    · (repeat' (first | exact nice_shr | exact nice_spt | exact nice_mpv | exact nice_int | exact nice_bl | exact nice_non | exact nicel_nil | refine nicel_cons ?_ ?_ | refine nice_tup (by simp) ?_ | refine nice_lst (by simp) ?_))
    · rfl
  obtain ⟨r, st', e, rfl⟩ := Ok.ex main
  exact ⟨st', e⟩
end

end Ev.K83
end
section
set_option Elab.async false
set_option linter.all false
set_option maxRecDepth 100000
set_option maxHeartbeats 0
namespace Ev.K83
open PySem PySem.W PySem.Calls PyProof.Rows
theorem hes : es.all (Ent.ok G) = true := by decide +kernel
abbrev Rw : OpenRow := OpenLaw.row PySem.Challenge.rw_surveyyard_k83_whole_tables_of_degrees
abbrev hk : Hook := He.hookD 4 (factsOf es G) (es.map Ent.df)
def ob (s : SharedT) : He.AlD := He.obsDG 4 (factsOf es G) (es.map Ent.df) (HandSHeadRun.getT s)
theorem ob_eq (s : SharedT) : ob s = hk.obs s.abs := He.obsDG_eq (HandSHeadRun.getT_eq s)
theorem run (w : World) : HandSHeadRun.RunEq Rw (view Rw.prog [lawT]) hk ob 4000 others w := by
  intro os
  kernel_rfl
theorem law_tr (ns : List Int) (v : PV) (h1 : ns.length ≤ 63) (h2 : ∀ z ∈ ns, PySem.Builtin.Int.intBits z ≤ 1048576) (h3 : v = .frz (ns.map .int) ∨ v = .lst (ns.map .int)) : ∃ st', callN (es.map (·.d)) 5000 40 lawI [v] [] = .ok (.bl true) st' := by
  have := law_true (Tb := tab) ns v h1 h2 h3
  rw [tab_eq] at this
  exact this
end Ev.K83
open PySem PySem.W PySem.Calls PyProof.Rows
set_option maxHeartbeats 0 in
theorem PySem.Challenge.cw_surveyyard_k83_whole_tables_of_degrees_holds : PySem.Challenge.rw_surveyyard_k83_whole_tables_of_degrees.Holds := by
  w_on; o_law
  refine HandSHeadRun.head_any (r := Ev.K83.Rw) (q := view Ev.K83.Rw.prog [Ev.K83.lawT]) (H := Ev.K83.hk) (ob := Ev.K83.ob) (M := 4000) (loose := Ev.K83.others) (d := HandSHeadRun.topDef Ev.K83.Rw.prog Ev.K83.lawT) (kwd := []) Ev.K83.ob_eq
    (by kernel_rfl) (fun s => by kernel_rfl) Ev.K83.run (by kernel_rfl) (by kernel_rfl) (by kernel_rfl) (by rfl) (by first | assumption | decide +kernel) (by decide +kernel) ⟨rfl, rfl, rfl, rfl, rfl, by decide +kernel⟩ ?hw ?hc
  case hw => w_witness2
  case hc =>
    refine LamX.walk_ofTsE (l := PySem.Challenge.rw_surveyyard_k83_whole_tables_of_degrees) (n := 63) (k := 40) (x := "script") (CX := fun w => L2.CX PySem.Challenge.rw_surveyyard_k83_whole_tables_of_degrees.prog w) rfl (by decide) (by kernel_rfl) ⟨rfl, by decide, by decide⟩ ?F ?C
    case C =>
      intro w H s e s' h
      obtain ⟨_, _, _, _, _, _, _, _, _, _, _, _, z⟩ := h
      exact z.elim
    case F =>
      intro w mg fa h Y G hmg0
      obtain ⟨K, KX, c⟩ := Y
      have hmg : mg ("law" : PySem.Str) = some (.ref fa) := by
        have e : (HandSHeadRun.topDef Ev.K83.Rw.prog Ev.K83.lawT).name = ("law" : PySem.Str) := by kernel_rfl
        rw [← e]
        exact hmg0
      exact ⟨K, KX, Ev.law_at (W := 5000) (f := Ev.K83.lawI) (e := Ev.K83.es[Ev.K83.lawI]) Ev.K83.hes rfl Ev.K83.hb KX G c rfl hmg (by decide) rfl Ev.K83.law_tr⟩
end
