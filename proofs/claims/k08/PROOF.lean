import PyProof.Rows.All
import Wide.All
import OpenK.AllK
import Wide.FinOn
import PySem.Syntax
import HandS.ForMost
import HandS.ForExc
import HandS.TryMany
import HandS.ExcInit
import HandS.Wide
import HandS.TupAny
import HandS.TupMul
import HandS.IsInst
import HandS.Walk
import HandS.Style
import HandS.LawCells
import HandS.SortInts
import KE.KeyNested
import PyProof.DictRoadsH
import HandS.Dict
import PyProof.StrBlock2
import HandS.Gcd
import KE.IntTextLaws
import HandS.RaiseMore
import KE.DataMinMax
import HandS.EndBits
import PyProof.ReprText
import PyProof.ReprRoads
import HandS.ExcIs
import HandS.ExcField
import HandS.ExcOwn
import HandS.Rev
import HandS.Zip
import KE.GoesMore
import HandS.RevRange
import KE.GoesEnum
import HandS.DictComp
import PyProof.Rows.TupDisplay
import PySem.Challenge.RW_umpirehall_k08_way_to
set_option Elab.async false
set_option linter.all false
set_option maxRecDepth 100000
set_option autoImplicit false
set_option maxHeartbeats 0
namespace G

inductive PV where
  | non | bl (b : Bool) | int (i : Int) | str (s : List Char) | tup (l : List PV) | lst (l : List PV) | dct (l : List (PV × PV))
  deriving Inhabited, Repr

structure Exn where
  cls : Nat
  fld : List PV
  deriving Inhabited, Repr

inductive R (α : Type) where
  | ok (a : α) | ex (x : Exn) | bad
  deriving Inhabited, Repr
@[inline] def R.bind {α β : Type} : R α → (α → R β) → R β
  | .ok a, f => f a
  | .ex x, _ => .ex x
  | .bad, _ => .bad
instance : Monad R where
  pure := .ok
  bind := R.bind
@[simp] theorem bind_ok {α β : Type} (a : α) (f : α → R β) : (R.ok a >>= f) = f a := rfl
@[simp] theorem bind_ex {α β : Type} (x : Exn) (f : α → R β) : (R.ex x >>= f) = R.ex x := rfl
@[simp] theorem bind_bad {α β : Type} (f : α → R β) : ((R.bad : R α) >>= f) = R.bad := rfl
@[simp] theorem pure_ok {α : Type} (a : α) : (pure a : R α) = R.ok a := rfl

mutual
def eqP : PV → PV → Bool
  | .non, .non => true
  | .bl a, .bl b => a == b
  | .bl a, .int b => (if a then 1 else 0) == b
  | .int a, .bl b => a == (if b then 1 else 0)
  | .int a, .int b => a == b
  | .str a, .str b => a == b
  | .tup a, .tup b => eqL a b
  | .lst a, .lst b => eqL a b
  | _, _ => false
def eqL : List PV → List PV → Bool
  | [], [] => true
  | a :: r, b :: q => eqP a b && eqL r q
  | _, _ => false
end

mutual
/-- no dict within, at most n deep -/
def flat : Nat → PV → Bool
  | _, .non | _, .bl _ | _, .int _ | _, .str _ => true
  | _, .dct _ => false
  | 0, .tup _ | 0, .lst _ => false
  | n + 1, .tup l => flatL n l
  | n + 1, .lst l => flatL n l
def flatL : Nat → List PV → Bool
  | _, [] => true
  | n, a :: r => flat n a && flatL n r
end

mutual
/-- no dict within -/
def nod : PV → Bool
  | .dct _ => false
  | .tup l => nodL l
  | .lst l => nodL l
  | _ => true
def nodL : List PV → Bool
  | [] => true
  | a :: r => nod a && nodL r
end
mutual
/-- a value that may be a key, at most n deep -/
def keyB : Nat → PV → Bool
  | _, .non | _, .bl _ | _, .int _ | _, .str _ => true
  | n + 1, .tup l => keyBs n l
  | _, _ => false
def keyBs : Nat → List PV → Bool
  | _, [] => true
  | n, a :: r => keyB n a && keyBs n r
end
def okEq (x y : PV) : Bool := (flat 60 x && nod y) || (nod x && flat 60 y)
def okIn (x : PV) (l : List PV) : Bool := (flat 60 x && nodL l) || (nod x && flatL 60 l)

inductive Slot where
  | un | sh (p : PV) | ol (l : List PV) | od (l : List (PV × PV)) | exn (x : Exn)
  deriving Inhabited, Repr
abbrev Env := List Slot

inductive BO | add | sub | mul | fdiv | mod | pow
inductive CO | eq | ne | lt | le | gt | ge | is | isn | isin | nin
inductive Bi | len | int | str | tuple | list | abs | min2 | max2 | min1 | max1 | sum | sorted | all | any | repr | gcd
inductive Me | count | index | get1 | get2 | startswith | split | join | rep | rvs

mutual
inductive T where
  | one (i : Nat) | many (ts : List T)
inductive E where
  | con (p : PV) | var (i : Nat)
  | tup (es : List E) | lst (es : List E) | dct (ks vs : List E)
  | bin (o : BO) (a b : E) | neg (a : E) | not (a : E)
  | and (a b : E) | or (a b : E) | ife (c a b : E)
  | cmp (o : CO) (a b : E) | chn (o1 o2 : CO) (a b c : E)
  | sub (a i : E) | slc (a : E) (lo hi : Option E)
  | call (f : Nat) (args : List E) | bi (b : Bi) (args : List E) | met (m : Me) (o : E) (args : List E)
  | isi (e : E) (t : Nat)
  | lc (vs : List Nat) (t : T) (it : I) (tst : Option E) (e : E)
  | dc (vs : List Nat) (t : T) (it : I) (tst : Option E) (k e : E)
  | fld (i : Nat) (k : Nat) | isx (i : Nat) (c : Nat)
inductive I where
  | seq (e : E) | rng (es : List E) | enm (e : E) | zip (a b : E) | rev (e : E) | itm (e : E) | rrg (es : List E)
end

mutual
inductive S where
  | set (t : T) (e : E) | own (i : Nat) (e : E)
  | app (i : Nat) (e : E) | put (i : Nat) (k e : E)
  | exp (e : E) | ite (c : E) (a b : List S)
  | loop (t : T) (it : I) (b : List S) | whl (c : E) (b : List S)
  | ret (e : E) | retN | pas | brk | cnt
  | rse (c : Nat) (args : List E)
  | tri (b : List S) (hs : List H)
  | frz (i : Nat)
inductive H where
  | mk (c : Nat) (i : Option Nat) (b : List S)
end

/-! ### operations on values -/
def lineMax : Nat := 16777216
def tupOk {α : Type} (l : List α) (k : List α → PV) : R PV := if l.length ≤ lineMax then .ok (k l) else .bad
def small64 (a : Int) : Bool := decide (-18446744073709551616 < a) && decide (a < 18446744073709551616)
def mulOk (a b : Int) : Bool := small64 a || small64 b || (decide (a.natAbs < 2 ^ 9000) && decide (b.natAbs < 2 ^ 9000))
def repL {α : Type} (l : List α) (k : Int) : List α := (List.replicate k.toNat l).flatten
def pvBin : BO → PV → PV → R PV
  | .add, .int a, .int b => .ok (.int (a + b))
  | .add, .str a, .str b => tupOk (a ++ b) .str
  | .add, .tup a, .tup b => tupOk (a ++ b) .tup
  | .add, .lst a, .lst b => tupOk (a ++ b) .lst
  | .sub, .int a, .int b => .ok (.int (a - b))
  | .mul, .int a, .int b => if mulOk a b then .ok (.int (a * b)) else .bad
  | .mul, .str a, .int b => if 1 ≤ a.length ∧ a.length ≤ 1000 ∧ 2 ≤ b ∧ b ≤ 1000 then .ok (.str (repL a b)) else .bad
  | .mul, .tup a, .int b => if a ≠ [] ∧ 2 ≤ b ∧ b ≤ 1000 ∧ a.length ≤ 1000 then .ok (.tup (repL a b)) else .bad
  | .fdiv, .int a, .int b => if 0 < b ∧ b < 1073741824 then .ok (.int (a / b)) else if b ≠ 0 ∧ b.natAbs < 2 ^ 9000 then .ok (.int (a.fdiv b)) else .bad
  | .mod, .int a, .int b => if 0 < b then .ok (.int (a % b)) else .bad
  | .pow, .int a, .int b => if 0 ≤ b ∧ b ≤ 1000000 ∧ small64 a then .ok (.int (a ^ b.toNat)) else .bad
  | _, _, _ => .bad
def pvNeg : PV → R PV
  | .int a => .ok (.int (-a))
  | _ => .bad
def pvBl : PV → R Bool
  | .bl b => .ok b
  | _ => .bad
/-- the truth of a value -/
def truth : PV → R Bool
  | .bl b => .ok b
  | _ => .bad
def hasP (l : List PV) (p : PV) : Bool := l.any fun q => eqP q p
def ixAt {α : Type} (l : List α) (i : Int) : Option α :=
  if 0 ≤ i then l[i.toNat]? else if 0 ≤ i + l.length then l[(i + l.length).toNat]? else none
def cl (n d : Nat) : Option Int → Nat
  | none => d
  | some i => if i < 0 then (i + n).toNat else min i.toNat n
def cut {α : Type} (l : List α) (lo hi : Option Int) : List α := (l.drop (cl l.length 0 lo)).take (cl l.length l.length hi - cl l.length 0 lo)
def dget (l : List (PV × PV)) (k : PV) : Option PV := (l.find? fun e => eqP e.1 k).map (·.2)
def dset : List (PV × PV) → PV → PV → List (PV × PV)
  | [], k, v => [(k, v)]
  | e :: r, k, v => if eqP e.1 k then (e.1, v) :: r else e :: dset r k v
def isNon : PV → Bool
  | .non => true
  | _ => false
def isTF (p q : PV) : R Bool := match q with
  | .non => .ok (isNon p)
  | .bl b => match p with
    | .bl a => .ok (decide (a = b))
    | _ => .ok false
  | _ => .bad
def pvIn (x y : PV) : R Bool := match y with
  | .tup l => if okIn x l then .ok (hasP l x) else .bad
  | .lst l => if okIn x l then .ok (hasP l x) else .bad
  | .dct l => if keyB 8 x then .ok (dget l x).isSome else .bad
  | .str z => match x with
    | .str [c] => .ok (decide (c ∈ z))
    | _ => .bad
  | _ => .bad
def pvCmp : CO → PV → PV → R PV
  | .eq, x, y => if okEq x y then .ok (.bl (eqP x y)) else .bad
  | .ne, x, y => if okEq x y then .ok (.bl (!eqP x y)) else .bad
  | .lt, .int a, .int b => .ok (.bl (decide (a < b)))
  | .le, .int a, .int b => .ok (.bl (decide (a ≤ b)))
  | .gt, .int a, .int b => .ok (.bl (decide (a > b)))
  | .ge, .int a, .int b => .ok (.bl (decide (a ≥ b)))
  | .is, x, y => do let b ← isTF x y; .ok (.bl b)
  | .isn, x, y => do let b ← isTF x y; .ok (.bl (!b))
  | .isin, x, y => do let b ← pvIn x y; .ok (.bl b)
  | .nin, x, y => do let b ← pvIn x y; .ok (.bl (!b))
  | _, _, _ => .bad
def ofO {α : Type} : Option α → R α
  | some a => .ok a
  | none => .bad
def pvSub : PV → PV → R PV
  | .lst l, .int i => ofO (ixAt l i)
  | .tup l, .int i => ofO (ixAt l i)
  | .str l, .int i => if l.length ≤ lineMax then (ofO (ixAt l i)).bind fun c => .ok (.str [c]) else .bad
  | .dct l, k => if keyB 8 k then ofO (dget l k) else .bad
  | _, _ => .bad
def pvSlc : PV → Option Int → Option Int → R PV
  | .lst l, lo, hi => .ok (.lst (cut l lo hi))
  | .tup l, lo, hi => .ok (.tup (cut l lo hi))
  | .str l, lo, hi => if l.length ≤ lineMax then .ok (.str (cut l lo hi)) else .bad
  | _, _, _ => .bad
def toInt : PV → R Int
  | .int i => .ok i
  | _ => .bad
def allInt : List PV → Option (List Int)
  | [] => some []
  | .int i :: r => (allInt r).map (i :: ·)
  | _ => none
def allStr : List PV → Option (List (List Char))
  | [] => some []
  | .str i :: r => (allStr r).map (i :: ·)
  | _ => none
def allBl : List PV → Option (List Bool)
  | [] => some []
  | .bl i :: r => (allBl r).map (i :: ·)
  | _ => none
def isDig (c : Char) : Bool := decide (48 ≤ c.toNat) && decide (c.toNat ≤ 57)
def digVal (l : List Char) : Nat := l.foldl (fun a c => a * 10 + (c.toNat - 48)) 0
def numS (i : Int) : List Char := (toString i).toList
def seqOf : PV → Option (List PV)
  | .lst l => some l
  | .tup l => some l
  | _ => none
def sortI (l : List Int) : List Int := l.mergeSort (fun a b => decide (a ≤ b))
def leS (a b : List Char) : Bool := !decide (b < a)
def sortS (l : List (List Char)) : List (List Char) := l.mergeSort leS
def biLen : PV → R PV
  | .lst l => .ok (.int l.length)
  | .tup l => .ok (.int l.length)
  | .str l => if l.length ≤ lineMax then .ok (.int l.length) else .bad
  | .dct l => if l.length ≤ lineMax then .ok (.int l.length) else .bad
  | _ => .bad
def biInt : PV → R PV
  | .int i => .ok (.int i)
  | .bl b => .ok (.int (if b then 1 else 0))
  | .str l => if l.all isDig && decide (0 < l.length) && decide (l.length ≤ 600) then .ok (.int (digVal l)) else .bad
  | _ => .bad
def biStr : PV → R PV
  | .str l => .ok (.str l)
  | .int i => if small64 i then .ok (.str (numS i)) else .bad
  | _ => .bad
def biTuple : PV → R PV
  | .lst l => .ok (.tup l)
  | .tup l => .ok (.tup l)
  | _ => .bad
def biList : PV → R PV
  | .lst l => .ok (.lst l)
  | .tup l => .ok (.lst l)
  | _ => .bad
def biAbs : PV → R PV
  | .int i => .ok (.int (if i < 0 then -i else i))
  | _ => .bad
def biMin2 : PV → PV → R PV
  | .int i, .int j => .ok (.int (if j < i then j else i))
  | _, _ => .bad
def biMax2 : PV → PV → R PV
  | .int i, .int j => .ok (.int (if j > i then j else i))
  | _, _ => .bad
def biMin1 : PV → R PV
  | .lst l => match allInt l with
    | some (n :: r) => .ok (.int (r.foldl min n))
    | _ => .bad
  | _ => .bad
def biMax1 : PV → R PV
  | .lst l => match allInt l with
    | some (n :: r) => .ok (.int (r.foldl max n))
    | _ => .bad
  | _ => .bad
def biGcd : PV → PV → R PV
  | .int i, .int j => .ok (.int (Nat.gcd i.natAbs j.natAbs : Nat))
  | _, _ => .bad
def biSum : PV → R PV
  | .lst l => (ofO (allInt l)).bind fun l => .ok (.int l.sum)
  | .tup l => (ofO (allInt l)).bind fun l => .ok (.int l.sum)
  | _ => .bad
def biSorted : PV → R PV
  | .lst l => (ofO (allInt l)).bind fun l => .ok (.lst ((sortI l).map .int))
  | _ => .bad
def biAll : PV → R PV
  | .lst l => (ofO (allBl l)).bind fun l => .ok (.bl (l.all id))
  | _ => .bad
def biAny : PV → R PV
  | .lst l => (ofO (allBl l)).bind fun l => .ok (.bl (l.any id))
  | _ => .bad
def plainC (c : Char) : Bool := decide (32 ≤ c.toNat) && decide (c.toNat < 127) && decide (c.toNat ≠ 39) && decide (c.toNat ≠ 92)
def joinC : List (List Char) → List Char
  | [] => []
  | [x] => x
  | x :: y :: r => x ++ [',', ' '] ++ joinC (y :: r)
mutual
/-- what repr writes -/
def repP : PV → List Char
  | .non => ['N', 'o', 'n', 'e']
  | .bl true => ['T', 'r', 'u', 'e']
  | .bl false => ['F', 'a', 'l', 's', 'e']
  | .int i => numS i
  | .str l => ['\''] ++ l ++ ['\'']
  | .tup l => ['('] ++ joinC (repPs l) ++ (if l.length = 1 then [',', ')'] else [')'])
  | .lst l => ['['] ++ joinC (repPs l) ++ [']']
  | .dct _ => []
def repPs : List PV → List (List Char)
  | [] => []
  | a :: r => repP a :: repPs r
end
mutual
def repOk : PV → Bool
  | .non | .bl _ => true
  | .int i => small64 i
  | .str l => l.all plainC
  | .tup l => repOks l
  | .lst l => repOks l
  | .dct _ => false
def repOks : List PV → Bool
  | [] => true
  | a :: r => repOk a && repOks r
end
def isRep : PV → Bool
  | .str _ | .tup _ | .lst _ => true
  | _ => false
def biRepr (p : PV) : R PV := if isRep p && flat 60 p && repOk p && decide ((repP p).length ≤ lineMax) then .ok (.str (repP p)) else .bad
def un1 (f : PV → R PV) : List PV → R PV
  | [x] => f x
  | _ => .bad
def un2 (f : PV → PV → R PV) : List PV → R PV
  | [x, y] => f x y
  | _ => .bad
def pvBi : Bi → List PV → R PV
  | .len => un1 biLen
  | .int => un1 biInt
  | .str => un1 biStr
  | .tuple => un1 biTuple
  | .list => un1 biList
  | .abs => un1 biAbs
  | .min2 => un2 biMin2
  | .max2 => un2 biMax2
  | .sum => un1 biSum
  | .sorted => un1 biSorted
  | .all => un1 biAll
  | .any => un1 biAny
  | .gcd => un2 biGcd
  | .min1 => un1 biMin1
  | .max1 => un1 biMax1
  | .repr => un1 biRepr
def pvMe : Me → PV → List PV → R PV
  | .get1, .dct l, [k] => if keyB 8 k then .ok ((dget l k).getD .non) else .bad
  | .rep, .lst l, [.int k] => if 0 ≤ k ∧ k ≤ 1000 ∧ l.length ≤ 1000 then .ok (.lst (repL l k)) else .bad
  | .rvs, .lst l, [] => .ok (.lst l.reverse)
  | .get2, .dct l, [k, d] => if keyB 8 k then .ok ((dget l k).getD d) else .bad
  | _, _, _ => .bad
/-- what the method is asked of -/
def meOk : Me → PV → Bool
  | .get1, .dct _ | .get2, .dct _ | .rep, _ | .rvs, _ => true
  | _, _ => false
def guardL {α : Type} (b : Bool) (r : R α) : R α := if b then r else .bad
/-- int, bool, str, tuple, list, dict -/
def tyTest : Nat → PV → Bool
  | 0, .int _ | 0, .bl _ | 1, .bl _ | 2, .str _ | 3, .tup _ | 4, .lst _ | 5, .dct _ => true
  | _, _ => false

/-! ### the slots -/
def getV (env : Env) (i : Nat) : R PV :=
  match env[i]? with
  | some (.sh p) => .ok p
  | some (.ol l) => .ok (.lst l)
  | some (.od l) => .ok (.dct l)
  | _ => .bad
def owned (env : Env) (i : Nat) : Bool :=
  match env[i]? with
  | some (.ol _) | some (.od _) => true
  | _ => false
/-- the value of e may be stored: e is no name that owns a list -/
def lone (env : Env) : E → Bool
  | .var i => !owned env i
  | _ => true
def loneL (env : Env) (es : List E) : Bool := es.all (lone env)
def scal : PV → Bool
  | .non | .bl _ | .int _ | .str _ => true
  | _ => false
mutual
def asg : T → PV → Env → Option Env
  | .one i, p, env => if i < env.length then some (env.set i (.sh p)) else none
  | .many ts, .tup l, env => asgL ts l env
  | .many _, _, _ => none
def asgL : List T → List PV → Env → Option Env
  | [], [], env => some env
  | t :: ts, p :: ps, env => match asg t p env with
    | some env' => asgL ts ps env'
    | none => none
  | _, _, _ => none
end
/-- what a call gives: where a name's own list went in, plain values alone -/
def outC (b : Bool) : R PV → R PV
  | .ok r => if b || scal r then .ok r else .bad
  | .ex x => if b || x.fld.all scal then .ex x else .bad
  | .bad => .bad
def noEx {α : Type} : R α → R α
  | .ex _ => .bad
  | r => r
def range1 (lo hi : Int) : List PV := (List.range (hi - lo).toNat).map fun (k : Nat) => .int (lo + k)
def enum (l : List PV) : List PV := l.zipIdx.map fun p => .tup [.int p.2, p.1]
def itOf : PV → R (List PV)
  | .lst l => .ok l
  | .tup l => .ok l
  | .str l => .ok (l.map fun c => .str [c])
  | .dct l => .ok (l.map (·.1))
  | _ => .bad
def seqR (p : PV) : R (List PV) := ofO (seqOf p)
def rngOk (i : Int) : Bool := decide (-1073741824 ≤ i) && decide (i ≤ 1073741824)
def pvRng : List PV → R (List PV)
  | [.int j] => if rngOk j then .ok (range1 0 j) else .bad
  | [.int i, .int j] => if rngOk i && rngOk j then .ok (range1 i j) else .bad
  | _ => .bad
def pairs (l r : List PV) : List PV := (l.zip r).map fun p => .tup [p.1, p.2]

def zipR : PV → PV → R (List PV)
  | .lst l, .lst r => .ok (pairs l r)
  | .tup l, .tup r => .ok (pairs l r)
  | _, _ => .bad

/-- the block's own names are as new -/
def wipeE (env : Env) : List Nat → Env
  | [] => env
  | v :: vs => (wipeE env vs).set v .un
abbrev Orc := Nat → List PV → R PV
/-- one turn after another of a comprehension -/
def lcL (asn : PV → Env → Option Env) (tst : Env → R Bool) (elt : Env → R PV) (env : Env) : List PV → R (List PV)
  | [] => .ok []
  | p :: ps => match asn p env with
    | none => .bad
    | some e1 => do
      let b ← noEx (tst e1)
      if b then do
        let v ← noEx (elt e1)
        let r ← lcL asn tst elt env ps
        .ok (v :: r)
      else lcL asn tst elt env ps
/-- one turn after another of a dict comprehension -/
def dcL (asn : PV → Env → Option Env) (tst : Env → R Bool) (kf vf : Env → R PV) (env : Env) : List PV → List (PV × PV) → R (List (PV × PV))
  | [], d => .ok d
  | p :: ps, d => match asn p env with
    | none => .bad
    | some e1 => do
      let b ← noEx (tst e1)
      if b then do
        let k ← noEx (kf e1)
        let v ← noEx (vf e1)
        if keyB 8 k && decide (d.length < lineMax) then dcL asn tst kf vf env ps (dset d k v) else .bad
      else dcL asn tst kf vf env ps d
def guardX (b : Bool) (r : R PV) : R PV := if b then r else .bad

def hitH (anc : List (List Nat)) (x : Exn) (d : Nat) : Bool := match anc[x.cls]? with
  | some l => l.contains d
  | none => false
section
variable (c : Orc) (anc : List (List Nat))
mutual
def denE : E → Env → R PV
  | .con p, _ => .ok p
  | .var i, env => getV env i
  | .tup es, env => do let l ← denX es env; tupOk l .tup
  | .lst es, env => do let l ← denX es env; tupOk l .lst
  | .dct ks vs, env => do
    let l ← noEx (denX ks env)
    let r ← noEx (denX vs env)
    if keyBs 8 l && decide (l.length ≤ 15) then .ok (.dct ((l.zip r).foldl (fun d e => dset d e.1 e.2) [])) else .bad
  | .bin o a b, env => do let x ← denE a env; let y ← denE b env; pvBin o x y
  | .neg a, env => do let x ← denE a env; pvNeg x
  | .not a, env => do let x ← denE a env; let t ← truth x; .ok (.bl (!t))
  | .and a b, env => do
    let x ← denE a env
    let t ← pvBl x
    if t then guardX (lone env b) (denE b env) else .ok (.bl false)
  | .or a b, env => do
    let x ← denE a env
    let t ← pvBl x
    if t then .ok (.bl true) else guardX (lone env b) (denE b env)
  | .ife t a b, env => do
    let x ← denE t env
    let t ← truth x
    if t then guardX (lone env a) (denE a env) else guardX (lone env b) (denE b env)
  | .cmp o a b, env => do let x ← denE a env; let y ← denE b env; pvCmp o x y
  | .chn o1 o2 a b d, env => do
    let x ← denE a env
    let y ← denE b env
    let z ← pvCmp o1 x y
    let t ← pvBl z
    if t then do let u ← denE d env; pvCmp o2 y u else .ok (.bl false)
  | .sub a i, env => do let x ← denE a env; let y ← denE i env; pvSub x y
  | .slc a lo hi, env => do
    let x ← denE a env
    let l ← denO lo env
    let h ← denO hi env
    pvSlc x l h
  | .call f es, env => do
    let l ← denEs es env
    outC (loneL env es) (c f l)
  | .bi b es, env => do let l ← denEs es env; pvBi b l
  | .met m o es, env => do let x ← denE o env; let l ← guardL (meOk m x) (denX es env); pvMe m x l
  | .isi e t, env => do let x ← denE e env; .ok (.bl (tyTest t x))
  | .lc vs t it tst e, env => do
    let l ← denI it env
    let r ← lcL (asg t) (fun e1 => match tst with | some q => (denE q e1).bind truth | none => .ok true) (fun e1 => guardX (lone e1 e) (denE e e1)) (wipeE env vs) l
    if r.length < lineMax then .ok (.lst r) else .bad
  | .dc vs t it tst k e, env => do
    let l ← denI it env
    let d ← dcL (asg t) (fun e1 => match tst with | some q => (denE q e1).bind truth | none => .ok true) (fun e1 => guardX (lone e1 k) (denE k e1)) (fun e1 => guardX (lone e1 e) (denE e e1)) (wipeE env vs) l []
    .ok (.dct d)
  | .fld i k, env => match env[i]? with
    | some (.exn x) => ofO x.fld[k]?
    | _ => .bad
  | .isx i d, env => match env[i]? with
    | some (.exn x) => if x.fld.isEmpty then .ok (.bl (hitH anc x d)) else .bad
    | _ => .bad
def denEs : List E → Env → R (List PV)
  | [], _ => .ok []
  | e :: es, env => do let x ← denE e env; let r ← denEs es env; .ok (x :: r)
def denX : List E → Env → R (List PV)
  | [], _ => .ok []
  | e :: es, env => do let x ← guardX (lone env e) (denE e env); let r ← denX es env; .ok (x :: r)
def denO : Option E → Env → R (Option Int)
  | none, _ => .ok none
  | some e, env => do let x ← denE e env; let i ← toInt x; .ok (some i)
def denI : I → Env → R (List PV)
  | .seq e, env => do let x ← denE e env; itOf x
  | .rng es, env => do let l ← denEs es env; pvRng l
  | .enm e, env => do let x ← denE e env; let l ← seqR x; .ok (enum l)
  | .zip a b, env => do let x ← denE a env; let y ← denE b env; zipR x y
  | .rev e, env => do let x ← denE e env; let l ← seqR x; .ok l.reverse
  | .rrg es, env => do let l ← denEs es env; let r ← pvRng l; .ok r.reverse
  | .itm e, env => do
    let x ← denE e env
    match x with
    | .dct l => .ok (l.map fun p => .tup [p.1, p.2])
    | _ => .bad
end
end

/-! ### statements -/
inductive F where
  | nx (env : Env) | rt (p : PV) | bk (env : Env) | ct (env : Env) | ex (x : Exn) (env : Env) | bad
  deriving Inhabited, Repr
def F.thn : F → (Env → F) → F
  | .nx e, k => k e
  | f, _ => f
def ofR {α : Type} (env : Env) : R α → (α → F) → F
  | .ok a, k => k a
  | .ex x, _ => .ex x env
  | .bad, _ => .bad
def forL (body : Env → F) (asn : PV → Env → Option Env) : List PV → Env → F
  | [], env => .nx env
  | p :: ps, env => match asn p env with
    | none => .bad
    | some e1 => match body e1 with
      | .nx e | .ct e => forL body asn ps e
      | .bk e => .nx e
      | f => f
def whlL (cond : Env → R Bool) (body : Env → F) : Nat → Env → F
  | 0, _ => .bad
  | n + 1, env => ofR env (cond env) fun b =>
    if b then match body env with
      | .nx e | .ct e => whlL cond body n e
      | .bk e => .nx e
      | f => f
    else .nx env
def freshE : E → Bool
  | .lst _ | .dct .. | .lc .. | .dc .. | .met .rep .. | .met .rvs .. | .bi .list _ | .bi .sorted _ | .slc .. | .bin .add .. | .bin .mul .. => true
  | _ => false
def ownV (env : Env) (i : Nat) : PV → Option Env
  | .lst l => if i < env.length then some (env.set i (.ol l)) else none
  | .dct l => if i < env.length then some (env.set i (.od l)) else none
  | _ => none
def optF (o : Option Env) : F := match o with
  | some e => .nx e
  | none => .bad
def putV (env : Env) (i : Nat) (k v : PV) : F :=
  match env[i]?, k with
  | some (.ol l), .int j => if 0 ≤ j ∧ j < l.length then .nx (env.set i (.ol (l.set j.toNat v))) else .bad
  | some (.od l), k => if keyB 8 k && decide (l.length < lineMax) then .nx (env.set i (.od (dset l k v))) else .bad
  | _, _ => .bad
def isExn : Slot → Bool
  | .exn _ => true
  | _ => false
def backE (k : Env → F) (i : Nat) (e : Env) : F := if (e.set i .un).any isExn then .bad else k (e.set i .un)
/-- behind a suite the name of the clause is gone; no exception leaves a suite -/
def wipeF (i : Option Nat) : F → F := fun f => match i with
  | none => match f with
    | .ex .. => .bad
    | f => f
  | some i => match f with
    | .nx e => backE .nx i e
    | .bk e => backE .bk i e
    | .ct e => backE .ct i e
    | .ex .. => .bad
    | f => f
def hotC : Orc := fun _ _ => .bad

section
variable (anc : List (List Nat)) (nf : List Nat) (w : Nat)
mutual
def denS (c : Orc) : S → Env → F
  | .set t e, env => ofR env (guardX (lone env e) (denE c anc e env)) fun p => optF (asg t p env)
  | .own i e, env => if freshE e then ofR env (denE c anc e env) fun p => optF (ownV env i p) else .bad
  | .app i e, env => match env[i]? with
    | some (.ol l) => ofR env (guardX (lone env e) (denE c anc e env)) fun p => if l.length < lineMax then .nx (env.set i (.ol (l ++ [p]))) else .bad
    | _ => .bad
  | .put i k e, env => if owned env i then ofR env (guardX (lone env e) (denE c anc e env)) fun p => ofR env (denE c anc k env) fun q => putV env i q p else .bad
  | .exp e, env => ofR env (denE c anc e env) fun _ => .nx env
  | .ite t a b, env => ofR env (denE c anc t env) fun p => ofR env (truth p) fun t => if t then denSs c a env else denSs c b env
  | .loop t it b, env => ofR env (denI c anc it env) fun l => forL (denSs c b) (asg t) l env
  | .whl t b, env => whlL (fun e => (denE c anc t e).bind truth) (denSs c b) w env
  | .ret e, env => ofR env (denE c anc e env) fun p => .rt p
  | .retN, _ => .rt .non
  | .pas, env => .nx env
  | .brk, env => .bk env
  | .cnt, env => .ct env
  | .rse k es, env => ofR env (denX c anc es env) fun l => match nf[k]? with
    | some 0 => .ex ⟨k, []⟩ env
    | some n => if l.length = n then .ex ⟨k, l⟩ env else .bad
    | none => .bad
  | .tri b hs, env => match denSs c b env with
    | .ex x e => denH hs x e
    | f => f
  | .frz i, env => match env[i]? with
    | some (.ol l) => .nx (env.set i (.sh (.lst l)))
    | some (.od l) => .nx (env.set i (.sh (.dct l)))
    | _ => .nx env
def denSs (c : Orc) : List S → Env → F
  | [], env => .nx env
  | s :: r, env => (denS c s env).thn (denSs c r)
def denH : List H → Exn → Env → F
  | [], x, env => .ex x env
  | .mk d i b :: r, x, env => if hitH anc x d then match i with
      | none => wipeF none (denSs hotC b env)
      | some i => if i < env.length then wipeF (some i) (denSs hotC b (env.set i (.exn x))) else .bad
    else denH r x env
end
end

/-! ### defs -/
structure Def where
  name : String
  np : Nat
  ns : Nat
  body : List S
structure Prog where
  defs : List Def
  anc : List (List Nat)
  nf : List Nat
def retOf : F → R PV
  | .rt p => .ok p
  | .nx _ => .ok .non
  | .ex x _ => .ex x
  | _ => .bad
def env0 (l : List PV) (n : Nat) : Env := l.map .sh ++ List.replicate (n - l.length) .un
def Prog.call (P : Prog) (w : Nat) : Nat → Orc
  | 0, _, _ => .bad
  | n + 1, f, l => match P.defs[f]? with
    | some d => if l.length = d.np then retOf (denSs P.anc P.nf w (P.call w n) d.body (env0 l d.ns)) else .bad
    | none => .bad
end G
namespace G
open PySem PySem.Spec PyProof.Rows L2

/-! ### heaps without some places -/
def hide (H : Hp) (S : List Addr) : Hp := fun b => if b ∈ S then none else H b
theorem hide_some {H : Hp} {S : List Addr} {b : Addr} {o : HO} : hide H S b = some o ↔ b ∉ S ∧ H b = some o := by
  unfold hide
  by_cases h : b ∈ S <;> simp [h]
theorem hide_le (H : Hp) (S : List Addr) : Same (hide H S) H := fun _ _ h => (hide_some.mp h).2
theorem hide_same {H H' : Hp} (S : List Addr) (h : Same H H') : Same (hide H S) (hide H' S) := fun b o e => by
  obtain ⟨h1, h2⟩ := hide_some.mp e
  exact hide_some.mpr ⟨h1, h b o h2⟩
theorem hide_sub {H : Hp} {S S' : List Addr} (h : ∀ a ∈ S', a ∈ S) : Same (hide H S) (hide H S') := fun b o e => by
  obtain ⟨h1, h2⟩ := hide_some.mp e
  exact hide_some.mpr ⟨fun z => h1 (h b z), h2⟩
/-- a store at a hidden place -/
theorem hide_upd {H : Hp} {S : List Addr} {a : Addr} {o : HO} (h : a ∈ S) : hide (upd H a o) S = hide H S := by
  funext b
  unfold hide
  by_cases hb : b ∈ S
  · simp [hb]
  · have : b ≠ a := fun e => hb (e ▸ h)
    simp [hb, upd_ne this]
theorem same_upd {H : Hp} {p : Addr} {o : HO} (h : H p = none) : Same H (upd H p o) := fun b x e => by
  rw [upd_ne (ne_of_none e h)]
  exact e
theorem hide_new {H : Hp} {S : List Addr} {p : Addr} {o : HO} (h : H p = none) : Same (hide H S) (hide (upd H p o) (p :: S)) := fun b x e => by
  obtain ⟨h1, h2⟩ := hide_some.mp e
  have hb : b ≠ p := ne_of_none h2 h
  exact hide_some.mpr ⟨by simp [hb, h1], by rw [upd_ne hb]; exact h2⟩

def strV (l : List Char) : Str := ⟨(l.map Char.toNat).toArray⟩
structure Zd where
  K : PySem.W.Frag
  w : World

/-! ### dicts: the object as it stands -/
/-- the entries and the epoch -/
abbrev DS := Array DictEntry × Nat
def DO (a : Addr) (es : DS) : HO := .ext fun h => (a == sysModules) = false ∧ ∃ o, h.get? a = some o ∧ o.ExactDict ∧ o.data = .dict es.1 es.2
theorem do_own {a x : Addr} {es : DS} : DO a es ≠ .own x := fun z => by
  have z' : HO.ext _ = HO.own x := z
  cases z'
theorem do_tup {a : Addr} {es : DS} {xs : List V} : DO a es ≠ .tup xs := fun z => by
  have z' : HO.ext _ = HO.tup xs := z
  cases z'
theorem do_lst {a : Addr} {es : DS} {xs : List V} : DO a es ≠ .lst xs := fun z => by
  have z' : HO.ext _ = HO.lst xs := z
  cases z'
theorem do_frz {a : Addr} {es : DS} {o : Obj} {u : HO} : DO a es ≠ .frz o u := fun z => by
  have z' : HO.ext _ = HO.frz o u := z
  cases z'
theorem do_tbl {a : Addr} {es : DS} {ps : Array Value} : DO a es ≠ .tbl ps := fun z => by
  have z' : HO.ext _ = HO.tbl ps := z
  cases z'
mutual
/-- a value as a key -/
def nk : PV → NestedKey
  | .bl b => .num (if b then 1 else 0)
  | .int i => .num i
  | .str l => .text (strV l)
  | .tup l => .tup (nks l)
  | _ => .none
def nks : List PV → List NestedKey
  | [] => []
  | a :: r => nk a :: nks r
end
def KeysOk (l : List (PV × PV)) : Prop := (∀ e ∈ l, keyB 8 e.1 = true) ∧ (l.map fun e => nk e.1).Nodup

/-! ### a value as it lies in the abstract heap -/
mutual
def Rep (Z : Zd) (H : Hp) : PV → V → Prop
  | .non, v => v = .non
  | .bl b, v => v = .bl b
  | .int i, v => v = .int i
  | .str l, v => v = .str (strV l)
  | .tup l, v => ∃ a vs, v = .ref a ∧ SqT Z.K H a vs ∧ RepL Z H l vs
  | .lst l, v => ∃ a vs, v = .ref a ∧ SqL Z.K H a vs ∧ RepL Z H l vs
  | .dct l, v => ∃ a es, v = .ref a ∧ H a = some (DO a es) ∧ KeysOk l ∧ RepD Z H l es.1.toList
def RepD (Z : Zd) (H : Hp) : List (PV × PV) → List DictEntry → Prop
  | [], es => es = []
  | (k, p) :: r, es => ∃ e q kv vv, es = e :: q ∧ RelV kv e.key ∧ Rep Z H k kv ∧ RelV vv e.val ∧ Rep Z H p vv ∧ e.hash = (nk k).hash Z.w ∧ RepD Z H r q
def RepL (Z : Zd) (H : Hp) : List PV → List V → Prop
  | [], vs => vs = []
  | p :: ps, vs => ∃ v r, vs = v :: r ∧ Rep Z H p v ∧ RepL Z H ps r
end
theorem seqT {K : PySem.W.Frag} {H H' : Hp} {a : Addr} {xs : List V} (e : Same H H') (h : SqT K H a xs) : SqT K H' a xs := by
  rcases h with (h | ⟨o, h⟩) | h
  · exact .inl (.inl (e _ _ h))
  · exact .inl (.inr ⟨o, e _ _ h⟩)
  · exact .inr h
mutual
theorem Rep.mono {Z : Zd} {H H' : Hp} (e : Same H H') : ∀ (p : PV) (v : V), Rep Z H p v → Rep Z H' p v
  | .non, v, h => by simpa [Rep] using h
  | .bl b, v, h => by simpa [Rep] using h
  | .int i, v, h => by simpa [Rep] using h
  | .str l, v, h => by simpa [Rep] using h
  | .tup l, v, h => by
    unfold Rep at h ⊢
    obtain ⟨a, vs, e1, h1, h2⟩ := h
    exact ⟨a, vs, e1, seqT e h1, RepL.mono e l vs h2⟩
  | .lst l, v, h => by
    unfold Rep at h ⊢
    obtain ⟨a, vs, e1, h1, h2⟩ := h
    exact ⟨a, vs, e1, e.seq h1, RepL.mono e l vs h2⟩
  | .dct l, v, h => by
    unfold Rep at h ⊢
    obtain ⟨a, es, e1, h1, h2, h3⟩ := h
    exact ⟨a, es, e1, e _ _ h1, h2, RepD.mono e l _ h3⟩
theorem RepD.mono {Z : Zd} {H H' : Hp} (e : Same H H') : ∀ (l : List (PV × PV)) (es : List DictEntry), RepD Z H l es → RepD Z H' l es
  | [], es, h => by simpa [RepD] using h
  | (k, p) :: r, es, h => by
    unfold RepD at h ⊢
    obtain ⟨en, q, kv, vv, e1, h1, h2, h3, h4, h5, h6⟩ := h
    exact ⟨en, q, kv, vv, e1, h1, Rep.mono e k kv h2, h3, Rep.mono e p vv h4, h5, RepD.mono e r q h6⟩
theorem RepL.mono {Z : Zd} {H H' : Hp} (e : Same H H') : ∀ (p : List PV) (v : List V), RepL Z H p v → RepL Z H' p v
  | [], v, h => by simpa [RepL] using h
  | p :: ps, v, h => by
    unfold RepL at h ⊢
    obtain ⟨x, r, e1, h1, h2⟩ := h
    exact ⟨x, r, e1, Rep.mono e p x h1, RepL.mono e ps r h2⟩
end
section
variable {Z : Zd} {H H' : Hp}
theorem RepL.length : ∀ {ps : List PV} {vs : List V}, RepL Z H ps vs → vs.length = ps.length
  | [], _, h => by unfold RepL at h; subst h; rfl
  | p :: ps, _, h => by
    unfold RepL at h
    obtain ⟨v, r, rfl, _, h2⟩ := h
    simp [RepL.length h2]
theorem RepL.get : ∀ {ps : List PV} {vs : List V} {i : Nat} {p : PV}, RepL Z H ps vs → ps[i]? = some p → ∃ v, vs[i]? = some v ∧ Rep Z H p v
  | [], _, i, p, h, e => by simp at e
  | q :: ps, _, 0, p, h, e => by
    unfold RepL at h
    obtain ⟨v, r, rfl, h1, h2⟩ := h
    simp at e
    subst e
    exact ⟨v, rfl, h1⟩
  | q :: ps, _, i + 1, p, h, e => by
    unfold RepL at h
    obtain ⟨v, r, rfl, h1, h2⟩ := h
    simp at e
    obtain ⟨u, e1, h3⟩ := RepL.get (i := i) h2 e
    exact ⟨u, by simpa using e1, h3⟩
theorem RepL.get' : ∀ {ps : List PV} {vs : List V} {i : Nat} {v : V}, RepL Z H ps vs → vs[i]? = some v → ∃ p, ps[i]? = some p ∧ Rep Z H p v
  | [], _, i, p, h, e => by unfold RepL at h; subst h; simp at e
  | q :: ps, _, 0, p, h, e => by
    unfold RepL at h
    obtain ⟨v, r, rfl, h1, h2⟩ := h
    simp at e
    subst e
    exact ⟨q, rfl, h1⟩
  | q :: ps, _, i + 1, p, h, e => by
    unfold RepL at h
    obtain ⟨v, r, rfl, h1, h2⟩ := h
    simp at e
    obtain ⟨u, e1, h3⟩ := RepL.get' (i := i) h2 e
    exact ⟨u, by simpa using e1, h3⟩
theorem RepL.nil : RepL Z H [] [] := by unfold RepL; rfl
theorem RepL.cons {p : PV} {v : V} {ps : List PV} {vs : List V} (h : Rep Z H p v) (t : RepL Z H ps vs) : RepL Z H (p :: ps) (v :: vs) := by
  unfold RepL
  exact ⟨v, vs, rfl, h, t⟩
theorem RepL.app : ∀ {ps : List PV} {vs : List V} {qs : List PV} {us : List V}, RepL Z H ps vs → RepL Z H qs us → RepL Z H (ps ++ qs) (vs ++ us)
  | [], _, qs, us, h, k => by unfold RepL at h; subst h; exact k
  | p :: ps, _, qs, us, h, k => by
    unfold RepL at h
    obtain ⟨v, r, rfl, h1, h2⟩ := h
    exact .cons h1 (RepL.app h2 k)
theorem RepL.take : ∀ {ps : List PV} {vs : List V} (n : Nat), RepL Z H ps vs → RepL Z H (ps.take n) (vs.take n)
  | _, _, 0, h => by simp; exact .nil
  | [], _, n + 1, h => by unfold RepL at h; subst h; simp; exact .nil
  | p :: ps, _, n + 1, h => by
    unfold RepL at h
    obtain ⟨v, r, rfl, h1, h2⟩ := h
    exact .cons h1 (RepL.take n h2)
theorem RepL.drop : ∀ {ps : List PV} {vs : List V} (n : Nat), RepL Z H ps vs → RepL Z H (ps.drop n) (vs.drop n)
  | _, _, 0, h => h
  | [], _, n + 1, h => by unfold RepL at h; subst h; simp; exact .nil
  | p :: ps, _, n + 1, h => by
    unfold RepL at h
    obtain ⟨v, r, rfl, h1, h2⟩ := h
    exact RepL.drop n h2
theorem RepL.set {p : PV} {v : V} (hp : Rep Z H p v) : ∀ {ps : List PV} {vs : List V} (n : Nat), RepL Z H ps vs → RepL Z H (ps.set n p) (vs.set n v)
  | [], _, n, h => by unfold RepL at h; subst h; simp; exact .nil
  | q :: ps, _, 0, h => by
    unfold RepL at h
    obtain ⟨w, r, rfl, h1, h2⟩ := h
    exact .cons hp h2
  | q :: ps, _, n + 1, h => by
    unfold RepL at h
    obtain ⟨w, r, rfl, h1, h2⟩ := h
    exact .cons h1 (RepL.set hp n h2)
end
end G
namespace G
open PySem

/-! ### finding a key in a dict: keys of any kind -/
/-- what is known of the key u, its hash hk and the entries, at s: m tells which entry has that key -/
structure Fnd (prog : Program) (w : World) (A : Around) (s : Shared) (es : Array DictEntry) (u : Value) (hk : Int) (m : DictEntry → Bool) : Prop where
  hsh : ∀ (i : Nat) (e : DictEntry), es[i]? = some e → m e = true → e.hash = hk
  eqb : ∀ (i : Nat) (e : DictEntry), es[i]? = some e → ∀ (E : Value → Shared → Prop) (Q : Bool → Shared → Prop), Q (m e) s → wpAny (model prog w) A (eqBool e.key u) Q E s
  one : ∀ (i j : Nat) (e f : DictEntry), es[i]? = some e → es[j]? = some f → m e = true → m f = true → i = j
  qu : ∀ (E : Value → Shared → Prop) (Q : Bool → Shared → Prop), Q true s → wpAny (model prog w) A (eqIsQuiet 8 u) Q E s
  qe : ∀ (i : Nat) (e : DictEntry), es[i]? = some e → ∀ (E : Value → Shared → Prop) (Q : Bool → Shared → Prop), Q true s → wpAny (model prog w) A (eqIsQuiet 8 e.key) Q E s
  str : ∀ (x : Str) (t : Tok), u = .str x t → ∀ (i : Nat) (e : DictEntry), es[i]? = some e → e.key.isStr x = m e
  rf : ∀ (a : Addr), u = .ref a → ∀ (i : Nat) (e : DictEntry), es[i]? = some e → (e.key == Value.ref a) = true → e.hash = hk
section
variable {prog : Program} {w : World} {A : Around} {E : Value → Shared → Prop} {s : Shared} {d : Addr} {o : Obj} {es : Array DictEntry} {ep : Nat} {u : Value} {hk : Int} {m : DictEntry → Bool} {Q : Option Nat → Shared → Prop}
def plc (es : Array DictEntry) (hk : Int) : List Nat := placesWithHash es.size (fun i => es[i]?.map (·.hash)) hk
def hasH (es : Array DictEntry) (hk : Int) (i : Nat) : Bool := (es[i]?.map (·.hash)) == some hk
theorem plc_eq : plc es hk = (List.range' 0 (es.size - 0)).filter (hasH es hk) := by
  unfold plc placesWithHash
  rw [List.range_eq_range', Nat.sub_zero]
  rfl
theorem hasH_of {i : Nat} {e : DictEntry} (h : es[i]? = some e) (hh : e.hash = hk) : hasH es hk i = true := by
  unfold hasH
  rw [h]
  simp [hh]
theorem find_none (h : ∀ (j : Nat) (e : DictEntry), es[j]? = some e → m e = false) : es.findIdx? m = none :=
  Array.findIdx?_eq_none_iff.mpr fun e he => by
    obtain ⟨j, hj, rfl⟩ := Array.mem_iff_getElem.mp he
    rw [h j _ (Array.getElem?_eq_getElem hj)]
theorem find_some (T : Fnd prog w A s es u hk m) {x : Nat} {e : DictEntry} (h : es[x]? = some e) (hm : m e = true) : es.findIdx? m = some x := by
  obtain ⟨hlt, he⟩ := Array.getElem?_eq_some_iff.mp h
  refine Array.findIdx?_eq_some_iff_getElem.mpr ⟨hlt, by rw [he]; exact hm, fun j hj => ?_⟩
  cases q : m es[j] with
  | false => simp
  | true =>
    have := T.one j x _ e (Array.getElem?_eq_getElem (by omega)) h q hm
    omega
/-- the plain walk -/
theorem walk_plain (T : Fnd prog w A s es u hk m) (ho : s.heap.get? d = some o) (hd : o.data = .dict es ep) (hQ : Q (es.findIdx? m) s) : wpAny (model prog w) A (dictWalkPlain d u hk es (plc es hk)) Q E s := by
  unfold dictWalkPlain
  refine wpAny_bind ?_
  refine wpAny_forIn_list _ (fun rest b s' => s' = s ∧ b = (none, ()) ∧ ∃ i, rest = (List.range' i (es.size - i)).filter (hasH es hk) ∧ i ≤ es.size ∧ ∀ (j : Nat) (e : DictEntry), j < i → es[j]? = some e → m e = false) _ ?_ ?_ _ _
    ⟨rfl, rfl, 0, plc_eq, Nat.zero_le _, fun _ _ h _ => absurd h (Nat.not_lt_zero _)⟩
  · rintro x rest b s' ⟨rfl, rfl, i, hr, hi, hno⟩
    obtain ⟨hix, hxn, hpx, hskip, hrest⟩ := filter_range'_cons _ _ _ _ _ hr.symm
    have hlt : x < es.size := by omega
    have hex : es[x]? = some es[x] := Array.getElem?_eq_getElem hlt
    have before : ∀ (j : Nat) (e : DictEntry), j < x → es[j]? = some e → m e = false := fun j e hj he => by
      rcases Nat.lt_or_ge j i with h | h
      · exact hno j e h he
      · cases q : m e with
        | false => rfl
        | true =>
          have h1 := hskip j h hj
          rw [hasH_of he (T.hsh j e he q)] at h1
          cases h1
    have onward : m es[x] = false → ∃ i, rest = (List.range' i (es.size - i)).filter (hasH es hk) ∧ i ≤ es.size ∧ ∀ (j : Nat) (e : DictEntry), j < i → es[j]? = some e → m e = false := fun hm =>
      ⟨x + 1, by rw [hrest]; congr 2; omega, hlt, fun j e hj he => by
        by_cases hjx : j = x
        · subst hjx
          rw [hex] at he
          cases he
          exact hm
        · exact before j e (by omega) he⟩
    simp only [hex]
    by_cases hh : (es[x].hash == hk) = true
    · rw [if_pos hh]
      refine wpAny_bind (wpAny_dictEpoch ho hd (wpAny_bind (T.eqb x _ hex _ _ (wpAny_bind (wpAny_dictEpoch ho hd ?_)))))
      show wpAny _ _ (if (ep != ep) = true then _ else _) _ E _
      rw [if_neg (by simp)]
      cases hm : m es[x] with
      | true =>
        rw [find_some T hex hm] at hQ
        exact wpAny_bind (wpAny_rule (wpAny_pure (wpAny_pure hQ)))
      | false => exact wpAny_bind (wpAny_rule (wpAny_pure ⟨rfl, rfl, onward hm⟩))
    · rw [if_neg hh]
      refine wpAny_pure ⟨rfl, rfl, onward ?_⟩
      cases hm : m es[x] with
      | false => rfl
      | true => rw [T.hsh x _ hex hm] at hh; simp at hh
  · rintro b s' ⟨rfl, rfl, i, hr, hi, hno⟩
    have all : es.findIdx? m = none := find_none fun j e he => by
      rcases Nat.lt_or_ge j i with h | h
      · exact hno j e h he
      · cases q : m e with
        | false => rfl
        | true =>
          have hj := (Array.getElem?_eq_some_iff.mp he).1
          have h1 := List.filter_eq_nil_iff.mp hr.symm j (List.mem_range'_1.mpr ⟨h, by omega⟩)
          rw [hasH_of he (T.hsh j e he q)] at h1
          exact absurd rfl h1
    rw [all] at hQ
    exact wpAny_pure hQ
/-- no key of the table tells that it is asked -/
theorem tells_not (T : Fnd prog w A s es u hk m) {l : List Value} (hl : ∀ v ∈ l, ∃ (i : Nat) (e : DictEntry), es[i]? = some e ∧ v = e.key) {Q : Bool → Shared → Prop} (hQ : Q false s) : wpAny (model prog w) A (tableMayTell u l) Q E s := by
  unfold tableMayTell
  split
  · exact wpAny_pure hQ
  · refine wpAny_bind (T.qu _ _ ?_)
    simp only [Bool.not_true, Bool.false_eq_true, if_false]
    refine wpAny_bind ?_
    refine wpAny_forIn_list _ (fun rest r s' => s' = s ∧ r = (none, ()) ∧ ∀ v ∈ rest, ∃ (i : Nat) (e : DictEntry), es[i]? = some e ∧ v = e.key) _ ?_ ?_ _ _ ⟨rfl, rfl, hl⟩
    · rintro x rest r s' ⟨rfl, rfl, hr⟩
      obtain ⟨i, e, h1, rfl⟩ := hr x List.mem_cons_self
      refine wpAny_bind (T.qe i e h1 _ _ ?_)
      simp only [Bool.not_true, Bool.false_eq_true, if_false]
      exact wpAny_pure ⟨rfl, rfl, fun v hv => hr v (List.mem_cons_of_mem _ hv)⟩
    · rintro r s' ⟨rfl, rfl, _⟩
      exact wpAny_pure hQ
theorem plc_keys {v : Value} (hv : v ∈ (plc es hk).filterMap (fun i => es[i]?.map (·.key))) : ∃ (i : Nat) (e : DictEntry), es[i]? = some e ∧ v = e.key := by
  obtain ⟨i, _, hi⟩ := List.mem_filterMap.mp hv
  cases he : es[i]? with
  | none => rw [he] at hi; cases hi
  | some e =>
    rw [he] at hi
    exact ⟨i, e, he, (by simpa using hi.symm)⟩
theorem ite_wp {α : Type} {M : Model} {p : Prop} [Decidable p] {a b : Sem α} {Q : α → Shared → Prop} (h1 : p → wpAny M A a Q E s) (h2 : ¬ p → wpAny M A b Q E s) : wpAny M A (if p then a else b) Q E s := by
  by_cases h : p
  · rw [if_pos h]; exact h1 h
  · rw [if_neg h]; exact h2 h
theorem dict_find (T : Fnd prog w A s es u hk m) (ho : s.heap.get? d = some o) (hd : o.data = .dict es ep) (hQ : Q (es.findIdx? m) s) : wpAny (model prog w) A (dictFind d u hk) Q E s := by
  have hany : ∀ a, u = .ref a → ¬ (es.any fun e => e.key == Value.ref a && e.hash != hk) = true := fun a ea => by
    rw [← Array.any_toList, List.any_eq_true]
    rintro ⟨e, hin, hc⟩
    obtain ⟨i, hi⟩ := Array.getElem?_of_mem (Array.mem_toList_iff.mp hin)
    simp only [Bool.and_eq_true, bne_iff_ne, ne_eq] at hc
    exact hc.2 (T.rf a ea i e hi hc.1)
  unfold dictFind
  try with_reducible refine wpAny_holding ?_
  refine wpAny_bind (wpAny_dictEntries ho hd ?_)
  have part : ∀ {rest : List Nat} {i x : Nat}, x :: rest = (List.range' i (es.size - i)).filter (hasH es hk) → i ≤ x ∧ x < es.size ∧ (∀ (j : Nat) (e : DictEntry), i ≤ j → j < x → es[j]? = some e → m e = false) ∧ rest = (List.range' (x + 1) (es.size - (x + 1))).filter (hasH es hk) := by
    intro rest i x hr
    obtain ⟨hix, hxn, hpx, hskip, hrest⟩ := filter_range'_cons _ _ _ _ _ hr.symm
    refine ⟨hix, by omega, fun j e h1 h2 he => ?_, by rw [hrest]; congr 2; omega⟩
    cases q : m e with
    | false => rfl
    | true =>
      have h3 := hskip j h1 h2
      rw [hasH_of he (T.hsh j e he q)] at h3
      cases h3
  have fin : ∀ {i : Nat}, [] = (List.range' i (es.size - i)).filter (hasH es hk) → ∀ (j : Nat) (e : DictEntry), i ≤ j → es[j]? = some e → m e = false := by
    intro i hr j e h he
    cases q : m e with
    | false => rfl
    | true =>
      have hj := (Array.getElem?_eq_some_iff.mp he).1
      have h1 := List.filter_eq_nil_iff.mp hr.symm j (List.mem_range'_1.mpr ⟨h, by omega⟩)
      rw [hasH_of he (T.hsh j e he q)] at h1
      exact absurd rfl h1
  cases u <;> dsimp only
  case' str x t =>
    by_cases hs : (es.all fun e => isExactStrKey e.key) = true
    · rw [if_pos hs]
      have hfun : es.findIdx? (fun e => e.key.isStr x) = es.findIdx? m := by
        cases q : es.findIdx? m with
        | none =>
          refine Array.findIdx?_eq_none_iff.mpr fun e he => ?_
          obtain ⟨i, hi⟩ := Array.getElem?_of_mem he
          have := Array.findIdx?_eq_none_iff.mp q e he
          rw [T.str x t rfl i e hi]
          simpa using this
        | some i =>
          obtain ⟨h1, h2, h3⟩ := Array.findIdx?_eq_some_iff_getElem.mp q
          refine Array.findIdx?_eq_some_iff_getElem.mpr ⟨h1, ?_, fun j hj => ?_⟩
          · rw [T.str x t rfl i _ (Array.getElem?_eq_getElem h1)]; exact h2
          · rw [T.str x t rfl j _ (Array.getElem?_eq_getElem (by omega))]; exact h3 j hj
      unfold foundByValue
      rw [hfun]
      cases q : es.findIdx? m with
      | none => rw [q] at hQ; exact wpAny_pure hQ
      | some i =>
        rw [q] at hQ
        obtain ⟨h1, h2, _⟩ := Array.findIdx?_eq_some_iff_getElem.mp q
        simp only [Array.getElem?_eq_getElem h1]
        refine wpAny_bind (wpAny_dictEpoch ho hd (wpAny_bind (T.eqb i _ (Array.getElem?_eq_getElem h1) _ _ (wpAny_bind (wpAny_dictEpoch ho hd ?_)))))
        show wpAny _ _ (if (ep != ep) = true then _ else _) _ E _
        rw [if_neg (by simp), h2]
        exact wpAny_bind (wpAny_rule (wpAny_pure hQ))
    rw [if_neg hs]
  all_goals
    refine ite_wp (fun hall => walk_plain T ho hd hQ) fun hall => ?_
    first | rw [if_neg (hany _ rfl)] | skip
    refine ite_wp (fun hone => ?_) (fun hone => ?_) <;> (first | refine wpAny_bind (wpAny_pure ?_) | refine wpAny_bind (tells_not T (fun v hv => plc_keys hv) ?_)) <;> (
      rw [if_neg (by simp)]
      refine wpAny_bind ?_
      refine wpAny_forIn_list _ (fun rest b s' => s' = s ∧ ∃ i hit, b = (none, hit) ∧ rest = (List.range' i (es.size - i)).filter (hasH es hk) ∧ i ≤ es.size ∧
        ((hit = none ∧ ∀ (j : Nat) (e : DictEntry), j < i → es[j]? = some e → m e = false) ∨ ∃ (j : Nat) (e : DictEntry), hit = some j ∧ j < i ∧ es[j]? = some e ∧ m e = true)) _ ?_ ?_ _ _
        ⟨rfl, 0, none, rfl, plc_eq, Nat.zero_le _, .inl ⟨rfl, fun _ _ h _ => absurd h (Nat.not_lt_zero _)⟩⟩
      · rintro x rest b s' ⟨rfl, i, hit, rfl, hr, hi, hH⟩
        obtain ⟨hix, hlt, hskip, hrest⟩ := part hr
        have hex : es[x]? = some es[x] := Array.getElem?_eq_getElem hlt
        have upto : (hit = none ∧ ∀ (j : Nat) (e : DictEntry), j < x → es[j]? = some e → m e = false) ∨ ∃ (j : Nat) (e : DictEntry), hit = some j ∧ j < x ∧ es[j]? = some e ∧ m e = true := by
          rcases hH with ⟨h0, hno⟩ | ⟨j, e, h1, h2, h3, h4⟩
          · refine .inl ⟨h0, fun j e hj he => ?_⟩
            rcases Nat.lt_or_ge j i with h | h
            · exact hno j e h he
            · exact hskip j e h hj he
          · exact .inr ⟨j, e, h1, by omega, h3, h4⟩
        have stay : m es[x] = false → (hit = none ∧ ∀ (j : Nat) (e : DictEntry), j < x + 1 → es[j]? = some e → m e = false) ∨ ∃ (j : Nat) (e : DictEntry), hit = some j ∧ j < x + 1 ∧ es[j]? = some e ∧ m e = true := by
          intro hm
          rcases upto with ⟨h0, hno⟩ | ⟨j, e, h1, h2, h3, h4⟩
          · refine .inl ⟨h0, fun j e hj he => ?_⟩
            by_cases hjx : j = x
            · subst hjx
              rw [hex] at he
              cases he
              exact hm
            · exact hno j e (by omega) he
          · exact .inr ⟨j, e, h1, by omega, h3, h4⟩
        rw [hex]
        dsimp only
        by_cases hh : (es[x].hash == hk) = true
        · rw [if_pos hh]
          refine wpAny_bind (wpAny_dictEpoch ho hd (wpAny_bind (T.eqb x _ hex _ _ (wpAny_bind (wpAny_dictEpoch ho hd ?_)))))
          show wpAny _ _ (if (ep != ep) = true then _ else _) _ E _
          rw [if_neg (by simp)]
          cases hm : m es[x] with
          | true =>
            rcases upto with ⟨rfl, _⟩ | ⟨j, e, _, h2, h3, h4⟩
            · first | rw [if_pos rfl] | skip
              simp only [Option.isSome_none, Bool.false_eq_true, if_false]
              first | refine wpAny_bind (wpAny_pure ?_) | skip
              refine wpAny_bind (wpAny_rule ?_)
              split
              · rw [find_some T hex hm] at hQ
                exact wpAny_pure (wpAny_pure hQ)
              · exact wpAny_pure ⟨rfl, x + 1, some x, rfl, hrest, hlt, .inr ⟨x, _, rfl, Nat.lt_succ_self x, hex, hm⟩⟩
            · exact absurd (T.one j x e _ h3 hex h4 hm) (by omega)
          | false =>
            simp only [Bool.false_eq_true, if_false]
            refine wpAny_bind (wpAny_rule ?_)
            first | rw [if_neg (by simp)] | skip
            first
              | exact wpAny_pure ⟨rfl, x + 1, hit, rfl, hrest, hlt, stay hm⟩
              | exact wpAny_bind (wpAny_pure (wpAny_pure ⟨rfl, x + 1, hit, rfl, hrest, hlt, stay hm⟩))
        · rw [if_neg hh]
          refine wpAny_pure ⟨rfl, x + 1, hit, rfl, hrest, hlt, stay ?_⟩
          cases hm : m es[x] with
          | false => rfl
          | true => rw [T.hsh x _ hex hm] at hh; simp at hh
      · rintro b s' ⟨rfl, i, hit, rfl, hr, hi, hH⟩
        rcases hH with ⟨rfl, hno⟩ | ⟨j, e, rfl, _, h3, h4⟩
        · rw [find_none fun j e he => by
            rcases Nat.lt_or_ge j i with h | h
            · exact hno j e h he
            · exact fin hr j e h he] at hQ
          exact wpAny_pure hQ
        · rw [find_some T h3 h4] at hQ
          exact wpAny_pure hQ)
end
end G
namespace G
open PySem
/-- the entries of a dict, by their keys -/
structure Ents (w : World) (h : Heap) (es : Array DictEntry) (ks : List NestedKey) : Prop where
  len : es.size = ks.length
  ky : ∀ (i : Nat) (e : DictEntry) (k : NestedKey), es[i]? = some e → ks[i]? = some k → NestedIs h k e.key ∧ e.hash = k.hash w ∧ k.depth ≤ 8
  nd : ks.Nodup
noncomputable def mkM (h : Heap) (k : NestedKey) (e : DictEntry) : Bool := @decide (NestedIs h k e.key) (Classical.propDecidable _)
theorem mkM_true {h : Heap} {k : NestedKey} {e : DictEntry} : mkM h k e = true ↔ NestedIs h k e.key := by
  unfold mkM
  exact @decide_eq_true_iff _ (Classical.propDecidable _)
section
variable {prog : Program} {w : World} {A : Around} {E : Value → Shared → Prop} {s : Shared} {d : Addr} {o : Obj} {es : Array DictEntry} {ep : Nat} {u v : Value} {k : NestedKey} {ks : List NestedKey}
theorem Ents.get {h : Heap} (T : Ents w h es ks) {i : Nat} {e : DictEntry} (hi : es[i]? = some e) : ∃ k, ks[i]? = some k ∧ NestedIs h k e.key ∧ e.hash = k.hash w ∧ k.depth ≤ 8 := by
  have h1 := (Array.getElem?_eq_some_iff.mp hi).1
  rw [T.len] at h1
  exact ⟨_, List.getElem?_eq_getElem h1, T.ky i e _ hi (List.getElem?_eq_getElem h1)⟩
theorem Ents.at {h h' : Heap} (T : Ents w h es ks) (hk : ∀ a o vs n, h.get? a = some o → o.data = .seq vs n → h'.get? a = some o) : Ents w h' es ks :=
  ⟨T.len, fun i e k h1 h2 => ⟨(T.ky i e k h1 h2).1.at hk, (T.ky i e k h1 h2).2⟩, T.nd⟩
theorem nd_ix {ks : List NestedKey} (h : ks.Nodup) {i j : Nat} {k : NestedKey} (hi : ks[i]? = some k) (hj : ks[j]? = some k) : i = j :=
  (List.getElem?_inj (List.getElem?_eq_some_iff.mp hi).1 h).mp (hi.trans hj.symm)
theorem fnd_of (T : Ents w s.heap es ks) (hu : NestedIs s.heap k u) (hd8 : k.depth ≤ 8) (hroom : A.units + 8 < cLine) : Fnd prog w A s es u (k.hash w) (mkM s.heap k) where
  hsh i e hi hm := by
    obtain ⟨k', h1, h2, h3, _⟩ := T.get hi
    rw [h3, NestedIs.inj _ _ _ h2 (mkM_true.mp hm)]
  eqb i e hi E Q hQ := by
    obtain ⟨k', h1, h2, h3, h4⟩ := T.get hi
    refine eqAt_key k' k A s e.key u h2 hu (by omega) _ _ _ _ ?_
    rw [← NestedKey.decide_eq]
    have : decide (k' = k) = mkM s.heap k e := by
      by_cases h : k' = k
      · subst h
        rw [decide_eq_true rfl, mkM_true.mpr h2]
      · rw [decide_eq_false h]
        cases q : mkM s.heap k e with
        | false => rfl
        | true => exact absurd (NestedIs.inj _ _ _ h2 (mkM_true.mp q)) h
    rw [this]
    exact hQ
  one i j e f hi hj h1 h2 := by
    obtain ⟨k1, a1, a2, _⟩ := T.get hi
    obtain ⟨k2, b1, b2, _⟩ := T.get hj
    have e1 := NestedIs.inj _ _ _ a2 (mkM_true.mp h1)
    have e2 := NestedIs.inj _ _ _ b2 (mkM_true.mp h2)
    subst e1
    subst e2
    exact nd_ix T.nd a1 b1
  qu E Q hQ := quiet_key k _ 8 s hu hd8 A E Q hQ
  qe i e hi E Q hQ := by
    obtain ⟨k', h1, h2, h3, h4⟩ := T.get hi
    exact quiet_key k' _ 8 s h2 h4 A E Q hQ
  str x t hx i e hi := by
    subst hx
    have ek : k = .text x := NestedIs.inj _ _ _ hu (.text x t)
    subst ek
    obtain ⟨k', h1, h2, h3, h4⟩ := T.get hi
    cases q : mkM s.heap (.text x) e with
    | true =>
      have z := mkM_true.mp q
      obtain ⟨hs, ky, vl⟩ := e
      cases z
      simp [Value.isStr]
    | false =>
      cases q2 : e.key.isStr x with
      | false => rfl
      | true =>
        exfalso
        have : NestedIs s.heap (.text x) e.key := by
          obtain ⟨hs, ky, vl⟩ := e
          cases ky <;> simp [Value.isStr] at q2
          subst q2
          exact .text _ _
        rw [mkM_true.mpr this] at q
        cases q
  rf a ha i e hi he := by
    subst ha
    obtain ⟨k', h1, h2, h3, h4⟩ := T.get hi
    have ek : e.key = .ref a := by simpa using he
    rw [ek] at h2
    rw [h3, NestedIs.inj _ _ _ h2 hu]
theorem find_at (T : Ents w s.heap es ks) {j : Nat} (hj : ks[j]? = some k) : es.findIdx? (mkM s.heap k) = some j := by
  have h1 : j < es.size := by rw [T.len]; exact (List.getElem?_eq_some_iff.mp hj).1
  obtain ⟨h2, _⟩ := T.ky j _ k (Array.getElem?_eq_getElem h1) hj
  refine Array.findIdx?_eq_some_iff_getElem.mpr ⟨h1, mkM_true.mpr h2, fun i hi => ?_⟩
  cases q : mkM s.heap k es[i] with
  | false => simp
  | true =>
    obtain ⟨k', a1, a2, _⟩ := T.get (Array.getElem?_eq_getElem (show i < es.size by omega))
    have e1 := NestedIs.inj _ _ _ a2 (mkM_true.mp q)
    subst e1
    have := nd_ix T.nd a1 hj
    omega
theorem find_not (T : Ents w s.heap es ks) (hk : k ∉ ks) : es.findIdx? (mkM s.heap k) = none := find_none fun i e hi => by
  cases q : mkM s.heap k e with
  | false => rfl
  | true =>
    obtain ⟨k', a1, a2, _⟩ := T.get hi
    have e1 := NestedIs.inj _ _ _ a2 (mkM_true.mp q)
    subst e1
    exact absurd (List.mem_of_getElem? a1) hk
/-- the value at a key -/
def valD (es : Array DictEntry) (ks : List NestedKey) (k : NestedKey) : Option Value := (ks.findIdx? (fun x => decide (x = k))).bind fun j => es[j]?.map (·.val)
theorem ks_find {ks : List NestedKey} (k : NestedKey) : (∃ j, ks[j]? = some k ∧ ks.findIdx? (fun x => decide (x = k)) = some j) ∨ (k ∉ ks ∧ ks.findIdx? (fun x => decide (x = k)) = none) := by
  cases q : ks.findIdx? (fun x => decide (x = k)) with
  | some j =>
    obtain ⟨h1, h2, _⟩ := List.findIdx?_eq_some_iff_getElem.mp q
    exact .inl ⟨j, by rw [List.getElem?_eq_getElem h1, of_decide_eq_true h2], rfl⟩
  | none =>
    refine .inr ⟨fun hm => ?_, rfl⟩
    have := List.findIdx?_eq_none_iff.mp q k hm
    simp at this
theorem get_key (T : Ents w s.heap es ks) (hu : NestedIs s.heap k u) (hd8 : k.depth ≤ 8) (hroom : A.units + 8 < cLine) (ho : s.heap.get? d = some o) (hd : o.data = .dict es ep) {Q : Option Value → Shared → Prop}
    (hQ : Q (valD es ks k) { s with toks := s.toks + k.draws }) : wpAny (model prog w) A (dictGet d u) Q E s := by
  unfold dictGet
  try with_reducible refine wpAny_holding ?_
  refine wpAny_bind (pyHash_key _ _ _ _ _ hu (by omega) (wpAny_bind (dict_find (s := { s with toks := s.toks + k.draws }) (fnd_of (s := { s with toks := s.toks + k.draws }) T hu hd8 hroom) ho hd ?_)))
  unfold valD at hQ
  rcases ks_find (ks := ks) k with ⟨j, h1, h2⟩ | ⟨h1, h2⟩
  · rw [find_at (s := { s with toks := s.toks + k.draws }) T h1]
    rw [h2] at hQ
    refine wpAny_bind (wpAny_dictEntries (s := { s with toks := s.toks + k.draws }) ho hd ?_)
    exact wpAny_pure hQ
  · rw [find_not (s := { s with toks := s.toks + k.draws }) T h1]
    rw [h2] at hQ
    exact wpAny_pure hQ
/-- the entries behind a store -/
def putD (w : World) (es : Array DictEntry) (ks : List NestedKey) (k : NestedKey) (u v : Value) : Array DictEntry := match ks.findIdx? (fun x => decide (x = k)) with
  | some j => es.modify j fun e => { e with val := v }
  | none => es.push ⟨k.hash w, u, v⟩
theorem put_key (T : Ents w s.heap es ks) (hu : NestedIs s.heap k u) (hd8 : k.depth ≤ 8) (hroom : A.units + 8 < cLine) (ho : s.heap.get? d = some o) (hc : o.ExactDict) (hd : o.data = .dict es ep) (hz : ks.length ≤ sizeLine) {Q : Unit → Shared → Prop}
    (hQ : ∀ h' o' ep', h'.get? d = some o' → o'.ExactDict → o'.data = .dict (putD w es ks k u v) ep' → Heap.SameBut d s.heap h' → Q () { s with heap := h', toks := s.toks + k.draws }) : wpAny (model prog w) A (dictSet d u v) Q E s := by
  unfold dictSet
  try with_reducible refine wpAny_holding ?_
  refine wpAny_bind (pyHash_key _ _ _ _ _ hu (by omega) ?_)
  unfold dictSetHashed
  try with_reducible refine wpAny_holding ?_
  refine wpAny_bind (dict_find (s := { s with toks := s.toks + k.draws }) (fnd_of (s := { s with toks := s.toks + k.draws }) T hu hd8 hroom) ho hd ?_)
  unfold putD at hQ
  rcases ks_find (ks := ks) k with ⟨j, h1, h2⟩ | ⟨h1, h2⟩
  · rw [find_at (s := { s with toks := s.toks + k.draws }) T h1]
    rw [h2] at hQ
    refine wpAny_bind (wpAny_rule (wpAny_bind (wpAny_updateDict (s := { s with toks := s.toks + k.draws }) ho hd (wpAny_point (hQ _ _ ep (Heap.get?_update_self _ ho (Obj.isFreed_of_dict (Obj.data_mapDict hd _))) (hc.mapDict _) (Obj.data_mapDict hd _) (Heap.SameBut.update ..))))))
  · rw [find_not (s := { s with toks := s.toks + k.draws }) T h1]
    rw [h2] at hQ
    refine wpAny_bind (wpAny_rule (wpAny_updateDictKeys (hz := by have := T.len; omega) (s := { s with toks := s.toks + k.draws }) ho hd (hQ _ _ (ep + 1) (Heap.get?_update_self _ ho (Obj.isFreed_of_dict (Obj.data_mapDictKeys hd _))) (hc.mapDictKeys _) (Obj.data_mapDictKeys hd _) (Heap.SameBut.update ..))))
end
end G
namespace G
open PySem PySem.Spec PyProof.Rows L2
/-- a dict object, its entries and their keys -/
structure DAt (w : World) (h : Heap) (d : Addr) (es : Array DictEntry) (ks : List NestedKey) : Prop where
  obj : ∃ o ep, h.get? d = some o ∧ o.ExactDict ∧ o.data = .dict es ep
  ents : Ents w h es ks
section
variable {prog : Program} {w : World} {A : Around} {E : Value → Shared → Prop} {s : Shared} {d : Addr} {es : Array DictEntry} {u v : Value} {k : NestedKey} {ks : List NestedKey}
theorem DAt.ty (T : DAt w s.heap d es ks) : s.TypeIs (.ref d) "dict" := by
  obtain ⟨o, ep, h1, h2, _⟩ := T.obj
  exact ⟨o, h1, h2.1⟩
theorem item_key {Q : Value → Shared → Prop} (hr : A.in1.units + 8 < cLine) (T : DAt w s.heap d es ks) (hu : NestedIs s.heap k u) (h8 : k.depth ≤ 8) (hv : valD es ks k = some v) (hQ : Q v { s with toks := s.toks + k.draws }) : wpAny (model prog w) A (getItem (.ref d) u) Q E s := by
  have ty := T.ty
  obtain ⟨o, ep, ho, _, hd⟩ := T.obj
  unfold getItem
  try with_reducible refine wpAny_holding ?_
  refine wpAny_bind (wpAny_sequenceKey ty (by decide) (wpAny_bind (wpAny_callSpecial?_slot (name := Str.ofString "__getitem__") ty slot_dict_getitem (wpAny_call_entry slot_dict_getitem ty entry_dict_getitem ?_ (args_dict_getitem _ _)))))
  show wpAny _ _ (dictGet d u >>= _) _ _ s
  refine wpAny_bind (get_key T.ents hu h8 hr ho hd ?_)
  rw [hv]
  exact wpAny_pure ⟨v, rfl, wpAny_pure hQ⟩
theorem in_key {Q : Value → Shared → Prop} (hr : A.in1.units + 8 < cLine) (hs : (d == sysModules) = false) (T : DAt w s.heap d es ks) (hu : NestedIs s.heap k u) (h8 : k.depth ≤ 8) (hQ : Q (.bool (valD es ks k).isSome) { s with toks := s.toks + k.draws }) : wpAny (model prog w) A (compareOp .In u (.ref d)) Q E s := by
  have ty := T.ty
  obtain ⟨o, ep, ho, _, hd⟩ := T.obj
  show wpAny _ _ (do return .bool (← contains (.ref d) u)) Q E s
  refine wpAny_bind ?_
  unfold contains
  try with_reducible refine wpAny_holding ?_
  refine wpAny_bind (wpAny_specialOf ty slot_dict_contains.lookup ?_)
  show wpAny _ _ (if (some (Value.builtin "dict.__contains__") == some Value.none) = true then _ else _) _ E s
  rw [if_neg (by rw [beq_builtin_none]; exact Bool.false_ne_true)]
  refine wpAny_bind (wpAny_callSpecialUnlessNone?_slot (name := Str.ofString "__contains__") ty slot_dict_contains (wpAny_call_entry slot_dict_contains ty entry_dict_contains ?_ (args_dict_contains _ _)))
  show wpAny _ _ (dictGet d u >>= _) _ _ s
  refine wpAny_bind (get_key T.ents hu h8 hr ho hd ?_)
  cases hf : valD es ks k with
  | some p =>
    rw [hf] at hQ
    show wpAny _ _ (ret (.bool true)) _ _ _
    exact wpAny_pure ⟨_, rfl, wpAny_truthy_bool (wpAny_pure hQ)⟩
  | none =>
    rw [hf] at hQ
    show wpAny _ _ (Builtin.Dict.pendingKey? d u >>= _) _ _ _
    exact wpAny_bind (wpAny_pendingKey_other hs (wpAny_pure ⟨_, rfl, wpAny_truthy_bool (wpAny_pure hQ)⟩))
theorem notin_key {Q : Value → Shared → Prop} (hr : A.in1.units + 8 < cLine) (hs : (d == sysModules) = false) (T : DAt w s.heap d es ks) (hu : NestedIs s.heap k u) (h8 : k.depth ≤ 8) (hQ : Q (.bool (!(valD es ks k).isSome)) { s with toks := s.toks + k.draws }) : wpAny (model prog w) A (compareOp .NotIn u (.ref d)) Q E s := by
  have ty := T.ty
  obtain ⟨o, ep, ho, _, hd⟩ := T.obj
  show wpAny _ _ (do return .bool (!(← contains (.ref d) u))) Q E s
  refine wpAny_bind ?_
  unfold contains
  try with_reducible refine wpAny_holding ?_
  refine wpAny_bind (wpAny_specialOf ty slot_dict_contains.lookup ?_)
  show wpAny _ _ (if (some (Value.builtin "dict.__contains__") == some Value.none) = true then _ else _) _ E s
  rw [if_neg (by rw [beq_builtin_none]; exact Bool.false_ne_true)]
  refine wpAny_bind (wpAny_callSpecialUnlessNone?_slot (name := Str.ofString "__contains__") ty slot_dict_contains (wpAny_call_entry slot_dict_contains ty entry_dict_contains ?_ (args_dict_contains _ _)))
  show wpAny _ _ (dictGet d u >>= _) _ _ s
  refine wpAny_bind (get_key T.ents hu h8 hr ho hd ?_)
  cases hf : valD es ks k with
  | some p =>
    rw [hf] at hQ
    show wpAny _ _ (ret (.bool true)) _ _ _
    exact wpAny_pure ⟨_, rfl, wpAny_truthy_bool (wpAny_pure hQ)⟩
  | none =>
    rw [hf] at hQ
    show wpAny _ _ (Builtin.Dict.pendingKey? d u >>= _) _ _ _
    exact wpAny_bind (wpAny_pendingKey_other hs (wpAny_pure ⟨_, rfl, wpAny_truthy_bool (wpAny_pure hQ)⟩))
/-- d[k] behind its parts -/
theorem tail_key {value slice : Expr} {Q : Value → Shared → Prop} (T : DAt w s.heap d es ks) (hsl : subscripted slice false (.ref d) u = operate [.ref d, u] (getItem (.ref d) u)) (hg : wpAny (model prog w) A (getItem (.ref d) u) Q E s) : wpAny (model prog w) A (subscriptTail value slice (.ref d) u) Q E s := by
  have ty := T.ty
  unfold subscriptTail
  refine wpAny_bind ?_
  rw [getitemInPython_of_ne ty.not_modules]
  refine wpAny_bind (wpAny_specialOf ty PySem.F.slot_dict_getitem.lookup ?_)
  have last : wpAny (model prog w) A (subscripted slice false (.ref d) u) (fun r t => wpAny (model prog w) A (letTemporaryGo value (.ref d) r >>= fun _ => pure r) Q E t) E s := by
    rw [hsl]
    exact wpAny_operating (wpAny_mono hg (fun r t ht => wpAny_bind (wpAny_letTemporaryGo (wpAny_pure ht))) fun _ _ z => z)
  first
    | exact wpAny_pure (wpAny_bind last)
    | exact wpAny_bind (wpAny_pure (wpAny_bind last))
    | exact wpAny_bind last
theorem store_key {Q : Unit → Shared → Prop} (hr : A.in1.units + 8 < cLine) (T : DAt w s.heap d es ks) (hu : NestedIs s.heap k u) (h8 : k.depth ≤ 8) (hz : ks.length ≤ sizeLine)
    (hQ : ∀ h' o' ep', h'.get? d = some o' → o'.ExactDict → o'.data = .dict (putD w es ks k u v) ep' → Heap.SameBut d s.heap h' → Q () { s with heap := h', toks := s.toks + k.draws }) : wpAny (model prog w) A (setItem (.ref d) u v) Q E s := by
  have ty := T.ty
  obtain ⟨o, ep, ho, hc, hd⟩ := T.obj
  unfold setItem
  try with_reducible refine wpAny_holding ?_
  refine wpAny_bind (wpAny_sequenceKey ty (by decide) (wpAny_bind (wpAny_callSpecial?_slot (name := Str.ofString "__setitem__") ty slot_dict_setitem (wpAny_call_entry slot_dict_setitem ty entry_dict_setitem ?_ (args_dict_setitem _ _ _)))))
  show wpAny _ _ (Builtin.Dict.notOrdered "__setitem__" ⟨[.ref d, u, v], []⟩ >>= _) _ _ s
  refine wpAny_bind (wpAny_notOrdered_dict ty ?_)
  show wpAny _ _ (dictSet d u v >>= _) _ _ s
  exact wpAny_bind (put_key T.ents hu h8 hr ho hc hd hz fun h' o' ep' a b c e => wpAny_pure ⟨.none, rfl, wpAny_pure (hQ h' o' ep' a b c e)⟩)
end
end G
namespace G
open PySem PySem.Spec PyProof.Rows L2

/-! ### the slots of a frame -/
/-- what is known of a caught exception, by its address -/
structure ExP where
  p : Addr → Exn → Hp → Prop
  mono : ∀ (a : Addr) (x : Exn) (H H' : Hp), Same H H' → p a x H → p a x H'
def ExP.no : ExP := ⟨fun _ _ _ => False, fun _ _ _ _ _ h => h⟩
def SlotRep (Z : Zd) (H : Hp) (S O : List Addr) (EX : ExP) : Option (Option V) → Slot → Prop
  | x, .un => x = some none
  | x, .sh p => ∃ v, x = some (some v) ∧ Rep Z (hide H S) p v
  | x, .ol l => ∃ a vs, x = some (some (.ref a)) ∧ a ∈ O ∧ H a = some (.lst vs) ∧ RepL Z (hide H S) l vs
  | x, .od l => ∃ a es, x = some (some (.ref a)) ∧ a ∈ O ∧ H a = some (DO a es) ∧ KeysOk l ∧ RepD Z (hide H S) l es.1.toList
  | x, .exn e => ∃ a, x = some (some (.ref a)) ∧ EX.p a e (hide H S)
structure EnvRep (Z : Zd) (H0 : Hp) (B : List Addr) (EX : ExP) (σ : L2.St) (H : Hp) (O : List Addr) (env : Env) : Prop where
  len : σ.length = env.length
  slot : ∀ (i : Nat) (s : Slot), env[i]? = some s → SlotRep Z H (B ++ O) O EX (σ[i]?) s
  dis : ∀ (i j : Nat) (a : Addr), i ≠ j → owned env i = true → owned env j = true → σ[i]? = some (some (.ref a)) → σ[j]? ≠ some (some (.ref a))
  o0 : ∀ a ∈ O, H0 a = none
  od : ∀ a ∈ O, H a ≠ none
  b0 : ∀ a ∈ B, H0 a ≠ none
  sm : Same H0 H
/-- a value that may be looked at: a list that a name owns, too -/
def RepB (Z : Zd) (H : Hp) (S : List Addr) : PV → V → Prop
  | .lst l, v => ∃ a vs, v = .ref a ∧ SqL Z.K H a vs ∧ RepL Z (hide H S) l vs
  | .dct l, v => ∃ a es, v = .ref a ∧ H a = some (DO a es) ∧ KeysOk l ∧ RepD Z (hide H S) l es.1.toList
  | p, v => Rep Z (hide H S) p v
/-- a new object -/
def Frs (Z : Zd) (H H' : Hp) (S : List Addr) : PV → V → Prop
  | .lst l, v => ∃ a vs, v = .ref a ∧ H a = none ∧ H' a = some (.lst vs) ∧ RepL Z (hide H' (a :: S)) l vs
  | .dct l, v => ∃ a es, v = .ref a ∧ H a = none ∧ H' a = some (DO a es) ∧ KeysOk l ∧ RepD Z (hide H' (a :: S)) l es.1.toList
  | _, _ => True
section
variable {Z : Zd} {H H' H0 : Hp} {B O S : List Addr} {EX : ExP} {σ : L2.St} {env : Env}
theorem SlotRep.mono (e : Same H H') {x : Option (Option V)} {s : Slot} (h : SlotRep Z H S O EX x s) : SlotRep Z H' S O EX x s := by
  cases s with
  | un => exact h
  | sh p => obtain ⟨v, h1, h2⟩ := h; exact ⟨v, h1, h2.mono (hide_same S e)⟩
  | ol l => obtain ⟨a, vs, h1, h2, h3, h4⟩ := h; exact ⟨a, vs, h1, h2, e _ _ h3, h4.mono (hide_same S e)⟩
  | od l => obtain ⟨a, es, h1, h2, h3, h4, h5⟩ := h; exact ⟨a, es, h1, h2, e _ _ h3, h4, RepD.mono (hide_same S e) _ _ h5⟩
  | exn x => obtain ⟨a, h1, h2⟩ := h; exact ⟨a, h1, EX.mono _ _ _ _ (hide_same S e) h2⟩
theorem EnvRep.mono (h : EnvRep Z H0 B EX σ H O env) (e : Same H H') : EnvRep Z H0 B EX σ H' O env :=
  ⟨h.len, fun i s q => (h.slot i s q).mono e, h.dis, h.o0, (fun a ha z => h.od a ha (e.free z)), h.b0, h.sm.trans e⟩
theorem EnvRep.live (h : EnvRep Z H0 B EX σ H O env) : ∀ a ∈ B ++ O, H a ≠ none := fun a ha z => by
  rcases List.mem_append.mp ha with ha | ha
  · cases q : H0 a with
    | none => exact h.b0 a ha q
    | some o => rw [h.sm a o q] at z; cases z
  · exact h.od a ha z
theorem RepB.mono (e : Same H H') {p : PV} {v : V} (h : RepB Z H S p v) : RepB Z H' S p v := by
  cases p with
  | lst l => obtain ⟨a, vs, h1, h2, h3⟩ := h; exact ⟨a, vs, h1, e.seq h2, h3.mono (hide_same S e)⟩
  | dct l => obtain ⟨a, es, h1, h2, h3, h4⟩ := h; exact ⟨a, es, h1, e _ _ h2, h3, RepD.mono (hide_same S e) _ _ h4⟩
  | _ => exact Rep.mono (hide_same S e) _ _ h
theorem Rep.b {p : PV} {v : V} (h : Rep Z (hide H S) p v) : RepB Z H S p v := by
  cases p with
  | lst l =>
    unfold Rep at h
    obtain ⟨a, vs, h1, h2, h3⟩ := h
    exact ⟨a, vs, h1, (hide_le H S).seq h2, h3⟩
  | dct l =>
    unfold Rep at h
    obtain ⟨a, es, h1, h2, h3, h4⟩ := h
    exact ⟨a, es, h1, hide_le H S _ _ h2, h3, h4⟩
  | _ => exact h
theorem Frs.rep {p : PV} {v : V} {l : List PV} (hp : p = .lst l) (hS : ∀ a ∈ S, H a ≠ none) (h : Frs Z H H' S p v) : Rep Z (hide H' S) p v := by
  subst hp
  obtain ⟨a, vs, h1, h2, h3, h4⟩ := h
  unfold Rep
  refine ⟨a, vs, h1, .of (hide_some.mpr ⟨fun z => hS a z h2, h3⟩), h4.mono (hide_sub fun b hb => List.mem_cons_of_mem _ hb)⟩
theorem Frs.repd {p : PV} {v : V} {l : List (PV × PV)} (hp : p = .dct l) (hS : ∀ a ∈ S, H a ≠ none) (h : Frs Z H H' S p v) : Rep Z (hide H' S) p v := by
  subst hp
  obtain ⟨a, es, h1, h2, h3, h4, h5⟩ := h
  unfold Rep
  exact ⟨a, es, h1, hide_some.mpr ⟨fun z => hS a z h2, h3⟩, h4, RepD.mono (hide_sub fun b hb => List.mem_cons_of_mem _ hb) _ _ h5⟩
theorem EnvRep.get (h : EnvRep Z H0 B EX σ H O env) {i : Nat} {p : PV} (e : getV env i = .ok p) :
    ∃ v, σ[i]? = some (some v) ∧ RepB Z H (B ++ O) p v ∧ (owned env i = false → Rep Z (hide H (B ++ O)) p v) := by
  unfold getV at e
  unfold owned
  cases q : env[i]? with
  | none => rw [q] at e; cases e
  | some s =>
    have r := h.slot i s q
    rw [q] at e
    cases s with
    | un => cases e
    | sh p' =>
      cases e
      obtain ⟨v, h1, h2⟩ := r
      exact ⟨v, h1, h2.b, fun _ => h2⟩
    | ol l =>
      cases e
      obtain ⟨a, vs, h1, h2, h3, h4⟩ := r
      exact ⟨_, h1, ⟨a, vs, rfl, .of h3, h4⟩, fun z => by simp at z⟩
    | od l =>
      cases e
      obtain ⟨a, es, h1, h2, h3, h4, h5⟩ := r
      exact ⟨_, h1, ⟨a, es, rfl, h3, h4, h5⟩, fun z => by simp at z⟩
    | exn x => cases e
end

/-! ### what stands around -/
structure Gs where
  Z : Zd
  H0 : Hp
  B : List Addr
  EX : ExP
  CV : Nat → Option Value
  FN : Nat → List Str
  W : WX
  c : Orc
  anc : List (List Nat)
/-- an exception, seen in the heap that is open to all -/
def ExcRep (Z : Zd) (CV : Nat → Option Value) (FN : Nat → List Str) (G : Hp) (C : Value) (d : Option Addr) (x : Exn) : Prop :=
  (∃ a, C = .ref a) ∧ CV x.cls = some C ∧ ((x.fld = [] ∧ d = none) ∨ x.fld ≠ [] ∧ ∃ dx fs, d = some dx ∧ G dx = some (.xd fs) ∧ ∀ (k : Nat) (f : Str) (p : PV), (FN x.cls)[k]? = some f → x.fld[k]? = some p → ∃ v, fs.lookup f = some v ∧ Rep Z G p v)
theorem ExcRep.mono {Z : Zd} {CV : Nat → Option Value} {FN : Nat → List Str} {G G' : Hp} {C : Value} {d : Option Addr} {x : Exn} (e : Same G G') (h : ExcRep Z CV FN G C d x) : ExcRep Z CV FN G' C d x := by
  obtain ⟨h1, h2, h3⟩ := h
  refine ⟨h1, h2, h3.imp (fun z => z) fun z => ?_⟩
  obtain ⟨q0, dx, fs, q1, q2, q3⟩ := z
  refine ⟨q0, dx, fs, q1, e _ _ q2, fun k f p e1 e2 => ?_⟩
  obtain ⟨v, z1, z2⟩ := q3 k f p e1 e2
  exact ⟨v, z1, z2.mono e⟩
abbrev Gs.env (g : Gs) (σ : L2.St) (H : Hp) (O : List Addr) (env : Env) : Prop := EnvRep g.Z g.H0 g.B g.EX σ H O env
abbrev Gs.exc (g : Gs) (H : Hp) (O : List Addr) (C : Value) (d : Option Addr) (x : Exn) : Prop := ExcRep g.Z g.CV g.FN (hide H (g.B ++ O)) C d x ∧ ∀ dx, d = some dx → g.H0 dx = none
/-- a result p of e, the heap before it and behind it -/
structure ResP (g : Gs) (H : Hp) (O : List Addr) (env : Env) (e : E) (p : PV) (v : V) (H' : Hp) : Prop where
  sm : Same H H'
  brw : RepB g.Z H' (g.B ++ O) p v
  str : lone env e = true → Rep g.Z (hide H' (g.B ++ O)) p v
  frs : freshE e = true → Frs g.Z H H' (g.B ++ O) p v
def Out {α β : Type} (g : Gs) (σ : L2.St) (H : Hp) (O : List Addr) (r : R α) (ok : α → β → Hp → Prop) (Q : β → Hp → Prop) : Prop :=
  match r with
  | .ok p => ∀ v H', ok p v H' → Q v H'
  | .ex x => ∀ C d H', Same H H' → g.exc H' O C d x → g.W C d σ H'
  | .bad => False
def tE (g : Gs) (e : E) : TE := fun σ H Q => ∃ env O, g.env σ H O env ∧ Out g σ H O (denE g.c g.anc e env) (ResP g H O env e) Q
/-- several values, to be looked at or to be kept -/
def tEs (g : Gs) (es : List E) : TA := fun σ H Q => ∃ env O, g.env σ H O env ∧
  Out g σ H O (denEs g.c g.anc es env) (fun ps vs H' => Same H H' ∧ Paired (RepB g.Z H' (g.B ++ O)) ps vs ∧ (loneL env es = true → RepL g.Z (hide H' (g.B ++ O)) ps vs)) Q
def tXs (g : Gs) (es : List E) : TA := fun σ H Q => ∃ env O, g.env σ H O env ∧
  Out g σ H O (denX g.c g.anc es env) (fun ps vs H' => Same H H' ∧ RepL g.Z (hide H' (g.B ++ O)) ps vs) Q
/-- a test -/
def tB (g : Gs) (e : E) : TT := fun σ H Q => ∃ env O, g.env σ H O env ∧ Out g σ H O ((denE g.c g.anc e env).bind truth) (fun b c H' => Same H H' ∧ c = b) Q
section
variable {X : Cx}
theorem pe_of {e : Expr} {t t' : TE} (h : PE X e t) (k : ∀ σ H Q, t' σ H Q → t σ H Q) : PE X e t' := ⟨fun pins s σ H Q I q => h.run pins s σ H Q I (k σ H Q q)⟩
theorem pt_of {e : Expr} {t t' : TT} (h : PT X e t) (k : ∀ σ H Q, t' σ H Q → t σ H Q) : PT X e t' := ⟨fun pins s σ H Q I q => h.run pins s σ H Q I (k σ H Q q)⟩
theorem pa_of {e : List Expr} {t t' : TA} (h : PA X e t) (k : ∀ σ H Q, t' σ H Q → t σ H Q) : PA X e t' := ⟨fun pos pins s σ H Q I q => h.run pos pins s σ H Q I (k σ H Q q)⟩
theorem ps_of {e : Stmt} {t t' : TS} (h : PS X e t) (k : ∀ D σ H, t' D σ H → t D σ H) : PS X e t' := ⟨fun pins s σ H D I q => h.run pins s σ H D I (k D σ H q)⟩
theorem pss_of {e : List Stmt} {t t' : TS} (h : PSs X e t) (k : ∀ D σ H, t' D σ H → t D σ H) : PSs X e t' := ⟨fun pins s σ H D I q => h.run pins s σ H D I (k D σ H q)⟩
end

/-! ### operations by values -/
def live (H : Hp) (S : List Addr) : Prop := ∀ a ∈ S, H a ≠ none
/-- the result of an operation -/
structure Got (Z : Zd) (S : List Addr) (H : Hp) (r : PV) (v : V) (H' : Hp) : Prop where
  sm : Same H H'
  rep : Rep Z (hide H' S) r v
def rV2 (Z : Zd) (fr : Bool) (f : PV → PV → R PV) : R2 := fun x y H Q => ∃ S p q r, live H S ∧ RepB Z H S p x ∧ RepB Z H S q y ∧ f p q = .ok r ∧
  ∀ v H', Got Z S H r v H' → (fr = true → Frs Z H H' S r v) → Q v H'
def rVn (Z : Zd) (fr : Bool) (f : List PV → R PV) : List V → Hp → VK → Prop := fun xs H Q => ∃ S ps r, live H S ∧ Paired (RepB Z H S) ps xs ∧ f ps = .ok r ∧
  ∀ v H', Got Z S H r v H' → (fr = true → Frs Z H H' S r v) → Q v H'
theorem Out.bind {α β γ δ : Type} {g : Gs} {σ : L2.St} {H : Hp} {O : List Addr} {r : R α} {f : α → R β} {ok : β → δ → Hp → Prop} {Q : δ → Hp → Prop} {ok' : α → γ → Hp → Prop} {Q' : γ → Hp → Prop}
    (h : Out g σ H O (r.bind f) ok Q) (k : ∀ a, r = .ok a → Out g σ H O (f a) ok Q → ∀ v H', ok' a v H' → Q' v H') : Out g σ H O r ok' Q' := by
  cases r with
  | ok a => exact k a rfl h
  | ex x => exact h
  | bad => exact h
theorem Out.later {α β : Type} {g : Gs} {σ : L2.St} {H H1 : Hp} {O : List Addr} {r : R α} {ok : α → β → Hp → Prop} {Q : β → Hp → Prop} (e : Same H H1)
    (h : Out g σ H O r ok Q) {ok' : α → β → Hp → Prop} (k : ∀ a v H', r = .ok a → ok' a v H' → ok a v H') : Out g σ H1 O r ok' Q := by
  cases r with
  | ok a => exact fun v H' q => h v H' (k a v H' rfl q)
  | ex x => exact fun C d H' s q => h C d H' (e.trans s) q
  | bad => exact h

/-! ### expressions -/
section
variable {X : Cx} {g : Gs} {a b : Expr} {a' b' : E} {pos : Pos}
theorem de_var {i : Nat} {x : Str} (hN : X.N[i]? = some x) (hv : Vis X.env.scope x) (hd : (x == ("__debug__" : Str)) = false) (hcd : (x == ("__classdict__" : Str)) = false) : PE X (.Name x pos) (tE g (.var i)) := by
  refine pe_of (pe_var hN hv hd hcd) fun σ H Q h => ?_
  obtain ⟨env, O, he, h⟩ := h
  simp only [denE] at h
  cases q : getV env i with
  | ok p =>
    rw [q] at h
    obtain ⟨v, h1, h2, h3⟩ := he.get q
    exact ⟨v, h1, h v H ⟨.refl H, h2, fun z => h3 (by simpa [lone] using z), fun z => by simp [freshE] at z⟩⟩
  | ex x =>
    unfold getV at q
    split at q <;> cases q
  | bad => rw [q] at h; exact h.elim
theorem de_con {p : PV} {v : V} (h : PE X a (tC v)) (r : ∀ H, Rep g.Z H p v) : PE X a (tE g (.con p)) := by
  refine pe_of h fun σ H Q h => ?_
  obtain ⟨env, O, he, h⟩ := h
  simp only [denE] at h
  exact h v H ⟨.refl H, (r _).b, fun _ => r _, fun z => by simp [freshE] at z⟩
/-- a two-place operation -/
theorem two {e : E} {op : PV → PV → R PV} {σ : L2.St} {H : Hp} {Q : VK} {fr : Bool} (hd : ∀ env, denE g.c g.anc e env = (denE g.c g.anc a' env).bind fun x => (denE g.c g.anc b' env).bind fun y => op x y) (hn : ∀ x y z, op x y ≠ .ex z) (hl : ∀ env, lone env e = true) (hf : freshE e = true → fr = true)
    (h : tE g e σ H Q) : tOp (rV2 g.Z fr op) (tE g a') (tE g b') σ H Q := by
  obtain ⟨env, O, he, h⟩ := h
  rw [hd] at h
  refine ⟨env, O, he, h.bind fun p ep h => ?_⟩
  intro x H1 r1
  refine ⟨env, O, he.mono r1.sm, ?_⟩
  refine Out.bind (h.later (ok' := ResP g H O env e) r1.sm fun _ _ _ _ z => z) fun q eq h => ?_
  intro y H2 r2
  have hS := (he.mono (r1.sm.trans r2.sm)).live
  cases eo : op p q with
  | ok r =>
    rw [eo] at h
    refine ⟨g.B ++ O, p, q, r, hS, r1.brw.mono r2.sm, r2.brw, eo, fun v H' gt fz => h v H' ⟨(r1.sm.trans r2.sm).trans gt.sm, gt.rep.b, fun _ => gt.rep, fun z => ?_⟩⟩
    have f := fz (hf z)
    cases r with
    | lst l =>
      obtain ⟨a, vs, f1, f2, f3, f4⟩ := f
      exact ⟨a, vs, f1, (r1.sm.trans r2.sm).free f2, f3, f4⟩
    | dct l =>
      obtain ⟨a, es, f1, f2, f3, f4, f5⟩ := f
      exact ⟨a, es, f1, (r1.sm.trans r2.sm).free f2, f3, f4, f5⟩
    | _ => trivial
  | ex x => exact absurd eo (hn _ _ _)
  | bad => rw [eo] at h; exact h.elim
end
end G
namespace G
open PySem PySem.Spec PyProof.Rows L2
/-! ### dicts: from the abstract heap to the model's -/
mutual
theorem depth_le : ∀ (n : Nat) (p : PV), keyB n p = true → (nk p).depth ≤ n
  | n, .non, _ => by simp [nk, NestedKey.depth]
  | n, .bl b, _ => by simp [nk, NestedKey.depth]
  | n, .int b, _ => by simp [nk, NestedKey.depth]
  | n, .str b, _ => by simp [nk, NestedKey.depth]
  | 0, .tup l, h => by simp [keyB] at h
  | n + 1, .tup l, h => by
    simp only [keyB] at h
    have := depths_le n l h
    simp only [nk, NestedKey.depth]
    omega
  | n, .lst l, h => by cases n <;> simp [keyB] at h
  | n, .dct l, h => by cases n <;> simp [keyB] at h
theorem depths_le : ∀ (n : Nat) (l : List PV), keyBs n l = true → NestedKey.depthAll (nks l) ≤ n
  | n, [], _ => by simp [nks, NestedKey.depthAll]
  | n, a :: r, h => by
    simp only [keyBs, Bool.and_eq_true] at h
    have h1 := depth_le n a h.1
    have h2 := depths_le n r h.2
    simp only [nks, NestedKey.depthAll]
    omega
end
section
variable {X : Cx} {pins : List (Addr × Obj)} {σ : L2.St} {H G : Hp} {s : Shared}
mutual
theorem nest_ok (I : Inv X pins σ H s) : ∀ (n : Nat) (p : PV) (v : V) (u : Value), keyB n p = true → Rep (⟨X.K, X.w⟩ : Zd) H p v → RelV v u → NestedIs s.heap (nk p) u
  | n, .non, v, u, _, h, r => by unfold Rep at h; subst h; cases r; exact .none
  | n, .bl b, v, u, _, h, r => by unfold Rep at h; subst h; cases r; exact .bool rfl
  | n, .int i, v, u, _, h, r => by unfold Rep at h; subst h; obtain ⟨t, rfl⟩ := r; exact .int _ _
  | n, .str x, v, u, _, h, r => by unfold Rep at h; subst h; obtain ⟨t, rfl⟩ := r; exact .text _ _
  | 0, .tup l, v, u, hk, h, r => by simp [keyB] at hk
  | n + 1, .tup l, v, u, hk, h, r => by
    unfold Rep at h
    obtain ⟨a, vs, rfl, h1, h2⟩ := h
    cases r
    obtain ⟨its, rv, ⟨o, e1, e2, n', e3⟩, hz⟩ := I.tuple h1
    simp only [keyB] at hk
    exact .tup e1 e2 e3 (by simpa using nests_ok I n l vs its hk h2 rv)
  | n, .lst l, v, u, hk, h, r => by cases n <;> simp [keyB] at hk
  | n, .dct l, v, u, hk, h, r => by cases n <;> simp [keyB] at hk
theorem nests_ok (I : Inv X pins σ H s) : ∀ (n : Nat) (l : List PV) (vs : List V) (us : List Value), keyBs n l = true → RepL (⟨X.K, X.w⟩ : Zd) H l vs → Vals vs us → NestedAll s.heap (nks l) us
  | n, [], vs, us, _, h, r => by unfold RepL at h; subst h; cases r; exact .nil
  | n, a :: q, vs, us, hk, h, r => by
    unfold RepL at h
    obtain ⟨v, t, rfl, h1, h2⟩ := h
    simp only [keyBs, Bool.and_eq_true] at hk
    cases r with
    | cons r1 r2 => exact .cons (nest_ok I n a v _ hk.1 h1 r1) (nests_ok I n q t _ hk.2 h2 r2)
end
theorem RepD.len {Z : Zd} {H : Hp} : ∀ {l : List (PV × PV)} {es : List DictEntry}, RepD Z H l es → es.length = l.length
  | [], _, h => by unfold RepD at h; subst h; rfl
  | (k, p) :: r, _, h => by
    unfold RepD at h
    obtain ⟨e, q, kv, vv, rfl, _, _, _, _, _, h6⟩ := h
    simp [RepD.len h6]
theorem RepD.get {Z : Zd} {H : Hp} : ∀ {l : List (PV × PV)} {es : List DictEntry} {i : Nat} {e : DictEntry}, RepD Z H l es → es[i]? = some e → ∃ k p kv vv, l[i]? = some (k, p) ∧ RelV kv e.key ∧ Rep Z H k kv ∧ RelV vv e.val ∧ Rep Z H p vv ∧ e.hash = (nk k).hash Z.w
  | [], _, i, e, h, he => by unfold RepD at h; subst h; simp at he
  | (k, p) :: r, _, 0, e, h, he => by
    unfold RepD at h
    obtain ⟨e', q, kv, vv, rfl, h1, h2, h3, h4, h5, h6⟩ := h
    simp at he
    subst he
    exact ⟨k, p, kv, vv, rfl, h1, h2, h3, h4, h5⟩
  | (k, p) :: r, _, i + 1, e, h, he => by
    unfold RepD at h
    obtain ⟨e', q, kv, vv, rfl, h1, h2, h3, h4, h5, h6⟩ := h
    simp at he
    obtain ⟨k', p', kv', vv', g1, g2⟩ := RepD.get (i := i) h6 he
    exact ⟨k', p', kv', vv', by simpa using g1, g2⟩
theorem do_at (I : Inv X pins σ H s) {a : Addr} {es : DS} (h : H a = some (DO a es)) : (a == sysModules) = false ∧ ∃ o, s.heap.get? a = some o ∧ o.ExactDict ∧ o.data = .dict es.1 es.2 := by
  have x : ObjOk X.prog X.w H s.heap a (DO a es) := I.hok a _ h
  exact x.1
theorem do_ok {P : Program} {w : World} {H : Hp} {h : Heap} {a : Addr} {es : Array DictEntry} {o : Obj} {ep : Nat} (hs : (a == sysModules) = false) (h1 : h.get? a = some o) (h2 : o.ExactDict) (h3 : o.data = .dict es ep) : ObjOk P w H h a (DO a (es, ep)) :=
  ⟨⟨hs, o, h1, h2, h3⟩, ⟨o, h1⟩, fun g1 g2 z k => by
    obtain ⟨y1, o', y2, y3⟩ := z
    exact ⟨y1, o', k _ y2, y3⟩⟩
/-- a dict as it is asked -/
theorem dat_of (I : Inv X pins σ H s) (e : Same G H) {a : Addr} {es : DS} {l : List (PV × PV)} (h : H a = some (DO a es)) (hk : KeysOk l) (hr : RepD (⟨X.K, X.w⟩ : Zd) G l es.1.toList) : DAt X.w s.heap a es.1 (l.map fun e => nk e.1) := by
  refine ⟨(let ⟨o, h1, h2, h3⟩ := (do_at I h).2; ⟨o, es.2, h1, h2, h3⟩), ⟨by have := hr.len; simpa using this, fun i en k h1 h2 => ?_, hk.2⟩⟩
  rw [← Array.getElem?_toList] at h1
  obtain ⟨k', p, kv, vv, g1, g2, g3, g4, g5, g6⟩ := hr.get h1
  rw [List.getElem?_map, g1] at h2
  cases h2
  have hkb := hk.1 _ (List.mem_of_getElem? g1)
  exact ⟨nest_ok I 8 k' kv _ hkb (Rep.mono e _ _ g3) g2, g6, depth_le 8 k' hkb⟩
end
end G
namespace G
open PySem PySem.Spec PyProof.Rows L2
theorem chars_inj : ∀ {a b : List Char}, a.map Char.toNat = b.map Char.toNat → a = b
  | [], [], _ => rfl
  | [], _ :: _, h => by simp at h
  | _ :: _, [], h => by simp at h
  | x :: a, y :: b, h => by
    simp only [List.map_cons, List.cons.injEq] at h
    have hx : x = y := Char.ext (UInt32.toNat_inj.mp h.1)
    rw [hx, chars_inj h.2]
theorem strV_eq {a b : List Char} : strV a = strV b ↔ a = b := by
  constructor
  · intro h
    unfold strV at h
    have h' := Str.mk.inj h
    exact chars_inj (by simpa using congrArg Array.toList h')
  · intro h
    rw [h]
mutual
theorem eqP_nk : ∀ (a b : PV) (n m : Nat), keyB n a = true → keyB m b = true → eqP a b = NestedKey.beq (nk a) (nk b)
  | a, b, n, m, ha, hb => by
    cases a with
    | non => cases b <;> first | rfl | (cases m <;> simp [keyB] at hb; done)
    | bl x =>
      cases b with
      | bl y => cases x <;> cases y <;> rfl
      | int y => simp only [eqP, nk, NestedKey.beq]; rfl
      | lst l => cases m <;> simp [keyB] at hb
      | dct l => cases m <;> simp [keyB] at hb
      | _ => rfl
    | int x =>
      cases b with
      | bl y => simp only [eqP, nk, NestedKey.beq]; rfl
      | int y => simp only [eqP, nk, NestedKey.beq]; rfl
      | lst l => cases m <;> simp [keyB] at hb
      | dct l => cases m <;> simp [keyB] at hb
      | _ => rfl
    | str x =>
      cases b with
      | str y =>
        simp only [eqP, nk, NestedKey.beq]
        by_cases h : x = y
        · subst h; simp
        · have : ¬ strV x = strV y := fun z => h (strV_eq.mp z)
          simp [h, this]
      | lst l => cases m <;> simp [keyB] at hb
      | dct l => cases m <;> simp [keyB] at hb
      | _ => rfl
    | tup x =>
      cases b with
      | tup y =>
        cases n with
        | zero => simp [keyB] at ha
        | succ n =>
          cases m with
          | zero => simp [keyB] at hb
          | succ m =>
            simp only [keyB] at ha hb
            simp only [eqP, nk, NestedKey.beq]
            exact eqL_nk x y n m ha hb
      | lst l => cases m <;> simp [keyB] at hb
      | dct l => cases m <;> simp [keyB] at hb
      | _ => rfl
    | lst l => cases n <;> simp [keyB] at ha
    | dct l => cases n <;> simp [keyB] at ha
theorem eqL_nk : ∀ (a b : List PV) (n m : Nat), keyBs n a = true → keyBs m b = true → eqL a b = NestedKey.beqAll (nks a) (nks b)
  | [], [], _, _, _, _ => rfl
  | [], _ :: _, _, _, _, _ => rfl
  | _ :: _, [], _, _, _, _ => rfl
  | a :: r, b :: q, n, m, ha, hb => by
    simp only [keyBs, Bool.and_eq_true] at ha hb
    simp only [eqL, nks, NestedKey.beqAll, eqP_nk a b n m ha.1 hb.1, eqL_nk r q n m ha.2 hb.2]
end
theorem eqP_dec {a b : PV} {n m : Nat} (ha : keyB n a = true) (hb : keyB m b = true) : eqP a b = decide (nk a = nk b) := by
  rw [eqP_nk a b n m ha hb, NestedKey.decide_eq]
/-- the value at a key, on both sides -/
theorem dget_val {Z : Zd} {H : Hp} {k : PV} (hk : keyB 8 k = true) : ∀ {l : List (PV × PV)} {es : List DictEntry}, (∀ e ∈ l, keyB 8 e.1 = true) → RepD Z H l es →
    match dget l k with
    | some p => ∃ u v, ((l.map fun e => nk e.1).findIdx? (fun x => decide (x = nk k))).bind (fun j => es[j]?.map (·.val)) = some u ∧ RelV v u ∧ Rep Z H p v
    | none => ((l.map fun e => nk e.1).findIdx? (fun x => decide (x = nk k))).bind (fun j => es[j]?.map (·.val)) = none
  | [], es, _, h => by simp [dget]
  | (a, p) :: r, es, hl, h => by
    unfold RepD at h
    obtain ⟨e, q, kv, vv, rfl, h1, h2, h3, h4, h5, h6⟩ := h
    have ha := hl (a, p) List.mem_cons_self
    have ih := dget_val hk (l := r) (es := q) (fun e he => hl e (List.mem_cons_of_mem _ he)) h6
    have he := eqP_dec ha hk
    by_cases hx : nk a = nk k
    · have : dget ((a, p) :: r) k = some p := by simp [dget, he, hx]
      rw [this]
      refine ⟨e.val, vv, ?_, h3, h4⟩
      simp [List.findIdx?_cons, hx]
    · have : dget ((a, p) :: r) k = dget r k := by simp [dget, he, hx]
      rw [this]
      have e2 : (((a, p) :: r).map fun e => nk e.1).findIdx? (fun x => decide (x = nk k)) = ((r.map fun e => nk e.1).findIdx? (fun x => decide (x = nk k))).map (· + 1) := by
        rw [List.map_cons, List.findIdx?_cons]
        simp [hx]
      rw [e2]
      cases q1 : (r.map fun e => nk e.1).findIdx? (fun x => decide (x = nk k)) with
      | none => rw [q1] at ih; simpa using ih
      | some j => rw [q1] at ih; simpa using ih
section
variable {X : Cx} {pins : List (Addr × Obj)} {σ : L2.St} {H : Hp} {s : Shared}
theorem dget_D {k : PV} {l : List (PV × PV)} {es : Array DictEntry} {Z : Zd} {G : Hp} (hk : keyB 8 k = true) (hok : KeysOk l) (hr : RepD Z G l es.toList) :
    match dget l k with
    | some p => ∃ u v, valD es (l.map fun e => nk e.1) (nk k) = some u ∧ RelV v u ∧ Rep Z G p v
    | none => valD es (l.map fun e => nk e.1) (nk k) = none := by
  have := dget_val hk hok.1 hr
  unfold valD
  simpa using this
theorem dget_some {k : PV} {l : List (PV × PV)} {es : Array DictEntry} {Z : Zd} {G : Hp} (hk : keyB 8 k = true) (hok : KeysOk l) (hr : RepD Z G l es.toList) : (valD es (l.map fun e => nk e.1) (nk k)).isSome = (dget l k).isSome := by
  have := dget_D hk hok hr
  cases q : dget l k with
  | none => rw [q] at this; simp [show valD es (l.map fun e => nk e.1) (nk k) = none from this]
  | some p =>
    rw [q] at this
    obtain ⟨u, v, h1, _⟩ := this
    simp [h1]
end
end G
namespace G
open PySem PySem.Spec PyProof.Rows L2
/-- the entries behind a store, as a list -/
def putL (w : World) (k : NestedKey) (u v : Value) : List DictEntry → List NestedKey → List DictEntry
  | e :: r, x :: q => if x = k then { e with val := v } :: r else e :: putL w k u v r q
  | [], _ => [⟨k.hash w, u, v⟩]
  | r, [] => r
theorem putD_list (w : World) (k : NestedKey) (u v : Value) : ∀ (es : List DictEntry) (ks : List NestedKey), es.length = ks.length → (putD w es.toArray ks k u v).toList = putL w k u v es ks
  | [], [], _ => by simp [putD, putL]
  | [], _ :: _, h => by simp at h
  | _ :: _, [], h => by simp at h
  | e :: r, x :: q, h => by
    have ih := putD_list w k u v r q (by simpa using h)
    unfold putD at ih ⊢
    rw [List.findIdx?_cons]
    by_cases hx : x = k
    · simp [hx, putL]
    · simp only [hx, decide_false, Bool.false_eq_true, if_false, putL]
      cases hf : q.findIdx? (fun x => decide (x = k)) with
      | none =>
        rw [hf] at ih
        simpa using ih
      | some j =>
        rw [hf] at ih
        simpa using ih
theorem repD_put {Z : Zd} {H : Hp} {k p : PV} {kv vv : V} {u v : Value} (hk : keyB 8 k = true) (h1 : RelV kv u) (h2 : Rep Z H k kv) (h3 : RelV vv v) (h4 : Rep Z H p vv) : ∀ {l : List (PV × PV)} {es : List DictEntry}, (∀ e ∈ l, keyB 8 e.1 = true) → RepD Z H l es → RepD Z H (dset l k p) (putL Z.w (nk k) u v es (l.map fun e => nk e.1))
  | [], es, _, h => by
    unfold RepD at h
    subst h
    simp only [dset, List.map_nil, putL]
    unfold RepD
    exact ⟨_, [], kv, vv, rfl, h1, h2, h3, h4, rfl, by unfold RepD; rfl⟩
  | (a, b) :: r, es, hl, h => by
    unfold RepD at h
    obtain ⟨e, q, kv', vv', rfl, g1, g2, g3, g4, g5, g6⟩ := h
    have he := eqP_dec (hl (a, b) List.mem_cons_self) hk
    have ih := repD_put hk h1 h2 h3 h4 (l := r) (es := q) (fun e he => hl e (List.mem_cons_of_mem _ he)) g6
    by_cases hx : nk a = nk k
    · simp only [dset, he, hx, decide_true, if_true, List.map_cons, putL]
      unfold RepD
      exact ⟨_, q, kv', vv, rfl, g1, g2, h3, h4, g5, g6⟩
    · simp only [dset, he, hx, decide_false, Bool.false_eq_true, if_false, List.map_cons, putL]
      unfold RepD
      exact ⟨e, _, kv', vv', rfl, g1, g2, g3, g4, g5, ih⟩
theorem dset_keys {k p : PV} (hk : keyB 8 k = true) : ∀ {l : List (PV × PV)}, (∀ e ∈ l, keyB 8 e.1 = true) → (dset l k p).map (fun e => nk e.1) = if nk k ∈ l.map (fun e => nk e.1) then l.map (fun e => nk e.1) else l.map (fun e => nk e.1) ++ [nk k]
  | [], _ => by simp [dset]
  | (a, b) :: r, hl => by
    have he := eqP_dec (hl (a, b) List.mem_cons_self) hk
    have ih := dset_keys (p := p) hk (l := r) fun e h => hl e (List.mem_cons_of_mem _ h)
    by_cases hx : nk a = nk k
    · simp [dset, he, hx]
    · have hx' : ¬ nk k = nk a := fun z => hx z.symm
      simp only [dset, he, hx, decide_false, Bool.false_eq_true, if_false, List.map_cons, ih, List.mem_cons, hx', false_or]
      split <;> simp
theorem dset_mem {k p : PV} : ∀ {l : List (PV × PV)} {e : PV × PV}, e ∈ dset l k p → e.1 = k ∨ ∃ f ∈ l, f.1 = e.1
  | [], e, h => by simp [dset] at h; exact .inl (by rw [h])
  | (a, b) :: r, e, h => by
    unfold dset at h
    split at h
    · rcases List.mem_cons.mp h with rfl | h
      · exact .inr ⟨(a, b), List.mem_cons_self, rfl⟩
      · exact .inr ⟨e, List.mem_cons_of_mem _ h, rfl⟩
    · rcases List.mem_cons.mp h with rfl | h
      · exact .inr ⟨_, List.mem_cons_self, rfl⟩
      · rcases dset_mem h with h | ⟨f, h1, h2⟩
        · exact .inl h
        · exact .inr ⟨f, List.mem_cons_of_mem _ h1, h2⟩
theorem keysOk_put {k p : PV} {l : List (PV × PV)} (hk : keyB 8 k = true) (h : KeysOk l) : KeysOk (dset l k p) := by
  refine ⟨fun e he => ?_, ?_⟩
  · rcases dset_mem he with h1 | ⟨f, h1, h2⟩
    · rw [h1]; exact hk
    · rw [← h2]; exact h.1 f h1
  · rw [dset_keys hk h.1]
    split
    · exact h.2
    · rename_i hn
      rw [List.nodup_append]
      refine ⟨h.2, by simp, fun x hx y hy => ?_⟩
      rw [List.mem_singleton] at hy
      subst hy
      exact fun z => hn (z ▸ hx)
end G
namespace G
open PySem PySem.Spec PyProof.Rows L2

abbrev zOf (X : Cx) : Zd := ⟨X.K, X.w⟩
theorem OpR.or {X : Cx} {f : Value → Value → Sem Value} {r r' : R2} (h : OpR X f r) (h' : OpR X f r') : OpR X f (fun x y H Q => r x y H Q ∨ r' x y H Q) := by
  intro pins s σ H x y v u Q I rx ry q
  rcases q with q | q
  · exact h pins s σ H x y v u Q I rx ry q
  · exact h' pins s σ H x y v u Q I rx ry q

/-! ### texts -/
theorem nat_inj {a b : Char} (h : a.toNat = b.toNat) : a = b := by
  have : a.val = b.val := UInt32.toNat_inj.mp h
  exact Char.ext this
theorem map_inj : ∀ {a b : List Char}, a.map Char.toNat = b.map Char.toNat → a = b
  | [], [], _ => rfl
  | [], _ :: _, h => by simp at h
  | _ :: _, [], h => by simp at h
  | x :: a, y :: b, h => by
    simp only [List.map_cons, List.cons.injEq] at h
    rw [nat_inj h.1, map_inj h.2]
theorem strV_inj {a b : List Char} (h : strV a = strV b) : a = b := by
  unfold strV at h
  have h' := Str.mk.inj h
  exact map_inj (by simpa using congrArg Array.toList h')
theorem strV_len (l : List Char) : (strV l).length = l.length := by simp [strV, Str.length]
theorem strV_list (l : List Char) : (strV l).cps.toList = l.map Char.toNat := by simp [strV]
theorem strV_app (a b : List Char) : strV a ++ strV b = strV (a ++ b) := by
  show (⟨(strV a).cps ++ (strV b).cps⟩ : Str) = _
  simp [strV]
theorem strV_one (c : Char) : strV [c] = ⟨#[c.toNat]⟩ := rfl
theorem strOk_V (l : List Char) : PyData.strOk (strV l) = true := by
  simp only [PyData.strOk, strV, List.all_toArray, List.all_map, List.all_eq_true]
  intro c _
  have h := c.valid
  simp only [UInt32.isValidChar, Nat.isValidChar] at h
  have : c.toNat = c.val.toNat := rfl
  simp only [Function.comp, decide_eq_true_eq]
  omega

/-! ### values as data -/
mutual
def toD : PV → PyData
  | .non => .none
  | .bl b => .bool b
  | .int i => .int i
  | .str l => .str (strV l)
  | .tup l => .tuple (toDs l)
  | .lst l => .list (toDs l)
  | .dct _ => .none
def toDs : List PV → List PyData
  | [] => []
  | a :: r => toD a :: toDs r
end
mutual
theorem nod_lay : ∀ p : PV, nod p = true → (toD p).canLay0 = true
  | .non, _ => rfl
  | .bl _, _ => rfl
  | .int _, _ => rfl
  | .str l, _ => strOk_V l
  | .tup l, h => nodL_lay l (by simpa [nod] using h)
  | .lst l, h => nodL_lay l (by simpa [nod] using h)
  | .dct _, h => by simp [nod] at h
theorem nodL_lay : ∀ l : List PV, nodL l = true → PyData.canLayAll0 (toDs l) = true
  | [], _ => rfl
  | a :: r, h => by
    simp only [nodL, Bool.and_eq_true] at h
    simp only [toDs, PyData.canLayAll0, nod_lay a h.1, nodL_lay r h.2, Bool.and_true]
end
mutual
theorem flat_depth : ∀ (n : Nat) (p : PV), flat n p = true → (toD p).depth ≤ n
  | _, .non, _ => Nat.zero_le _
  | _, .bl _, _ => Nat.zero_le _
  | _, .int _, _ => Nat.zero_le _
  | _, .str l, _ => Nat.zero_le _
  | 0, .tup l, h => by simp [flat] at h
  | 0, .lst l, h => by simp [flat] at h
  | n + 1, .tup l, h => by
    simp only [flat] at h
    simp only [toD, PyData.depth]
    have := flatL_depth n l h
    omega
  | n + 1, .lst l, h => by
    simp only [flat] at h
    simp only [toD, PyData.depth]
    have := flatL_depth n l h
    omega
  | _, .dct _, h => by simp [flat] at h
theorem flatL_depth : ∀ (n : Nat) (l : List PV), flatL n l = true → PyData.depthAll (toDs l) ≤ n
  | _, [], _ => Nat.zero_le _
  | n, a :: r, h => by
    simp only [flatL, Bool.and_eq_true] at h
    simp only [toDs, PyData.depthAll]
    exact Nat.max_le.mpr ⟨flat_depth n a h.1, flatL_depth n r h.2⟩
end
mutual
theorem flat_nod : ∀ (n : Nat) (p : PV), flat n p = true → nod p = true
  | _, .non, _ => rfl
  | _, .bl _, _ => rfl
  | _, .int _, _ => rfl
  | _, .str l, _ => rfl
  | 0, .tup l, h => by simp [flat] at h
  | 0, .lst l, h => by simp [flat] at h
  | n + 1, .tup l, h => by
    simp only [flat] at h
    simp only [nod]
    exact flatL_nod n l h
  | n + 1, .lst l, h => by
    simp only [flat] at h
    simp only [nod]
    exact flatL_nod n l h
  | _, .dct _, h => by simp [flat] at h
theorem flatL_nod : ∀ (n : Nat) (l : List PV), flatL n l = true → nodL l = true
  | _, [], _ => rfl
  | n, a :: r, h => by
    simp only [flatL, Bool.and_eq_true] at h
    simp only [nodL, flat_nod n a h.1, flatL_nod n r h.2, Bool.and_true]
end
theorem beq_str (a b : List Char) : (strV a == strV b) = (a == b) := by
  by_cases h : a = b
  · subst h; simp
  · have : strV a ≠ strV b := fun e => h (strV_inj e)
    rw [beq_eq_false_iff_ne.mpr h, beq_eq_false_iff_ne.mpr this]
mutual
theorem eqv_D : ∀ p q : PV, nod p = true → nod q = true → PyData.eqv (toD p) (toD q) = eqP p q := by
  intro p q hp hq
  cases p with
  | dct _ => simp [nod] at hp
  | non => cases q <;> first | rfl | simp [nod] at hq
  | bl a => cases q <;> first | rfl | simp [nod] at hq
  | int a => cases q <;> first | rfl | simp [nod] at hq
  | str a => cases q with
    | str b => simp only [toD, PyData.eqv, eqP, beq_str]
    | dct _ => simp [nod] at hq
    | _ => rfl
  | tup a => cases q with
    | tup b => simp only [toD, PyData.eqv, eqP]; exact eqv_Ds a b (by simpa [nod] using hp) (by simpa [nod] using hq)
    | dct _ => simp [nod] at hq
    | _ => rfl
  | lst a => cases q with
    | lst b => simp only [toD, PyData.eqv, eqP]; exact eqv_Ds a b (by simpa [nod] using hp) (by simpa [nod] using hq)
    | dct _ => simp [nod] at hq
    | _ => rfl
theorem eqv_Ds : ∀ p q : List PV, nodL p = true → nodL q = true → PyData.eqvAll (toDs p) (toDs q) = eqL p q
  | [], [], _, _ => rfl
  | [], _ :: _, _, _ => rfl
  | _ :: _, [], _, _ => rfl
  | a :: r, b :: t, hp, hq => by
    simp only [nodL, Bool.and_eq_true] at hp hq
    simp only [toDs, PyData.eqvAll, eqL, eqv_D a b hp.1 hq.1, eqv_Ds r t hp.2 hq.2]
end
mutual
theorem Rep.dp {Z : Zd} {H : Hp} : ∀ (p : PV) (v : V), nod p = true → Rep Z H p v → Dp Z.K H v (toD p)
  | .non, v, _, h => by unfold Rep at h; subst h; exact .non
  | .bl _, v, _, h => by unfold Rep at h; subst h; exact .bl _
  | .int _, v, _, h => by unfold Rep at h; subst h; exact .int _
  | .str l, v, _, h => by unfold Rep at h; subst h; exact .str _
  | .tup l, v, hn, h => by
    unfold Rep at h
    obtain ⟨a, vs, rfl, h1, h2⟩ := h
    exact .tup h1 (RepL.dp l vs (by simpa [nod] using hn) h2)
  | .lst l, v, hn, h => by
    unfold Rep at h
    obtain ⟨a, vs, rfl, h1, h2⟩ := h
    exact .lst h1 (RepL.dp l vs (by simpa [nod] using hn) h2)
  | .dct _, v, hn, h => by simp [nod] at hn
theorem RepL.dp {Z : Zd} {H : Hp} : ∀ (p : List PV) (v : List V), nodL p = true → RepL Z H p v → DpAll Z.K H v (toDs p)
  | [], v, _, h => by unfold RepL at h; subst h; exact .nil
  | p :: ps, v, hn, h => by
    unfold RepL at h
    obtain ⟨x, r, rfl, h1, h2⟩ := h
    simp only [nodL, Bool.and_eq_true] at hn
    exact .cons (Rep.dp p x hn.1 h1) (RepL.dp ps r hn.2 h2)
end
/-- a looked-at value, in the whole heap -/
theorem RepB.whole {Z : Zd} {H : Hp} {S : List Addr} {p : PV} {v : V} (h : RepB Z H S p v) : Rep Z H p v := by
  cases p with
  | lst l =>
    obtain ⟨a, vs, e, h1, h2⟩ := h
    unfold Rep
    exact ⟨a, vs, e, h1, h2.mono (hide_le H S)⟩
  | dct l =>
    obtain ⟨a, es, e, h1, h2, h3⟩ := h
    unfold Rep
    exact ⟨a, es, e, h1, h2, RepD.mono (hide_le H S) _ _ h3⟩
  | _ => exact Rep.mono (hide_le H S) _ _ h
theorem Got.scal {Z : Zd} {S : List Addr} {H : Hp} {r : PV} {v : V} (h : ∀ G, Rep Z G r v) : Got Z S H r v H := ⟨.refl H, h _⟩
theorem Got.tup {Z : Zd} {S : List Addr} {H : Hp} {l : List PV} {vs : List V} {p : Addr} (hS : live H S) (hp : H p = none) (h : RepL Z (hide H S) l vs) : Got Z S H (.tup l) (.ref p) (upd H p (.tup vs)) := by
  refine ⟨same_upd hp, ?_⟩
  unfold Rep
  exact ⟨p, vs, rfl, .of (hide_some.mpr ⟨fun z => hS p z hp, upd_same⟩), h.mono (hide_same S (same_upd hp))⟩
theorem Got.lst {Z : Zd} {S : List Addr} {H : Hp} {l : List PV} {vs : List V} {p : Addr} (hS : live H S) (hp : H p = none) (h : RepL Z (hide H S) l vs) : Got Z S H (.lst l) (.ref p) (upd H p (.lst vs)) := by
  refine ⟨same_upd hp, ?_⟩
  unfold Rep
  exact ⟨p, vs, rfl, .of (hide_some.mpr ⟨fun z => hS p z hp, upd_same⟩), h.mono (hide_same S (same_upd hp))⟩
theorem Frs.lst {Z : Zd} {S : List Addr} {H : Hp} {l : List PV} {vs : List V} {p : Addr} (hp : H p = none) (h : RepL Z (hide H S) l vs) : Frs Z H (upd H p (.lst vs)) S (.lst l) (.ref p) :=
  ⟨p, vs, rfl, hp, upd_same, h.mono (hide_new hp)⟩

/-! ### + - * // % ** -/
section
variable {X : Cx}
theorem line_eq : lineMax = sizeLine := by rw [sizeLine_eq]; rfl
theorem or_add : OpR X (binaryOp .Add) (rV2 (zOf X) true (pvBin .add)) := by
  intro pins s σ H x y v u Q I rx ry h
  obtain ⟨S, p, q, r, hS, rp, rq, e, k⟩ := h
  cases p <;> cases q <;> simp only [pvBin, reduceCtorEq] at e
  · rename_i a b
    cases e
    have ea : x = .int a := by simpa [RepB, Rep] using rp
    have eb : y = .int b := by simpa [RepB, Rep] using rq
    exact op_add pins s σ H x y v u Q I rx ry ⟨a, b, ea, eb, k _ H (.scal fun G => by simp [Rep]) fun _ => trivial⟩
  · rename_i a b
    have ea : x = .str (strV a) := by simpa [RepB, Rep] using rp
    have eb : y = .str (strV b) := by simpa [RepB, Rep] using rq
    unfold tupOk at e
    split at e <;> cases e
    rename_i hl
    refine op_add_str pins s σ H x y v u Q I rx ry ⟨_, _, ea, eb, ?_, ?_⟩
    · rw [strV_len, strV_len, ← line_eq]; simpa using hl
    · rw [strV_app]
      exact k _ H (.scal fun G => by simp [Rep]) fun _ => trivial
  · rename_i a b
    obtain ⟨l, xs, rfl, h1, h2⟩ := (show ∃ l xs, x = .ref l ∧ SqT X.K (hide H S) l xs ∧ RepL (zOf X) (hide H S) a xs by simpa [RepB, Rep] using rp)
    obtain ⟨m, ys, rfl, h3, h4⟩ := (show ∃ l xs, y = .ref l ∧ SqT X.K (hide H S) l xs ∧ RepL (zOf X) (hide H S) b xs by simpa [RepB, Rep] using rq)
    unfold tupOk at e
    split at e <;> cases e
    rename_i hl
    have e1 := h2.length
    have e2 := h4.length
    have h2' := h2
    have h4' := h4
    refine op_catA pins s σ H _ _ v u Q I rx ry ⟨l, m, xs, ys, rfl, rfl, seqT (hide_le H S) h1, seqT (hide_le H S) h3, ?_, fun z => ?_, fun _ z => ?_, fun _ _ p hp => ?_⟩
    · rw [e1, e2, ← line_eq]; simpa using hl
    · subst z
      have : a = [] := by
        cases a with
        | nil => rfl
        | cons _ _ => simp at e1
      subst this
      refine k _ H ⟨.refl H, ?_⟩ fun _ => trivial
      unfold Rep
      exact ⟨m, ys, rfl, h3, by simpa using h4⟩
    · subst z
      have : b = [] := by
        cases b with
        | nil => rfl
        | cons _ _ => simp at e2
      subst this
      refine k _ H ⟨.refl H, ?_⟩ fun _ => trivial
      unfold Rep
      exact ⟨l, xs, rfl, h1, by simpa using h2⟩
    · exact k _ _ (.tup hS hp (h2.app h4)) fun _ => trivial
  · rename_i a b
    obtain ⟨l, xs, rfl, h1, h2⟩ := (show ∃ l xs, x = .ref l ∧ SqL X.K H l xs ∧ RepL (zOf X) (hide H S) a xs from rp)
    obtain ⟨m, ys, rfl, h3, h4⟩ := (show ∃ l xs, y = .ref l ∧ SqL X.K H l xs ∧ RepL (zOf X) (hide H S) b xs from rq)
    unfold tupOk at e
    split at e <;> cases e
    rename_i hl
    cases rx
    cases ry
    obtain ⟨its, r1, ⟨⟨c1, d1, t1, s1⟩, n1, g1, g2, g3, g4⟩, z1⟩ := I.list h1
    obtain ⟨its2, r2, ⟨⟨c2, d2, t2, s2⟩, n2, g5, g6, g7, g8⟩, z2⟩ := I.list h3
    simp only at g2 g3 g4 g6 g7 g8
    subst g2 g3 g4 g6 g7 g8
    have l1 := r1.length
    have l2 := r2.length
    have l3 := h2.length
    have l4 := h4.length
    have hz : xs.length + ys.length ≤ sizeLine := by rw [l3, l4, ← line_eq]; simpa using hl
    refine PySem.concat_meets ⟨_, g1, rfl⟩ ⟨_, g5, rfl⟩ noFill_list_add seq_list_add PySem.F.slot_list_add PySem.F.entry_list_add (PySem.F.args_list_add_2 _ _) (list_addW l m its.toArray its2.toArray n1 n2 none none s1 s2 ?_) ⟨g1, g5, ?_⟩
    · rw [List.size_toArray, List.size_toArray]; omega
    · have ea : its.toArray ++ its2.toArray = (its ++ its2).toArray := by simp
      rw [ea]
      exact ⟨.ref _, _, I.lnew (t' := s.toks) (r1.append r2) (by rw [List.length_append]; omega), rfl, k _ _ (.lst hS I.fresh (h2.app h4)) fun _ => .lst I.fresh (h2.app h4)⟩
theorem or_sub : OpR X (binaryOp .Sub) (rV2 (zOf X) true (pvBin .sub)) := by
  intro pins s σ H x y v u Q I rx ry h
  obtain ⟨S, p, q, r, hS, rp, rq, e, k⟩ := h
  cases p <;> cases q <;> simp only [pvBin, reduceCtorEq] at e
  rename_i a b
  cases e
  have ea : x = .int a := by simpa [RepB, Rep] using rp
  have eb : y = .int b := by simpa [RepB, Rep] using rq
  exact op_sub pins s σ H x y v u Q I rx ry ⟨a, b, ea, eb, k _ H (.scal fun G => by simp [Rep]) fun _ => trivial⟩
theorem small64_iff {a : Int} : small64 a = true ↔ -(2 ^ 64) < a ∧ a < 2 ^ 64 := by simp [small64]
/-- a divisor that the plain way takes -/
def CDivA (_ j : Int) : Prop := j ≠ 0 ∧ j.natAbs.log2 < 9000
theorem op_fdivA : OpR X (binaryOp .FloorDiv) (rI CDivA fun i j => .int (i.fdiv j)) := opI fun _ _ _ _ _ _ _ hc q => floordiv_int hc.1 q (.inl (PyProof.noPylong_of_log2 hc.2))
theorem or_fdiv : OpR X (binaryOp .FloorDiv) (rV2 (zOf X) true (pvBin .fdiv)) := by
  intro pins s σ H x y v u Q I rx ry h
  obtain ⟨S, p, q, r, hS, rp, rq, e, k⟩ := h
  cases p <;> cases q <;> simp only [pvBin, reduceCtorEq] at e
  rename_i a b
  have ea : x = .int a := by simpa [RepB, Rep] using rp
  have eb : y = .int b := by simpa [RepB, Rep] using rq
  split at e
  · rename_i hb
    cases e
    exact op_fdiv pins s σ H x y v u Q I rx ry ⟨a, b, ea, eb, hb, k _ H (.scal fun G => by simp [Rep]) fun _ => trivial⟩
  · split at e <;> cases e
    rename_i hb
    exact op_fdivA pins s σ H x y v u Q I rx ry ⟨a, b, ea, eb, ⟨hb.1, PySem.Flt.log2_lt_of (by decide) hb.2⟩, k _ H (.scal fun G => by simp [Rep]) fun _ => trivial⟩
theorem or_mod : OpR X (binaryOp .Mod) (rV2 (zOf X) true (pvBin .mod)) := by
  intro pins s σ H x y v u Q I rx ry h
  obtain ⟨S, p, q, r, hS, rp, rq, e, k⟩ := h
  cases p <;> cases q <;> simp only [pvBin, reduceCtorEq] at e
  rename_i a b
  have ea : x = .int a := by simpa [RepB, Rep] using rp
  have eb : y = .int b := by simpa [RepB, Rep] using rq
  split at e <;> cases e
  rename_i hb
  exact op_mod pins s σ H x y v u Q I rx ry ⟨a, b, ea, eb, hb, k _ H (.scal fun G => by simp [Rep]) fun _ => trivial⟩
theorem or_pow : OpR X (binaryOp .Pow) (rV2 (zOf X) true (pvBin .pow)) := by
  intro pins s σ H x y v u Q I rx ry h
  obtain ⟨S, p, q, r, hS, rp, rq, e, k⟩ := h
  cases p <;> cases q <;> simp only [pvBin, reduceCtorEq] at e
  rename_i a b
  have ea : x = .int a := by simpa [RepB, Rep] using rp
  have eb : y = .int b := by simpa [RepB, Rep] using rq
  split at e <;> cases e
  rename_i hb
  have h3 := small64_iff.mp hb.2.2
  exact op_pow pins s σ H x y v u Q I rx ry ⟨a, b, ea, eb, ⟨hb.1, hb.2.1, by omega⟩, k _ H (.scal fun G => by simp [Rep]) fun _ => trivial⟩
theorem or_mul : OpR X (binaryOp .Mult) (rV2 (zOf X) true (pvBin .mul)) := by
  intro pins s σ H x y v u Q I rx ry h
  obtain ⟨S, p, q, r, hS, rp, rq, e, k⟩ := h
  cases q <;> cases p <;> simp only [pvBin, reduceCtorEq] at e
  · rename_i b a
    have ea : x = .int a := by simpa [RepB, Rep] using rp
    have eb : y = .int b := by simpa [RepB, Rep] using rq
    split at e <;> cases e
    rename_i hm
    have kk := k (.int (a * b)) H (.scal fun G => by simp [Rep]) fun _ => trivial
    simp only [mulOk, Bool.or_eq_true, Bool.and_eq_true, decide_eq_true_eq] at hm
    rcases hm with (hm | hm) | hm
    · exact op_mul pins s σ H x y v u Q I rx ry ⟨a, b, ea, eb, .inl (small64_iff.mp hm), kk⟩
    · exact op_mul pins s σ H x y v u Q I rx ry ⟨a, b, ea, eb, .inr (small64_iff.mp hm), kk⟩
    · exact op_mulW pins s σ H x y v u Q I rx ry ⟨a, b, ea, eb, wide_mul hm.1 hm.2 (by decide) (by decide) (by decide), kk⟩
  · rename_i b a
    have ea : x = .str (strV a) := by simpa [RepB, Rep] using rp
    have eb : y = .int b := by simpa [RepB, Rep] using rq
    split at e <;> cases e
    rename_i hm
    subst ea
    subst eb
    obtain ⟨t, rfl⟩ := rx
    obtain ⟨t2, rfl⟩ := ry
    obtain ⟨m1, m2, m3, m4⟩ := hm
    have hlen : (strV a).length = a.length := strV_len a
    have hq : ((b == 1) || (strV a).length == 0) = false := by
      rw [hlen]
      simp
      exact ⟨by omega, fun z => by rw [z] at m1; simp at m1⟩
    have hb : ∃ m : Nat, b = m ∧ m ≤ 1000 := ⟨b.toNat, by omega, by omega⟩
    obtain ⟨m, rfl, hm⟩ := hb
    refine PySem.SB.mul (n := (m : Int)) ⟨?_, fun _ _ => ?_, fun _ _ => ?_⟩ fun t' k' => ?_
    · rw [decide_eq_false (by omega), decide_eq_false (by omega)]; rfl
    · rw [hlen]
      have : (1000 : Int) ≤ (2 ^ 63 - 1) / (m : Int) := by
        rw [Int.le_ediv_iff_mul_le (by omega)]
        omega
      omega
    · rw [hlen]
      have h1 : a.length * m ≤ 1000 * 1000 := Nat.mul_le_mul m2 hm
      have : (m : Int).toNat = m := by simp
      rw [this]
      exact decide_eq_false (by rw [sizeLine_eq]; omega)
    · refine ⟨.str (strV (repL a (m : Int))), H, I.tok _, ⟨t', ?_⟩, k _ H (.scal fun G => by simp [Rep]) fun _ => trivial⟩
      congr 1
      unfold PySem.Txt.mul
      rw [if_neg (by omega), if_neg (by rw [hq]; simp)]
      unfold strV repL
      have : ∀ (n : Nat) (acc : List Nat), (List.replicate n (a.map Char.toNat).toArray).foldl (· ++ ·) acc.toArray = (acc ++ ((List.replicate n a).flatten.map Char.toNat)).toArray := fun n => by
        induction n with
        | zero => intro acc; simp
        | succ n ih =>
          intro acc
          rw [List.replicate_succ, List.foldl_cons, List.replicate_succ, List.flatten_cons, List.map_append, List.append_toArray, ih]
          simp
      have h2 := this (m : Int).toNat []
      rw [List.nil_append] at h2
      rw [← h2]
  · rename_i b a
    obtain ⟨l, xs, rfl, h1, h2⟩ := (show ∃ l xs, x = .ref l ∧ SqT X.K (hide H S) l xs ∧ RepL (zOf X) (hide H S) a xs by simpa [RepB, Rep] using rp)
    have eb : y = .int b := by simpa [RepB, Rep] using rq
    split at e <;> cases e
    rename_i hm
    have e1 := h2.length
    refine op_repT pins s σ H _ y v u Q I rx ry ⟨l, b, xs, rfl, eb, seqT (hide_le H S) h1, fun z => ?_, hm.2.1, hm.2.2.1, by omega, fun p hp => ?_⟩
    · subst z
      exact hm.1 (List.eq_nil_of_length_eq_zero (by simpa using e1.symm))
    · refine k _ _ (.tup hS hp ?_) fun _ => trivial
      unfold repL
      generalize b.toNat = n
      induction n with
      | zero => exact .nil
      | succ n ih =>
        simp only [List.replicate_succ, List.flatten_cons]
        exact h2.app ih

/-! ### comparisons -/
theorem RepB.d {S : List Addr} {H : Hp} {p : PV} {v : V} (hn : nod p = true) (h : RepB (zOf X) H S p v) : Dp X.K H v (toD p) := Rep.dp p v hn h.whole
theorem okEq_use {x y : PV} (h : okEq x y = true) : nod x = true ∧ nod y = true ∧ min (toD x).depth (toD y).depth ≤ 60 := by
  simp only [okEq, Bool.or_eq_true, Bool.and_eq_true] at h
  rcases h with ⟨h1, h2⟩ | ⟨h1, h2⟩
  · exact ⟨flat_nod _ _ h1, h2, Nat.le_trans (Nat.min_le_left _ _) (flat_depth _ _ h1)⟩
  · exact ⟨h1, flat_nod _ _ h2, Nat.le_trans (Nat.min_le_right _ _) (flat_depth _ _ h2)⟩
theorem oc_eq (hu : X.A.units + 64 < cLine) : OpR X (compareOp .Eq) (rV2 (zOf X) true (pvCmp .eq)) := by
  intro pins s σ H x y v u Q I rx ry h
  obtain ⟨S, p, q, r, hS, rp, rq, e, k⟩ := h
  simp only [pvCmp] at e
  split at e <;> cases e
  rename_i hm
  obtain ⟨n1, n2, n3⟩ := okEq_use hm
  obtain ⟨as, r1⟩ := Dp.reads I _ x v (rp.d n1) rx
  obtain ⟨bs, r2⟩ := Dp.reads I _ y u (rq.d n2) ry
  exact SeqAt.compareEq_reads r1 r2 (nod_lay _ n1) (nod_lay _ n2) (by omega) ⟨.bl _, H, I, rfl, by rw [eqv_D _ _ n1 n2]; exact k _ H (.scal fun G => by simp [Rep]) fun _ => trivial⟩
theorem oc_ne (hu : X.A.units + 64 < cLine) : OpR X (compareOp .NotEq) (rV2 (zOf X) true (pvCmp .ne)) := by
  intro pins s σ H x y v u Q I rx ry h
  obtain ⟨S, p, q, r, hS, rp, rq, e, k⟩ := h
  simp only [pvCmp] at e
  split at e <;> cases e
  rename_i hm
  obtain ⟨n1, n2, n3⟩ := okEq_use hm
  obtain ⟨as, r1⟩ := Dp.reads I _ x v (rp.d n1) rx
  obtain ⟨bs, r2⟩ := Dp.reads I _ y u (rq.d n2) ry
  exact SeqAt.compareNe_reads r1 r2 (nod_lay _ n1) (nod_lay _ n2) (by omega) ⟨.bl _, H, I, rfl, by rw [eqv_D _ _ n1 n2]; exact k _ H (.scal fun G => by simp [Rep]) fun _ => trivial⟩
theorem cmpI {f : PV → PV → R PV} {op : CmpOp} {b : Int → Int → Bool} (ho : OpR X (compareOp op) (rI0 fun i j => .bl (b i j))) (hf : ∀ p q r, f p q = .ok r → ∃ i j, p = .int i ∧ q = .int j ∧ r = .bl (b i j)) :
    OpR X (compareOp op) (rV2 (zOf X) true f) := by
  intro pins s σ H x y v u Q I rx ry h
  obtain ⟨S, p, q, r, hS, rp, rq, e, k⟩ := h
  obtain ⟨i, j, rfl, rfl, rfl⟩ := hf _ _ _ e
  have ea : x = .int i := by simpa [RepB, Rep] using rp
  have eb : y = .int j := by simpa [RepB, Rep] using rq
  exact ho pins s σ H x y v u Q I rx ry ⟨i, j, ea, eb, k _ H (.scal fun G => by simp [Rep]) fun _ => trivial⟩
theorem oc_lt : OpR X (compareOp .Lt) (rV2 (zOf X) true (pvCmp .lt)) := cmpI op_lt fun p q r e => by
  cases p <;> cases q <;> simp only [pvCmp, reduceCtorEq] at e
  cases e
  exact ⟨_, _, rfl, rfl, rfl⟩
theorem oc_le : OpR X (compareOp .LtE) (rV2 (zOf X) true (pvCmp .le)) := cmpI op_le fun p q r e => by
  cases p <;> cases q <;> simp only [pvCmp, reduceCtorEq] at e
  cases e
  exact ⟨_, _, rfl, rfl, rfl⟩
theorem oc_gt : OpR X (compareOp .Gt) (rV2 (zOf X) true (pvCmp .gt)) := cmpI op_gt fun p q r e => by
  cases p <;> cases q <;> simp only [pvCmp, reduceCtorEq] at e
  cases e
  exact ⟨_, _, rfl, rfl, rfl⟩
theorem oc_ge : OpR X (compareOp .GtE) (rV2 (zOf X) true (pvCmp .ge)) := cmpI op_ge fun p q r e => by
  cases p <;> cases q <;> simp only [pvCmp, reduceCtorEq] at e
  cases e
  exact ⟨_, _, rfl, rfl, rfl⟩
end
end G
namespace G
open PySem PySem.Spec PyProof.Rows L2
section
variable {X : Cx}

/-! ### is, in -/
theorem rep_non {Z : Zd} {H : Hp} {S : List Addr} {p : PV} {v : V} (h : RepB Z H S p v) : (v = .non) ↔ p = .non := by
  cases p with
  | non => simp only [RepB, Rep] at h; simp [h]
  | bl b => simp only [RepB, Rep] at h; simp [h]
  | int b => simp only [RepB, Rep] at h; simp [h]
  | str b => simp only [RepB, Rep] at h; simp [h]
  | tup l =>
    simp only [RepB, Rep] at h
    obtain ⟨a, vs, rfl, _⟩ := h
    simp
  | lst l =>
    obtain ⟨a, vs, rfl, _⟩ := h
    simp
  | dct l =>
    obtain ⟨a, vs, rfl, _⟩ := h
    simp
theorem isTF_cases {p q : PV} {b : Bool} (h : isTF p q = .ok b) : (q = .non ∧ b = isNon p) ∨ (∃ c d, p = .bl c ∧ q = .bl d ∧ b = decide (c = d)) ∨ ∃ d, q = .bl d ∧ (∀ c, p ≠ .bl c) ∧ b = false := by
  cases q with
  | non => cases h; exact .inl ⟨rfl, rfl⟩
  | bl d => cases p <;> cases h <;> first | exact .inr (.inl ⟨_, _, rfl, rfl, rfl⟩) | exact .inr (.inr ⟨_, rfl, (fun c z => by cases z), rfl⟩)
  | _ => cases h
theorem isNon_eq {p : PV} : isNon p = true ↔ p = .non := by cases p <;> simp [isNon]
theorem bind_eq {α β : Type} {r : R α} {f : α → R β} {b : β} (h : (r >>= f) = .ok b) : ∃ a, r = .ok a ∧ f a = .ok b := by
  cases r with
  | ok a => exact ⟨a, rfl, h⟩
  | ex x => cases h
  | bad => cases h
section
variable {Z : Zd} {S : List Addr} {H : Hp} {Q : VK} {fr : Bool}
theorem fin_sc {r : PV} {v : V} (hr : ∀ G, Rep Z G r v) (hs : scal r = true) (k : ∀ v H', Got Z S H r v H' → (fr = true → Frs Z H H' S r v) → Q v H') : Q v H :=
  k v H (.scal hr) fun _ => by cases r <;> first | trivial | (simp [scal] at hs)
theorem fin_bl {b : Bool} (k : ∀ v H', Got Z S H (.bl b) v H' → (fr = true → Frs Z H H' S (.bl b) v) → Q v H') : Q (.bl b) H := fin_sc (fun G => by simp [Rep]) rfl k
theorem fin_int {b : Int} (k : ∀ v H', Got Z S H (.int b) v H' → (fr = true → Frs Z H H' S (.int b) v) → Q v H') : Q (.int b) H := fin_sc (fun G => by simp [Rep]) rfl k
theorem fin_str {b : List Char} (k : ∀ v H', Got Z S H (.str b) v H' → (fr = true → Frs Z H H' S (.str b) v) → Q v H') : Q (.str (strV b)) H := fin_sc (fun G => by simp [Rep]) rfl k
theorem eq_int {b : Int} {v : V} (h : RepB Z H S (.int b) v) : v = .int b := by simpa [RepB, Rep] using h
theorem eq_bl {b : Bool} {v : V} (h : RepB Z H S (.bl b) v) : v = .bl b := by simpa [RepB, Rep] using h
theorem eq_str {b : List Char} {v : V} (h : RepB Z H S (.str b) v) : v = .str (strV b) := by simpa [RepB, Rep] using h
theorem eq_non {v : V} (h : RepB Z H S .non v) : v = .non := by simpa [RepB, Rep] using h
theorem eq_tup {l : List PV} {v : V} (h : RepB Z H S (.tup l) v) : ∃ a vs, v = .ref a ∧ SqT Z.K (hide H S) a vs ∧ RepL Z (hide H S) l vs := by simpa [RepB, Rep] using h
theorem eq_lst {l : List PV} {v : V} (h : RepB Z H S (.lst l) v) : ∃ a vs, v = .ref a ∧ SqL Z.K H a vs ∧ RepL Z (hide H S) l vs := h
end
theorem not_bool {Z : Zd} {S : List Addr} {H : Hp} {p : PV} {x : V} {v : Value} (hp : ∀ c, p ≠ .bl c) (rp : RepB Z H S p x) (rx : RelV x v) (d : Bool) : plainIs v (.bool d) = true ∧ v ≠ .bool d := by
  cases p with
  | non =>
    rw [eq_non rp] at rx
    cases rx
    exact ⟨rfl, fun z => nomatch z⟩
  | bl c => exact absurd rfl (hp c)
  | int i =>
    rw [eq_int rp] at rx
    obtain ⟨t, rfl⟩ := rx
    exact ⟨rfl, fun z => nomatch z⟩
  | str l =>
    rw [eq_str rp] at rx
    obtain ⟨t, rfl⟩ := rx
    exact ⟨rfl, fun z => nomatch z⟩
  | tup l =>
    obtain ⟨a, vs, rfl, _⟩ := eq_tup rp
    cases rx
    exact ⟨rfl, fun z => nomatch z⟩
  | lst l =>
    obtain ⟨a, vs, rfl, _⟩ := eq_lst rp
    cases rx
    exact ⟨rfl, fun z => nomatch z⟩
  | dct l =>
    obtain ⟨a, vs, rfl, _⟩ := (show ∃ a es, x = .ref a ∧ _ from by simpa [RepB, Rep] using rp)
    cases rx
    exact ⟨rfl, fun z => nomatch z⟩
theorem oc_is : OpR X (compareOp .Is) (rV2 (zOf X) true (pvCmp .is)) := by
  intro pins s σ H x y v u Q I rx ry h
  obtain ⟨S, p, q, r, hS, rp, rq, e, k⟩ := h
  obtain ⟨b, e1, e2⟩ := bind_eq (show (isTF p q >>= fun b => R.ok (.bl b)) = .ok r from e)
  cases e2
  have kk := fin_bl k
  rcases isTF_cases e1 with ⟨rfl, rfl⟩ | ⟨c, d, rfl, rfl, rfl⟩ | ⟨d, rfl, hp, rfl⟩
  · refine op_isN pins s σ H x y v u Q I rx ry ⟨eq_non rq, ?_⟩
    have : decide (x = V.non) = isNon p := by
      rw [Bool.eq_iff_iff, isNon_eq, decide_eq_true_eq]
      exact rep_non rp
    rw [this]
    exact kk
  · exact op_isBl pins s σ H x y v u Q I rx ry ⟨c, d, eq_bl rp, eq_bl rq, kk⟩
  · rw [eq_bl rq] at ry
    cases ry
    obtain ⟨n1, n2⟩ := not_bool hp rp rx d
    exact wpAny_is_other n1 n2 ⟨.bl false, H, I, rfl, kk⟩
theorem oc_isn : OpR X (compareOp .IsNot) (rV2 (zOf X) true (pvCmp .isn)) := by
  intro pins s σ H x y v u Q I rx ry h
  obtain ⟨S, p, q, r, hS, rp, rq, e, k⟩ := h
  obtain ⟨b, e1, e2⟩ := bind_eq (show (isTF p q >>= fun b => R.ok (.bl (!b))) = .ok r from e)
  cases e2
  have kk := fin_bl k
  rcases isTF_cases e1 with ⟨rfl, rfl⟩ | ⟨c, d, rfl, rfl, rfl⟩ | ⟨d, rfl, hp, rfl⟩
  · refine op_notN pins s σ H x y v u Q I rx ry ⟨eq_non rq, ?_⟩
    have : decide (x = V.non) = isNon p := by
      rw [Bool.eq_iff_iff, isNon_eq, decide_eq_true_eq]
      exact rep_non rp
    rw [this]
    exact kk
  · exact op_notBl pins s σ H x y v u Q I rx ry ⟨c, d, eq_bl rp, eq_bl rq, kk⟩
  · rw [eq_bl rq] at ry
    cases ry
    obtain ⟨n1, n2⟩ := not_bool hp rp rx d
    exact wpAny_isNot_other n1 n2 ⟨.bl true, H, I, rfl, kk⟩
theorem any_D {x : PV} : ∀ l : List PV, nodL l = true → nod x = true → ((toDs l).any fun z => PyData.eqv z (toD x)) = hasP l x
  | [], _, _ => rfl
  | a :: r, h, hx => by
    simp only [nodL, Bool.and_eq_true] at h
    have ih := any_D r h.2 hx
    simp only [hasP] at ih ⊢
    simp only [toDs, List.any_cons, eqv_D a x h.1 hx, ih]
theorem okIn_use {x : PV} {l : List PV} (h : okIn x l = true) : nod x = true ∧ nodL l = true ∧ min (PyData.depthAll (toDs l)) (toD x).depth ≤ 60 := by
  simp only [okIn, Bool.or_eq_true, Bool.and_eq_true] at h
  rcases h with ⟨h1, h2⟩ | ⟨h1, h2⟩
  · exact ⟨flat_nod _ _ h1, h2, Nat.le_trans (Nat.min_le_right _ _) (flat_depth _ _ h1)⟩
  · exact ⟨h1, flatL_nod _ _ h2, Nat.le_trans (Nat.min_le_left _ _) (flatL_depth _ _ h2)⟩
theorem mem_map_nat {c : Char} {z : List Char} : (c.toNat ∈ z.map Char.toNat) ↔ c ∈ z := by
  constructor
  · intro h
    obtain ⟨d, h1, h2⟩ := List.mem_map.mp h
    exact nat_inj h2 ▸ h1
  · exact fun h => List.mem_map.mpr ⟨c, h, rfl⟩
theorem sign_in {c : Char} {z : List Char} : decide (c.toNat ∈ (strV z).cps.toList) = decide (c ∈ z) := by
  rw [strV_list]
  exact decide_eq_decide.mpr mem_map_nat
theorem oc_in (hu : X.A.units + 65 < cLine) : OpR X (compareOp .In) (rV2 (zOf X) true (pvCmp .isin)) := by
  intro pins s σ H x y v u Q I rx ry h
  obtain ⟨S, p, q, r, hS, rp, rq, e, k⟩ := h
  obtain ⟨b, e1, e2⟩ := bind_eq (show (pvIn p q >>= fun b => R.ok (.bl b)) = .ok r from e)
  cases e2
  have kk := fin_bl k
  cases q <;> simp only [pvIn, reduceCtorEq] at e1
  · rename_i z
    split at e1 <;> cases e1
    rename_i c
    refine op_in_sign pins s σ H x y v u Q I rx ry ⟨c.toNat, strV z, eq_str rp, eq_str rq, ?_⟩
    rw [sign_in]
    exact kk
  · rename_i l
    split at e1 <;> cases e1
    rename_i hm
    obtain ⟨n1, n2, n3⟩ := okIn_use hm
    obtain ⟨as, r1⟩ := Dp.reads I _ x v (rp.d n1) rx
    obtain ⟨bs, r2⟩ := Dp.reads I _ y u (rq.d (by simpa [nod] using n2)) ry
    exact SeqAt.in_tuple_reads r2 r1 (nodL_lay _ n2) (nod_lay _ n1) (by omega) ⟨.bl _, H, I, rfl, by rw [any_D _ n2 n1]; exact kk⟩
  · rename_i l
    split at e1 <;> cases e1
    rename_i hm
    obtain ⟨n1, n2, n3⟩ := okIn_use hm
    obtain ⟨as, r1⟩ := Dp.reads I _ x v (rp.d n1) rx
    obtain ⟨bs, r2⟩ := Dp.reads I _ y u (rq.d (by simpa [nod] using n2)) ry
    exact SeqAt.in_list_reads r2 r1 (nodL_lay _ n2) (nod_lay _ n1) (by omega) ⟨.bl _, H, I, rfl, by rw [any_D _ n2 n1]; exact kk⟩
  · rename_i l
    split at e1 <;> cases e1
    rename_i hk
    obtain ⟨a, es, rfl, h1, h2, h3⟩ := rq
    cases ry
    have hn := nest_ok I 8 p x v hk rp.whole rx
    have hD := dat_of I (hide_le H S) h1 h2 h3
    have hsm := (do_at I h1).1
    refine in_key (by show X.A.units + 1 + 8 < cLine; omega) hsm hD hn (depth_le 8 p hk) ?_
    rw [dget_some hk h2 h3]
    exact ⟨.bl _, H, I.tok _, rfl, kk⟩
theorem oc_nin (hu : X.A.units + 65 < cLine) : OpR X (compareOp .NotIn) (rV2 (zOf X) true (pvCmp .nin)) := by
  intro pins s σ H x y v u Q I rx ry h
  obtain ⟨S, p, q, r, hS, rp, rq, e, k⟩ := h
  obtain ⟨b, e1, e2⟩ := bind_eq (show (pvIn p q >>= fun b => R.ok (.bl (!b))) = .ok r from e)
  cases e2
  have kk := fin_bl k
  cases q <;> simp only [pvIn, reduceCtorEq] at e1
  · rename_i z
    split at e1 <;> cases e1
    rename_i c
    refine op_notIn_sign pins s σ H x y v u Q I rx ry ⟨c.toNat, strV z, eq_str rp, eq_str rq, ?_⟩
    rw [sign_in]
    exact kk
  · rename_i l
    split at e1 <;> cases e1
    rename_i hm
    obtain ⟨n1, n2, n3⟩ := okIn_use hm
    obtain ⟨as, r1⟩ := Dp.reads I _ x v (rp.d n1) rx
    obtain ⟨bs, r2⟩ := Dp.reads I _ y u (rq.d (by simpa [nod] using n2)) ry
    exact SeqAt.notIn_tuple_reads r2 r1 (nodL_lay _ n2) (nod_lay _ n1) (by omega) ⟨.bl _, H, I, rfl, by rw [any_D _ n2 n1]; exact kk⟩
  · rename_i l
    split at e1 <;> cases e1
    rename_i hm
    obtain ⟨n1, n2, n3⟩ := okIn_use hm
    obtain ⟨as, r1⟩ := Dp.reads I _ x v (rp.d n1) rx
    obtain ⟨bs, r2⟩ := Dp.reads I _ y u (rq.d (by simpa [nod] using n2)) ry
    exact SeqAt.notIn_list_reads r2 r1 (nodL_lay _ n2) (nod_lay _ n1) (by omega) ⟨.bl _, H, I, rfl, by rw [any_D _ n2 n1]; exact kk⟩
  · rename_i l
    split at e1 <;> cases e1
    rename_i hk
    obtain ⟨a, es, rfl, h1, h2, h3⟩ := rq
    cases ry
    have hn := nest_ok I 8 p x v hk rp.whole rx
    have hD := dat_of I (hide_le H S) h1 h2 h3
    have hsm := (do_at I h1).1
    refine notin_key (by show X.A.units + 1 + 8 < cLine; omega) hsm hD hn (depth_le 8 p hk) ?_
    rw [dget_some hk h2 h3]
    exact ⟨.bl _, H, I.tok _, rfl, kk⟩

/-! ### subscripts, slices -/
theorem ixAt_eq {α : Type} (l : List α) (i : Int) : ixAt l i = atI l i := by
  unfold ixAt atI ixN
  by_cases h : 0 ≤ i
  · rw [if_pos h, if_pos h]
    by_cases h2 : i < l.length
    · rw [if_pos h2]; rfl
    · rw [if_neg h2, List.getElem?_eq_none (by omega)]; rfl
  · rw [if_neg h, if_neg h]
    by_cases h2 : 0 ≤ i + l.length
    · rw [if_pos h2, if_pos (by omega)]; rfl
    · rw [if_neg h2, if_neg (by omega)]; rfl
theorem ofO_ok {α : Type} {o : Option α} {a : α} (h : ofO o = .ok a) : o = some a := by
  cases o with
  | none => cases h
  | some b => cases h; rfl
theorem RepL.atI {Z : Zd} {H : Hp} {ps : List PV} {vs : List V} {i : Int} {p : PV} (h : RepL Z H ps vs) (e : ixAt ps i = some p) : ∃ v, L2.atI vs i = some v ∧ Rep Z H p v := by
  have hl := h.length
  rw [ixAt_eq] at e
  unfold L2.atI at e ⊢
  rw [hl]
  cases q : ixN ps.length i with
  | none => rw [q] at e; cases e
  | some j =>
    rw [q] at e
    exact h.get e
theorem Frs.none {Z : Zd} {H : Hp} {S : List Addr} {r : PV} {Q : VK} (k : ∀ v H', Got Z S H r v H' → (false = true → Frs Z H H' S r v) → Q v H') : ∀ v H', Got Z S H r v H' → Q v H' := fun v H' g => k v H' g fun z => nomatch z
theorem ix_ok (hu : X.A.units + 65 < cLine) : IxR X (rV2 (zOf X) false pvSub) := by
  intro value slice pins s σ H x y v u Q I rx ry h hs
  obtain ⟨S, p, q, r, hS, rp, rq, e, k⟩ := h
  have kn := Frs.none k
  cases p <;> simp only [pvSub, reduceCtorEq] at e
  · rename_i l
    cases q <;> simp only [pvSub, reduceCtorEq] at e
    rename_i i
    split at e <;> try (cases e; done)
    rename_i hl
    obtain ⟨c, e1, e2⟩ := bind_eq (show (ofO (ixAt l i) >>= fun c => R.ok (PV.str [c])) = .ok r from e)
    cases e2
    have e3 := ofO_ok e1
    refine ix_str value slice pins s σ H x y v u Q I rx ry ⟨strV l, i, c.toNat, eq_str rp, eq_int rq, ?_, ?_, ?_⟩ hs
    · rw [strV_len, ← line_eq]; exact hl
    · rw [strV_list, ← ixAt_eq]
      rw [ixAt_eq] at e3 ⊢
      unfold L2.atI at e3 ⊢
      rw [List.length_map]
      cases q : ixN l.length i with
      | none => rw [q] at e3; cases e3
      | some j =>
        rw [q] at e3
        show (l.map Char.toNat)[j]? = some c.toNat
        rw [List.getElem?_map, show l[j]? = some c from e3]
        rfl
    · exact kn _ H (.scal fun G => by simp only [Rep, strV_one])
  · rename_i l
    cases q <;> simp only [pvSub, reduceCtorEq] at e
    rename_i i
    obtain ⟨a, vs, rfl, h1, h2⟩ := eq_tup rp
    obtain ⟨w', e1, e2⟩ := h2.atI (ofO_ok e)
    exact ix_tup value slice pins s σ H _ y v u Q I rx ry ⟨a, vs, i, w', rfl, eq_int rq, seqT (hide_le H S) h1, e1, kn _ H ⟨.refl H, e2⟩⟩ hs
  · rename_i l
    cases q <;> simp only [pvSub, reduceCtorEq] at e
    rename_i i
    obtain ⟨a, vs, rfl, h1, h2⟩ := eq_lst rp
    obtain ⟨w', e1, e2⟩ := h2.atI (ofO_ok e)
    exact ix_list value slice pins s σ H _ y v u Q I rx ry ⟨a, vs, i, w', rfl, eq_int rq, h1, e1, kn _ H ⟨.refl H, e2⟩⟩ hs
  · rename_i l
    split at e <;> try (cases e; done)
    rename_i hk
    obtain ⟨a, es, rfl, h1, h2, h3⟩ := rp
    cases rx
    have hn := nest_ok I 8 q y u hk rq.whole ry
    have hD := dat_of I (hide_le H S) h1 h2 h3
    have hv := dget_D hk h2 h3
    have e' := ofO_ok e
    rw [e'] at hv
    obtain ⟨u', v', g1, g2, g3⟩ := hv
    refine tail_key hD hs (item_key (by show X.A.units + 1 + 8 < cLine; omega) hD hn (depth_le 8 q hk) g1 ?_)
    exact ⟨v', H, I.tok _, g2, kn _ H ⟨.refl H, g3⟩⟩
def rVS (Z : Zd) : V → Option Int → Option Int → Hp → VK → Prop := fun x lo hi H Q => ∃ S p r, live H S ∧ RepB Z H S p x ∧ pvSlc p lo hi = .ok r ∧
  ∀ v H', Got Z S H r v H' → Frs Z H H' S r v → Q v H'
theorem cl_eq (n d : Nat) (o : Option Int) : cl n d o = HT.sIx n d o := by
  cases o with
  | none => rfl
  | some i => rfl
theorem RepL.cut {Z : Zd} {H : Hp} {ps : List PV} {vs : List V} {lo hi : Option Int} (h : RepL Z H ps vs) : RepL Z H (cut ps lo hi) (cutV vs lo hi) := by
  unfold G.cut cutV
  rw [h.length, cl_eq, cl_eq]
  exact (h.drop _).take _
theorem cut_all {α : Type} {l : List α} {lo hi : Option Int} (h : HT.sIx l.length 0 lo = 0 ∧ HT.sIx l.length l.length hi = l.length) : cut l lo hi = l := by
  unfold cut
  rw [cl_eq, cl_eq, h.1, h.2]
  simp
theorem sl_ok : SlR X (rVS (zOf X)) := by
  intro pins s σ H x v vl vu lo hi sl Q I rx hs pl pu h
  obtain ⟨S, p, r, hS, rp, e, k⟩ := h
  cases p <;> simp only [pvSlc, reduceCtorEq] at e
  · rename_i l
    split at e <;> cases e
    rename_i hl
    have e1 : cutS (strV l) lo hi = strV (cut l lo hi) := by
      unfold cutS cut
      rw [strV_list, strV_len, cl_eq, cl_eq]
      simp only [strV, List.map_take, List.map_drop]
    refine sl_str pins s σ H x v vl vu lo hi sl Q I rx hs pl pu ⟨strV l, eq_str rp, by rw [strV_len, ← line_eq]; exact hl, ?_⟩
    rw [e1]
    exact k _ H (.scal fun G => by simp only [Rep]) trivial
  · rename_i l
    cases e
    obtain ⟨a, vs, rfl, h1, h2⟩ := eq_tup rp
    refine sl_tupA pins s σ H _ v vl vu lo hi sl Q I rx hs pl pu ⟨a, vs, rfl, seqT (hide_le H S) h1, fun z => ?_, fun z p hp => ?_⟩
    · have z' := z
      rw [h2.length] at z'
      rw [cut_all z'] at k
      exact k _ H ⟨.refl H, by unfold Rep; exact ⟨a, vs, rfl, h1, h2⟩⟩ trivial
    · exact k _ _ (.tup hS hp h2.cut) trivial
  · rename_i l
    cases e
    obtain ⟨a, vs, rfl, h1, h2⟩ := eq_lst rp
    exact sl_list pins s σ H _ v vl vu lo hi sl Q I rx hs pl pu ⟨a, vs, rfl, h1, fun p hp => k _ _ (.lst hS hp h2.cut) (.lst hp h2.cut)⟩
end
end G
namespace G
open PySem PySem.Spec PyProof.Rows L2

theorem bind_eq' {α β : Type} {r : R α} {f : α → R β} {b : β} (h : r.bind f = .ok b) : ∃ a, r = .ok a ∧ f a = .ok b := bind_eq h
theorem bits_lt {i : Int} {n : Nat} (h : i.natAbs < 2 ^ n) (hn : 0 < n) : i.natAbs.log2 < n := PySem.Flt.log2_lt_of hn h
theorem strV_of (s : String) : strV s.toList = Str.ofString s := by
  unfold strV Str.ofString
  rw [cpsOfBytes_string]
theorem isDig_iff {c : Char} : isDig c = true ↔ 48 ≤ c.toNat ∧ c.toNat ≤ 57 := by simp [isDig]
theorem digVal_eq (l : List Char) : digVal l = PySem.NumText.digitsVal (l.map Char.toNat) := by
  unfold digVal PySem.NumText.digitsVal
  rw [List.foldl_map]
theorem allInt_eq : ∀ {l : List PV} {ns : List Int}, allInt l = some ns → l = ns.map PV.int
  | [], ns, h => by cases h; rfl
  | .int i :: r, ns, h => by
    simp only [allInt, Option.map_eq_some_iff] at h
    obtain ⟨q, h1, rfl⟩ := h
    rw [allInt_eq h1]; rfl
  | .non :: r, ns, h => by cases h
  | .bl _ :: r, ns, h => by cases h
  | .str _ :: r, ns, h => by cases h
  | .tup _ :: r, ns, h => by cases h
  | .lst _ :: r, ns, h => by cases h
  | .dct _ :: r, ns, h => by cases h
theorem allBl_eq : ∀ {l : List PV} {ns : List Bool}, allBl l = some ns → l = ns.map PV.bl
  | [], ns, h => by cases h; rfl
  | .bl i :: r, ns, h => by
    simp only [allBl, Option.map_eq_some_iff] at h
    obtain ⟨q, h1, rfl⟩ := h
    rw [allBl_eq h1]; rfl
  | .non :: r, ns, h => by cases h
  | .int _ :: r, ns, h => by cases h
  | .str _ :: r, ns, h => by cases h
  | .tup _ :: r, ns, h => by cases h
  | .lst _ :: r, ns, h => by cases h
  | .dct _ :: r, ns, h => by cases h
theorem RepL.ints {Z : Zd} {H : Hp} : ∀ {ns : List Int} {vs : List V}, RepL Z H (ns.map PV.int) vs → vs = ns.map V.int
  | [], vs, h => by simpa [RepL] using h
  | n :: ns, vs, h => by
    simp only [List.map_cons, RepL, Rep] at h
    obtain ⟨v, r, rfl, rfl, h2⟩ := h
    rw [RepL.ints h2]; rfl
theorem RepL.ints' {Z : Zd} {H : Hp} : ∀ {ns : List Int}, RepL Z H (ns.map PV.int) (ns.map V.int)
  | [] => .nil
  | n :: ns => .cons (by simp [Rep]) RepL.ints'
theorem RepL.bls {Z : Zd} {H : Hp} : ∀ {ns : List Bool} {vs : List V}, RepL Z H (ns.map PV.bl) vs → vs = ns.map V.bl
  | [], vs, h => by simpa [RepL] using h
  | n :: ns, vs, h => by
    simp only [List.map_cons, RepL, Rep] at h
    obtain ⟨v, r, rfl, rfl, h2⟩ := h
    rw [RepL.bls h2]; rfl
theorem sortI_unique {a b : List Int} (h : a.Perm b) (s : a.Pairwise (· ≤ ·)) : a = sortI b := by
  have p2 : (sortI b).Perm b := List.mergeSort_perm b _
  have s2 : (sortI b).Pairwise (· ≤ ·) := by
    have := List.pairwise_mergeSort (le := fun a b : Int => decide (a ≤ b)) (fun a b c h1 h2 => by simp at *; omega) (fun a b => by simp; omega) b
    exact this.imp fun h => by simpa using h
  exact List.Perm.eq_of_pairwise (fun x y _ _ h1 h2 => Int.le_antisymm h1 h2) s s2 (h.trans p2.symm)
section
variable {X : Cx}
theorem one {xs : List V} {p : PV} {Z : Zd} {H : Hp} {S : List Addr} (h : Paired (RepB Z H S) [p] xs) : ∃ v, xs = [v] ∧ RepB Z H S p v := by
  cases h with
  | cons h t => cases t; exact ⟨_, rfl, h⟩
theorem two' {xs : List V} {p q : PV} {Z : Zd} {H : Hp} {S : List Addr} (h : Paired (RepB Z H S) [p, q] xs) : ∃ v u, xs = [v, u] ∧ RepB Z H S p v ∧ RepB Z H S q u := by
  cases h with
  | cons h t => cases t with | cons h2 t => cases t; exact ⟨_, _, rfl, h, h2⟩
theorem cr1 {f : Value} {g : PV → R PV} (h : ∀ (pins : List (Addr × Obj)) (s : Shared) (σ : L2.St) (H : Hp) (x : V) (us : List Value) (Q : VK) (S : List Addr) (p r : PV), L2.Inv X pins σ H s → Vals [x] us → live H S → RepB (zOf X) H S p x → g p = .ok r →
    (∀ v H', Got (zOf X) S H r v H' → (true = true → Frs (zOf X) H H' S r v) → Q v H') → wpAny (model X.prog X.w) X.A (call f us) (EP X pins σ Q) X.xe s) : CallR X f (rVn (zOf X) true (un1 g)) := by
  intro pins s σ H xs us Q I rs hh
  obtain ⟨S, ps, r, hS, rp, e, k⟩ := hh
  cases rp with
  | nil => cases e
  | cons r1 t =>
    cases t with
    | nil => exact h pins s σ H _ us Q S _ r I rs hS r1 e k
    | cons _ _ => cases e
theorem cr2 {f : Value} {g : PV → PV → R PV} (h : ∀ (pins : List (Addr × Obj)) (s : Shared) (σ : L2.St) (H : Hp) (x y : V) (us : List Value) (Q : VK) (S : List Addr) (p q r : PV), L2.Inv X pins σ H s → Vals [x, y] us → live H S → RepB (zOf X) H S p x → RepB (zOf X) H S q y → g p q = .ok r →
    (∀ v H', Got (zOf X) S H r v H' → (true = true → Frs (zOf X) H H' S r v) → Q v H') → wpAny (model X.prog X.w) X.A (call f us) (EP X pins σ Q) X.xe s) : CallR X f (rVn (zOf X) true (un2 g)) := by
  intro pins s σ H xs us Q I rs hh
  obtain ⟨S, ps, r, hS, rp, e, k⟩ := hh
  cases rp with
  | nil => cases e
  | cons r1 t =>
    cases t with
    | nil => cases e
    | cons r2 t =>
      cases t with
      | nil => exact h pins s σ H _ _ us Q S _ _ r I rs hS r1 r2 e k
      | cons _ _ => cases e
/-! len of a dict -/
section
open Sem (wp)
variable {prog : Program} {w : World} {A : Around} {E : Value → Shared → Prop} {s : Shared}
theorem meets_len_do (d : Addr) (hd : (d == sysModules) = false) :
    MeetsIn prog w (Builtin.«dict.__len__» ⟨[.ref d], []⟩) (fun _ R s => ∃ (o : Obj) (es : Array DictEntry) (ep : Nat), s.heap.get? d = some o ∧ o.data = .dict es ep ∧ R (.ok (.ret (.int es.size s.toks))) { s with toks := s.toks + 1 }) :=
  .of_wp fun A R s ⟨o, es, ep, ho, hdat, h⟩ => by
    show wpAny _ _ (dictSize d >>= _) _ _ s
    unfold dictSize
    refine wpAny_bind (wpAny_bind (wpAny_dictEntries ho hdat (wpAny_pure ?_)))
    show wpAny _ _ (Builtin.Dict.pendingCount d >>= _) _ _ s
    refine wpAny_bind (wpAny_pendingCount_other hd ?_)
    refine wpAny_ret_mkInt ?_
    rw [Nat.add_zero]; exact h
theorem len_body_do {d : Addr} {o : Obj} {es : Array DictEntry} {ep : Nat} {Q : Value → Shared → Prop} (hd : (d == sysModules) = false) (ty : s.TypeIs (.ref d) "dict") (ho : s.heap.get? d = some o) (hdat : o.data = .dict es ep) (hfit : (es.size : Int) < 2 ^ 63)
    (h : Q (.int es.size (s.toks + 1)) { s with toks := s.toks + 1 + 1 }) : wpAny (model prog w) A (Builtin.«len» ⟨[.ref d], []⟩) (fun fin s' => ∃ r, fin = .done (.ret r) ∧ Q r s') E s := by
  unfold Builtin.«len»
  refine wpAny_bind (m := oneArg "len" _) (wpAny_pure ?_)
  refine wpAny_bind (m := callSpecial? (.ref d) (Str.ofString "__len__")) (wpAny_callSpecial?_slot (name := Str.ofString "__len__") ty F.slot_dict_len
    (call_meetsIn F.slot_dict_len ty F.entry_dict_len (F.args_dict_len_1 _) (meets_len_do d hd) ⟨o, es, ep, ho, hdat, ?_⟩))
  show wpAny _ _ _ _ _ { s with toks := s.toks + 1 }
  refine wpAny_bind (wpAny_holding (wpAny_pure ?_))
  refine wpAny_bind (wpAny_letGo ?_)
  show wpAny _ _ (if ((es.size : Nat) : Int) < 0 then _ else _) _ _ _
  rw [if_neg (by omega)]
  show wpAny _ _ (if ((es.size : Nat) : Int) ≥ 2 ^ 63 then _ else _) _ _ _
  rw [if_neg (by omega)]
  exact wpAny_bind (wpAny_mkInt (wpAny_pure ⟨_, rfl, h⟩))
theorem call_len_do {d : Addr} {o : Obj} {es : Array DictEntry} {ep : Nat} {Q : Value → Shared → Prop} (hd : (d == sysModules) = false) (ty : s.TypeIs (.ref d) "dict") (ho : s.heap.get? d = some o) (hdat : o.data = .dict es ep) (hfit : (es.size : Int) < 2 ^ 63)
    (h : Q (.int es.size (s.toks + 1)) { s with toks := s.toks + 1 + 1 }) : wpAny (model prog w) A (call (.builtin "len") [.ref d]) Q E s :=
  Calls.call_function_entry kind_len plain_len entry_len (args_len1 _) (len_body_do hd ty ho hdat hfit h)
end
theorem bi_len : CallR X (.builtin "len") (rVn (zOf X) true (pvBi .len)) := cr1 fun pins s σ H x us Q S p r I rs hS rp e k => by
  cases p <;> simp only [biLen, reduceCtorEq] at e
  · rename_i l
    split at e <;> cases e
    rename_i hl
    exact call_len pins s σ H _ us Q I rs ⟨x, l.length, rfl, by rw [eq_str rp]; exact ⟨by rw [strV_len, ← line_eq]; exact hl, (strV_len l).symm⟩, fin_int k⟩
  · rename_i l
    cases e
    obtain ⟨a, vs, rfl, h1, h2⟩ := eq_tup rp
    exact call_len pins s σ H _ us Q I rs ⟨_, l.length, rfl, .inr ⟨vs, seqT (hide_le H S) h1, h2.length.symm⟩, fin_int k⟩
  · rename_i l
    cases e
    obtain ⟨a, vs, rfl, h1, h2⟩ := eq_lst rp
    exact call_len pins s σ H _ us Q I rs ⟨_, l.length, rfl, .inl ⟨vs, h1, h2.length.symm⟩, fin_int k⟩
  · rename_i l
    split at e <;> cases e
    rename_i hl
    obtain ⟨a, es, rfl, h1, h2, h3⟩ := rp
    obtain ⟨u, rfl, rx⟩ := vals1 rs
    obtain rfl : u = .ref a := rx
    have h1' : H a = some (DO a es) := h1
    have hD := dat_of I (hide_le H S) h1' h2 h3
    obtain ⟨hs, o, ho, hc, hdat⟩ := do_at I h1'
    have hlen : es.1.size = l.length := by have := h3.len; simpa using this
    unfold lineMax at hl
    refine call_len_do hs hD.ty ho hdat (by omega) ?_
    rw [hlen]
    exact ⟨.int ((l.length : Nat) : Int), H, I.tok _, ⟨_, rfl⟩, fin_int k⟩
theorem bi_int : CallR X (.type "int") (rVn (zOf X) true (pvBi .int)) := cr1 fun pins s σ H x us Q S p r I rs hS rp e k => by
  cases p <;> simp only [biInt, reduceCtorEq] at e
  · cases e
    rw [eq_bl rp] at rs
    exact call_int1 pins s σ H _ us Q I rs (.inr ⟨_, rfl, fin_int k⟩)
  · cases e
    rw [eq_int rp] at rs
    exact call_int1 pins s σ H _ us Q I rs (.inl ⟨_, rfl, fin_int k⟩)
  · rename_i l
    split at e <;> cases e
    rename_i hm
    simp only [Bool.and_eq_true, decide_eq_true_eq, List.all_eq_true] at hm
    obtain ⟨⟨h1, h2⟩, h3⟩ := hm
    rw [eq_str rp] at rs
    refine call_int_str pins s σ H _ us Q I rs ⟨strV l, digVal l, rfl, ?_, by rw [strV_len]; omega, fin_int k⟩
    rw [digVal_eq, ← strV_list]
    refine PySem.intText_digits (fun c hc => ?_) (fun z => ?_) (by rw [strV_len]; omega)
    · rw [strV_list] at hc
      obtain ⟨d, h4, rfl⟩ := List.mem_map.mp hc
      exact isDig_iff.mp (h1 d h4)
    · rw [strV_list] at z
      have := List.map_eq_nil_iff.mp z
      subst this
      simp at h2
theorem bi_str : CallR X (.type "str") (rVn (zOf X) true (pvBi .str)) := cr1 fun pins s σ H x us Q S p r I rs hS rp e k => by
  cases p <;> simp only [biStr, reduceCtorEq] at e
  · rename_i i
    split at e <;> cases e
    rename_i hm
    rw [eq_int rp] at rs
    have := small64_iff.mp hm
    refine call_str_int pins s σ H _ us Q I rs ⟨i, rfl, Nat.lt_trans (bits_lt (n := 64) (by omega) (by decide)) (by decide), ?_⟩
    have e1 : (toString i : String) = String.ofList (numS i) := by simp [numS]
    show Q (.str (Str.ofString (toString i))) H
    rw [← strV_of]
    exact fin_str k
  · rename_i l
    cases e
    rw [eq_str rp] at rs
    exact SkE.call_str_str pins s σ H _ us Q I rs ⟨_, rfl, fin_str k⟩
theorem bi_tuple : CallR X (.type "tuple") (rVn (zOf X) true (pvBi .tuple)) := cr1 fun pins s σ H x us Q S p r I rs hS rp e k => by
  cases p <;> simp only [biTuple, reduceCtorEq] at e
  · rename_i l
    cases e
    obtain ⟨a, vs, rfl, h1, h2⟩ := eq_tup rp
    exact call_tuple_of pins s σ H _ us Q I rs ⟨a, vs, rfl, .inr ⟨seqT (hide_le H S) h1, k _ H ⟨.refl H, by unfold Rep; exact ⟨a, vs, rfl, h1, h2⟩⟩ fun _ => trivial⟩⟩
  · rename_i l
    cases e
    obtain ⟨a, vs, rfl, h1, h2⟩ := eq_lst rp
    exact call_tuple_of pins s σ H _ us Q I rs ⟨a, vs, rfl, .inl ⟨h1, fun p hp => k _ _ (.tup hS hp h2) fun _ => trivial⟩⟩
theorem bi_list : CallR X (.type "list") (rVn (zOf X) true (pvBi .list)) := cr1 fun pins s σ H x us Q S p r I rs hS rp e k => by
  cases p <;> simp only [biList, reduceCtorEq] at e
  · rename_i l
    cases e
    obtain ⟨a, vs, rfl, h1, h2⟩ := eq_tup rp
    exact call_list_of pins s σ H _ us Q I rs ⟨a, vs, rfl, .inr (seqT (hide_le H S) h1), fun p hp => k _ _ (.lst hS hp h2) fun _ => .lst hp h2⟩
  · rename_i l
    cases e
    obtain ⟨a, vs, rfl, h1, h2⟩ := eq_lst rp
    exact call_list_of pins s σ H _ us Q I rs ⟨a, vs, rfl, .inl h1, fun p hp => k _ _ (.lst hS hp h2) fun _ => .lst hp h2⟩
theorem bi_abs : CallR X (.builtin "abs") (rVn (zOf X) true (pvBi .abs)) := cr1 fun pins s σ H x us Q S p r I rs hS rp e k => by
  cases p <;> simp only [biAbs, reduceCtorEq] at e
  cases e
  rw [eq_int rp] at rs
  exact call_abs pins s σ H _ us Q I rs ⟨_, rfl, fin_int k⟩
theorem bi_min2 (hc : X.calm = true) : CallR X (.builtin "min") (rVn (zOf X) true (pvBi .min2)) := cr2 fun pins s σ H x y us Q S p q r I rs hS rp rq e k => by
  cases p <;> cases q <;> simp only [biMin2, reduceCtorEq] at e
  cases e
  rw [eq_int rp, eq_int rq] at rs
  exact call_min2 hc pins s σ H _ us Q I rs ⟨_, _, rfl, fin_int k⟩
theorem bi_gcd : CallR X (.builtin "math.gcd") (rVn (zOf X) true (pvBi .gcd)) := cr2 fun pins s σ H x y us Q S p q r I rs hS rp rq e k => by
  cases p <;> cases q <;> simp only [biGcd, reduceCtorEq] at e
  cases e
  rw [eq_int rp, eq_int rq] at rs
  exact cr_gcd pins s σ H _ us Q I rs ⟨_, _, rfl, fin_int k⟩
theorem bi_max2 (hc : X.calm = true) : CallR X (.builtin "max") (rVn (zOf X) true (pvBi .max2)) := cr2 fun pins s σ H x y us Q S p q r I rs hS rp rq e k => by
  cases p <;> cases q <;> simp only [biMax2, reduceCtorEq] at e
  cases e
  rw [eq_int rp, eq_int rq] at rs
  exact call_max2 hc pins s σ H _ us Q I rs ⟨_, _, rfl, fin_int k⟩
theorem bi_sorted : CallR X (.builtin "sorted") (rVn (zOf X) true (pvBi .sorted)) := cr1 fun pins s σ H x us Q S p r I rs hS rp e k => by
  cases p <;> simp only [biSorted, reduceCtorEq] at e
  obtain ⟨ns, e1, e2⟩ := bind_eq' e
  cases e2
  obtain ⟨a, vs, rfl, h1, h2⟩ := eq_lst rp
  have e3 := allInt_eq (ofO_ok e1)
  subst e3
  rw [h2.ints] at h1
  refine cr_sortedI pins s σ H _ us Q I rs ⟨a, ns, rfl, h1, fun ns' p hp hs hn => ?_⟩
  rw [sortI_unique hp hs]
  exact k _ _ (.lst hS hn RepL.ints') fun _ => .lst hn RepL.ints'
theorem bi_all (hc : X.calm = true) : CallR X (.builtin "all") (rVn (zOf X) true (pvBi .all)) := cr1 fun pins s σ H x us Q S p r I rs hS rp e k => by
  cases p <;> simp only [biAll, reduceCtorEq] at e
  obtain ⟨ns, e1, e2⟩ := bind_eq' e
  cases e2
  obtain ⟨a, vs, rfl, h1, h2⟩ := eq_lst rp
  have e3 := allBl_eq (ofO_ok e1)
  subst e3
  rw [h2.bls] at h1
  exact cr_all hc pins s σ H _ us Q I rs ⟨a, ns, rfl, h1, fin_bl k⟩
theorem bi_any (hc : X.calm = true) : CallR X (.builtin "any") (rVn (zOf X) true (pvBi .any)) := cr1 fun pins s σ H x us Q S p r I rs hS rp e k => by
  cases p <;> simp only [biAny, reduceCtorEq] at e
  obtain ⟨ns, e1, e2⟩ := bind_eq' e
  cases e2
  obtain ⟨a, vs, rfl, h1, h2⟩ := eq_lst rp
  have e3 := allBl_eq (ofO_ok e1)
  subst e3
  rw [h2.bls] at h1
  exact cr_any hc pins s σ H _ us Q I rs ⟨a, ns, rfl, h1, fin_bl k⟩

/-! ### isinstance -/
def tyName : PV → String
  | .non => "NoneType"
  | .bl _ => "bool"
  | .int _ => "int"
  | .str _ => "str"
  | .tup _ => "tuple"
  | .lst _ => "list"
  | .dct _ => "dict"
def clsName : Nat → String
  | 0 => "int"
  | 1 => "bool"
  | 2 => "str"
  | 3 => "tuple"
  | 4 => "list"
  | _ => "dict"
theorem kit_all : ∀ a ∈ ["NoneType", "bool", "int", "str", "tuple", "list", "dict"], ∀ t ∈ [0, 1, 2, 3, 4, 5], kitB a (clsName t) = some (match t with
  | 0 => a == "int" || a == "bool" | 1 => a == "bool" | 2 => a == "str" | 3 => a == "tuple" | 4 => a == "list" | _ => a == "dict") := by decide +kernel
theorem tyTest_eq (t : Nat) (ht : t < 6) (p : PV) : kitB (tyName p) (clsName t) = some (tyTest t p) := by
  have h := kit_all (tyName p) (by cases p <;> simp [tyName]) t (by match t, ht with | 0, _ | 1, _ | 2, _ | 3, _ | 4, _ | 5, _ => simp)
  rw [h]
  match t, ht with
  | 0, _ | 1, _ | 2, _ | 3, _ | 4, _ | 5, _ => cases p <;> rfl
theorem tyx_of {H : Hp} {S : List Addr} {p : PV} {v : V} (hd : ∀ l, p ≠ .dct l) (h : RepB (zOf X) H S p v) : TyX X.K H v (.type (tyName p)) := by
  cases p with
  | non => rw [eq_non h]; exact .base .non
  | bl b => rw [eq_bl h]; exact .base (.bl b)
  | int b => rw [eq_int h]; exact .base (.int b)
  | str b => rw [eq_str h]; exact .base (.str _)
  | tup l =>
    obtain ⟨a, vs, rfl, h1, h2⟩ := eq_tup h
    rcases seqT (hide_le H S) h1 with (h1 | ⟨o, h1⟩) | ⟨o, _, _, h3, h4, _⟩
    · exact .base (.tup h1)
    · exact .fTuple h1
    · exact .kTuple h3 h4
  | lst l =>
    obtain ⟨a, vs, rfl, h1, h2⟩ := eq_lst h
    rcases h1 with (h1 | ⟨o, h1⟩) | ⟨o, _, _, h3, h4, _⟩
    · exact .base (.lst h1)
    · exact .base (.frz h1)
    · exact .kList h3 h4
  | dct l => exact absurd rfl (hd l)
theorem kit_rep {pins : List (Addr × Obj)} {σ : L2.St} {H : Hp} {s : Shared} {S : List Addr} {p : PV} {x : V} {u : Value} (I : Inv X pins σ H s) (h : RepB (zOf X) H S p x) (rx : RelV x u) : ∃ Pr : Heap → Prop, PySem.W.KitX X.K u (.type (tyName p)) Pr ∧ Pr s.heap ∧ u ≠ .builtin "__main__.__loader__#opaque" := by
  by_cases hd : ∃ l, p = .dct l
  · obtain ⟨l, rfl⟩ := hd
    obtain ⟨a, es, rfl, h1, _⟩ := h
    cases rx
    obtain ⟨_, o, e1, e2, _⟩ := do_at I h1
    exact ⟨_, PySem.W.kitx_dict, ⟨o, e1, e2.1⟩, fun z => nomatch z⟩
  · exact kit_of I rx (tyx_of (fun l z => hd ⟨l, z⟩) h)
/-- isinstance by values -/
def rIsG (X : Cx) : List V → Hp → VK → Prop := fun xs H Q => ∃ (S : List Addr) (p : PV) (x c : V) (cv : Value) (b : Bool), xs = [x, c] ∧ RepB (zOf X) H S p x ∧ (∀ u, RelV c u → u = cv) ∧ PySem.W.kitOne X.K (.type (tyName p)) cv = some b ∧ Q (.bl b) H
theorem call_isG : CallR X (.builtin "isinstance") (rIsG X) := by
  intro pins s σ H xs us Q I r h
  obtain ⟨S, p, x, c, cv, b, rfl, hr, hc, e, q⟩ := h
  cases r with
  | cons r1 t =>
    cases t with
    | cons r2 t =>
      cases t
      have e2 := hc _ r2
      subst e2
      obtain ⟨Pr, Z, hp, hx⟩ := kit_rep I hr r1
      exact PySem.W.kia_one Z I.kIn hp e hx fun tk => ⟨.bl b, H, I.tok tk, rfl, q⟩
end
end G
namespace G
open PySem PySem.W PySem.Spec PyProof.Rows L2
/-! ### the least and the greatest of a list -/
theorem toDs_ints : ∀ ns : List Int, toDs (ns.map PV.int) = ns.map PyData.int
  | [] => rfl
  | a :: r => by simp only [List.map_cons, toDs, toD, toDs_ints r]
theorem alike_ints (ns : List Int) : AlikeAll (ns.map PyData.int) := by
  refine ⟨fun x hx y hy => ?_, fun x hx => ?_⟩
  · obtain ⟨i, _, rfl⟩ := List.mem_map.mp hx
    obtain ⟨j, _, rfl⟩ := List.mem_map.mp hy
    rfl
  · obtain ⟨i, _, rfl⟩ := List.mem_map.mp hx
    exact fun z => nomatch z
theorem depth_ints : ∀ ns : List Int, PyData.depthAll (ns.map PyData.int) = 0
  | [] => rfl
  | a :: r => by
    simp only [List.map_cons, PyData.depthAll, depth_ints r]
    rfl
theorem nod_ints : ∀ ns : List Int, nodL (ns.map PV.int) = true
  | [] => by simp only [List.map_nil, nodL]
  | a :: r => by simp only [List.map_cons, nodL, nod, nod_ints r, Bool.and_self]
section
variable {X : Cx}
/-- a list of whole numbers as it is read -/
theorem ints_read {pins : List (Addr × Obj)} {σ : L2.St} {H : Hp} {s : Shared} {S : List Addr} {ns : List Int} {x : V} {u : Value} (I : Inv X pins σ H s) (h : RepB (zOf X) H S (.lst (ns.map .int)) x) (rx : RelV x u) :
    ∃ l vs as, u = .ref l ∧ s.heap.IsList l vs ∧ ReadsAll s.heap vs.toList (ns.map PyData.int) as := by
  obtain ⟨as, r⟩ := Dp.reads I _ x u (h.d (by simpa only [nod] using nod_ints ns)) rx
  simp only [toD, toDs_ints] at r
  cases r with
  | list h1 h2 h3 h4 => exact ⟨_, _, _, rfl, ⟨_, h1, h2, _, h3⟩, h4⟩
theorem bi_max1 (hc : X.calm = true) (hu : X.A.units + 65 < cLine) : CallR X (.builtin "max") (rVn (zOf X) true (pvBi .max1)) := cr1 fun pins s σ H x us Q S p r I rs hS rp e k => by
  cases p <;> simp only [biMax1, reduceCtorEq] at e
  rename_i l
  split at e <;> cases e
  rename_i n ns hn
  have hl := allInt_eq hn
  subst hl
  obtain ⟨u, rfl, rx⟩ := vals1 rs
  obtain ⟨l, vs, as, rfl, h1, h2⟩ := ints_read I rp rx
  refine max_list_data (x := .int n) (xs := ns.map .int) (I.ok.hd hc) h1 h2 (alike_ints (n :: ns)) (by rw [show PyData.int n :: ns.map PyData.int = (n :: ns).map PyData.int from rfl, depth_ints]; omega) fun i v h' tk bs hv hr hk => ?_
  rw [maxD_ints] at hr
  cases hr
  exact ⟨.int (ns.foldl max n), H, I.kept hk, ⟨_, rfl⟩, fin_int k⟩
theorem bi_min1 (hc : X.calm = true) (hu : X.A.units + 65 < cLine) : CallR X (.builtin "min") (rVn (zOf X) true (pvBi .min1)) := cr1 fun pins s σ H x us Q S p r I rs hS rp e k => by
  cases p <;> simp only [biMin1, reduceCtorEq] at e
  rename_i l
  split at e <;> cases e
  rename_i n ns hn
  have hl := allInt_eq hn
  subst hl
  obtain ⟨u, rfl, rx⟩ := vals1 rs
  obtain ⟨l, vs, as, rfl, h1, h2⟩ := ints_read I rp rx
  refine min_list_data (x := .int n) (xs := ns.map .int) (I.ok.hd hc) h1 h2 (alike_ints (n :: ns)) (by rw [show PyData.int n :: ns.map PyData.int = (n :: ns).map PyData.int from rfl, depth_ints]; omega) fun i v h' tk bs hv hr hk => ?_
  rw [minD_ints] at hr
  cases hr
  exact ⟨.int (ns.foldl min n), H, I.kept hk, ⟨_, rfl⟩, fin_int k⟩
theorem preSum_is (ns : List Int) : ∀ j, PySem.preSum (fun i => ns.getD i 0) j = (ns.take j).sum
  | 0 => by simp [PySem.preSum]
  | j + 1 => by
    rw [PySem.preSum, preSum_is ns j, List.take_add_one, List.sum_append, List.getD_eq_getElem?_getD]
    cases ns[j]? <;> simp
theorem tups_read {pins : List (Addr × Obj)} {σ : L2.St} {H : Hp} {s : Shared} {S : List Addr} {ns : List Int} {x : V} {u : Value} (I : Inv X pins σ H s) (h : RepB (zOf X) H S (.tup (ns.map .int)) x) (rx : RelV x u) :
    ∃ l vs as, u = .ref l ∧ s.heap.IsTuple l vs ∧ ReadsAll s.heap vs.toList (ns.map PyData.int) as := by
  obtain ⟨as, r⟩ := Dp.reads I _ x u (h.d (by simpa only [nod] using nod_ints ns)) rx
  simp only [toD, toDs_ints] at r
  cases r with
  | tuple h1 h2 h3 h4 => exact ⟨_, _, _, rfl, ⟨_, h1, h2, _, h3⟩, h4⟩
theorem bi_sum (hc : X.calm = true) : CallR X (.builtin "sum") (rVn (zOf X) true (pvBi .sum)) := cr1 fun pins s σ H x us Q S p r I rs hS rp e k => by
  cases p <;> simp only [biSum, reduceCtorEq] at e
  · obtain ⟨ns, e1, e2⟩ := bind_eq' e
    cases e2
    have e3 := allInt_eq (ofO_ok e1)
    subst e3
    obtain ⟨u, rfl, rx⟩ := vals1 rs
    obtain ⟨l, vs, as, rfl, h1, h2⟩ := tups_read I rp rx
    have hn : vs.size = ns.length := by rw [readsAll_len h2, List.length_map]
    have hlt : l < s.heap.objs.size := by obtain ⟨_, z, _⟩ := h1; exact Heap.lt_size z
    refine call_sum_walkG (wpAny_pyIter_tuple h1 ⟨_, _, _, _, _, _, (fun i => ns.getD i 0), rfl, Walks.tuple (A := X.A.in1) (by show X.A.handled = none; exact I.ok.hd hc) s.heap.objs.size l (Nat.ne_of_lt hlt) vs, ⟨⟨_, Heap.get?_push_size _ rfl, rfl, rfl⟩, h1.push _⟩, fun b hb => ?_, fun i v hv => ?_, fun h' tk t' hk => ?_⟩)
    · show b < (s.heap.push _).objs.size
      rw [Heap.size_push]
      simp only [List.mem_cons, List.not_mem_nil, or_false] at hb
      rcases hb with rfl | rfl
      · exact Nat.lt_succ_self _
      · exact Nat.lt_succ_of_lt hlt
    · obtain ⟨bs, r1, r2, _, _⟩ := readsAll_at h2 i v (by rw [Array.getElem?_toList]; exact hv)
      rw [List.length_map] at r2
      have e4 : (ns.map PyData.int).getD i .none = .int (ns.getD i 0) := by
        rw [List.getD_eq_getElem?_getD, List.getD_eq_getElem?_getD, List.getElem?_map, List.getElem?_eq_getElem r2]
        rfl
      rw [e4] at r1
      cases r1
      exact ⟨_, rfl⟩
    · rw [preSum_is, hn, List.take_length]
      exact ⟨.int ns.sum, H, I.kept fun b o z => hk b o (fun hb => Nat.lt_irrefl _ ((List.mem_singleton.mp hb) ▸ Heap.lt_size z)) (Heap.get?_push_of_some _ z), ⟨_, rfl⟩, fin_int k⟩
  · obtain ⟨ns, e1, e2⟩ := bind_eq' e
    cases e2
    obtain ⟨a, vs, rfl, h1, h2⟩ := eq_lst rp
    have e3 := allInt_eq (ofO_ok e1)
    subst e3
    rw [h2.ints] at h1
    exact cr_sum hc pins s σ H _ us Q I rs ⟨a, ns, rfl, h1, fin_int k⟩
end
end G
namespace G
open PySem PySem.Spec PyProof.Rows L2
/-! ### a def's promise where no repr is under way -/
abbrev Quiet (A : Around) : Prop := A.guards = some []
structure FnG (P : Program) (w : World) (K : PySem.W.Frag) (mg : Str → Option Value) (base : Heap) (CX : CXT) (k : Nat) (f : Addr) (fd : FuncData) (ps : List Str) (sp : Sp) : Prop where
  len : ∀ vs H Q E, sp vs H Q E → vs.length = ps.length
  run : ∀ (A : Around) (outer : List PySem.Env) (s : Shared) (H : Hp) (args : Args) (us : List Value) (vs : List V) (Q : VK) (E : XK), Quiet A → Room k A → Env0 P w K mg base A outer s H → BindsTo s fd args (ps.zip us) → Vals vs us → sp vs H Q E →
    codeAny (model P w) A (.call (.ref f) args) (CR CX outer P w H s Q E) s
theorem FnG.imp {P : Program} {w : World} {K : PySem.W.Frag} {mg : Str → Option Value} {base : Heap} {CX : CXT} {k : Nat} {f : Addr} {fd : FuncData} {ps : List Str} {sp sp' : Sp} (F : FnG P w K mg base CX k f fd ps sp)
    (h : ∀ vs H Q E, sp' vs H Q E → sp vs H Q E) : FnG P w K mg base CX k f fd ps sp' where
  len vs H Q E q := F.len vs H Q E (h vs H Q E q)
  run A outer s H args us vs Q E g r e b v q := F.run A outer s H args us vs Q E g r e b v (h vs H Q E q)
section
variable {X : Cx} {CX : CXT} {k : Nat} {f : Addr} {fd : FuncData} {ps : List Str} {sp : Sp} {E : L2.St → XK} {x : Str} {p pos : Pos} {e : Expr} {es : List Expr} {t : TA}
theorem runG {pins : List (Addr × Obj)} {σ : L2.St} {H : Hp} {s : Shared} {Q : VK} {us : List Value} {vs : List V} (F : FnG X.prog X.w X.K X.mg X.base CX k f fd ps sp) (hg : Quiet X.A) (hr : Room k X.A) (hb : Binds X.K fd ps []) (hx : PassesAt CX X σ (E σ))
    (I : L2.Inv X pins σ H s) (r : Vals vs us) (h : sp vs H Q (E σ)) : wpAny (model X.prog X.w) X.A (call (.ref f) us) (EP X pins σ Q) X.xe s := by
  have hl : (us ++ []).length = ps.length := by
    rw [List.append_nil, ← r.length]
    exact F.len vs H Q (E σ) h
  have hb' : BindsTo s fd ⟨us, []⟩ (ps.zip us) := by
    have := hb s us I.kIn hl
    rwa [List.append_nil] at this
  have hrun := F.run X.A X.stack s H ⟨us, []⟩ us vs Q (E σ) hg hr I.env0 hb' r h
  refine wpAny_call (codeAny_mono hrun ?_)
  intro res s' hq
  match res, hq with
  | .error e, hq => exact hx pins H s e s' I hq
  | .ok (.ret u), hq => exact I.after hq
  | .ok .next, hq => exact hq.elim
  | .ok .brk, hq => exact hq.elim
  | .ok .cont, hq => exact hq.elim
theorem peG (F : FnG X.prog X.w X.K X.mg X.base CX k f fd ps sp) (hq : Quiet X.A) (hr : Room k X.A) (hg : Gl X x) (hm : X.mg x = some (.ref f)) (hk : PySem.W.keepIn X.K (.ref f) = true) (hb : Binds X.K fd ps []) (hx : ∀ σ, PassesAt CX X σ (E σ))
    (ha : PA X (e :: es) t) (hdb : (x == ("__debug__" : Str)) = false) (he : starEach (e :: es) X.env = (false, eval e X.env) :: starEach es X.env) (hpl : (backTo pos (starEach es X.env)).any (·.1) = false) :
    PE X (.Call (.Name x p) (e :: es) [] pos) (tCallS sp E t) where
  run pins s σ H Q I h := by
    have body := ha.run pos pins s σ H _ I h
    refine wpAny_Call_Name_kw (ld_glob I hg hm ?_ hdb)
    refine PySem.W.callWith_K (h₀ := X.base) I.ok.mod.kin hk (thn body ?_) he hpl
    rintro us s1 ⟨vs, H1, I1, r, q⟩
    exact ⟨I1.kIn, runG F hq hr hb (hx σ) I1 r q⟩
end
/-- the promise of a written def, from its body -/
theorem fnG_of {CX : CXT} {P : Program} {w : World} {K : PySem.W.Frag} {mg : Str → Option Value} {base : Heap} {k : Nat} {f : Addr} {name qual : Str} {params : Arguments} {body : List Stmt} {scope : Scope} {dV kV doc pm cdv ct oc : Value} {an od : Option Addr}
    {osl : Array (Option Value)} {N ps : List Str} {sp : Sp} (lk : K.lookup f = some ⟨oc, od, .func (PySem.W.fnOf name qual params body scope dV kV doc pm an cdv ct), osl⟩) (hcd : PySem.W.codeIn K cdv qual = true) (S : FnScope N ps scope)
    (len : ∀ vs H Q E, sp vs H Q E → vs.length = ps.length)
    (hbody : ∀ (A : Around) (outer : List PySem.Env) (s : Shared) (H : Hp) (vs : List V) (Q : VK) (E : XK), Quiet A → Room k (A.deeper (envOfC qual scope s.heap.objs.size f cdv)) → sp vs H Q E →
      ∃ t, PSs (cxOf CX P w K mg base N qual scope f cdv A outer s H E) body t ∧ t { nx := fun _ H' => Q .non H', rt := Q } (L2.start N vs) H) :
    FnG P w K mg base CX (k + 1) f (PySem.W.fnOf name qual params body scope dV kV doc pm an cdv ct) ps sp where
  len := len
  run A outer s H args us vs Q E hq hr e0 hb r hsp := by
    have hh : ∀ b o, base.get? b = some o → s.heap.get? b = some o := fun b o e => (e0.bs b o e).1
    have KX : K.In s.heap := e0.mod.kin.keeps hh
    have hkind : ∀ y ∈ ps.zip us, scope.names.lookup y.1 = some .local ∨ (scope.names.lookup y.1 = some .cell ∧ ((cellsFrom (s.heap.objs.size + 1) scope.names []).lookup y.1).isSome = true) := by
      rintro ⟨n, v⟩ hy
      exact (S.par n (List.of_mem_zip hy).1).imp id fun q => ⟨q, PySem.W.cellsFrom_some _ _ _ (.inl q)⟩
    refine codeAny_call_function hr.depth (KX _ _ lk) rfl S.co S.gen rfl (PySem.W.codeRec_of KX hcd) (hb _ _ _ _ (wpAny_newFunctionEnv_cells S.kind hkind ?_))
    rintro env rfl s1 x
    refine ⟨(e0.mod.nolimit.keeps hh).keeps x.toInCall.keep, codeAny_func ?_⟩
    obtain ⟨t, ht, hq'⟩ := hbody A outer s H vs Q E hq (hr.deeper _) hsp
    refine wpAny_mono (ht.run [] s1 (L2.start N vs) H _ (inv_start S hr.hd e0 (len _ _ _ _ hsp) r x) hq') ?_ fun e s' hs => hs
    intro fl s' hs
    match fl, hs with
    | .ret u, hs =>
      obtain ⟨v, σ', H', J, rv, q⟩ := hs
      exact ⟨v, H', J.os, J.bare, J.base, J.hok, rv, q⟩
    | .next, hs =>
      obtain ⟨σ', H', J, q⟩ := hs
      exact ⟨V.non, H', J.os, J.bare, J.base, J.hok, rfl, q⟩
    | .brk, hs =>
      obtain ⟨_, _, _, q⟩ := hs
      exact q.elim
    | .cont, hs =>
      obtain ⟨_, _, _, q⟩ := hs
      exact q.elim
section
variable {P : Program} {w : World} {K : PySem.W.Frag} {mg mb : Str → Option Value} {CX : CXT} {k : Nat} {fa a : Addr} {fd : FuncData} {x : Str} {sp : Sp} {s₁ : Shared} {vs : List Value} {ns : List Int}
/-- the call from outside, over an abstract heap that knows no more than the script -/
theorem coreG (KX : K.In s₁.heap) (hns : s₁.heap.Ns mainGlobals mg) (hb : s₁.heap.Ns builtinsNs mb) (hbb : ∀ x : Str, x ≠ "__name__" → mb x = bootBuiltins x) (hlim : s₁.heap.NoLimit) (hg : s₁.gens = #[])
    (ha : s₁.heap.get? a = some { cls := .type "list", data := .seq vs.toArray }) (hr : Room k callerA)
    (F : ∀ base : Heap, K.In base → base.Ns mainGlobals mg → FnG P w K mg base CX k fa fd [x] sp) (hbind : ∀ (s : Shared) (u : Value), BindsTo s fd ⟨[u], []⟩ [(x, u)])
    (hCX : ∀ H e s', CX [] H s₁ (fun _ _ _ => False) e s' → False)
    (H : Hp) (hO : Only H) (hsp : sp [.ref a] H (fun v _ => v = .bl true) fun _ _ _ => False) (hok : HOk P w H s₁.heap) (hA : ∀ b, b ≠ a → H b = none) (hK : H a ≠ none → K.lookup a = none) :
    codeAny (model P w) callerA (.call (.ref fa) ⟨[.ref a], []⟩) (fun r s' => r = .ok (.ret (.bool true)) ∧ OldK s₁.heap s'.heap ∧ s'.os = s₁.os ∧ AllBare s'.gens) s₁ := by
  have keep : ∀ {b : Addr} {o : Obj}, s₁.heap.get? b = some o → (b = a → H a = none) → (hidT s₁.heap H).get? b = some o := fun {b o} e h => hidT_get e (by
    by_cases q : b = a
    · rw [q]; exact h q
    · exact hA b q)
  have space : ∀ {L : Addr} {m : Str → Option Value}, s₁.heap.Ns L m → (hidT s₁.heap H).Ns L m := by
    rintro L m ⟨o, es, ep, e, d, r⟩
    refine ⟨o, es, ep, keep e fun q => ?_, d, r⟩
    subst q
    rw [ha] at e
    rw [← Option.some.inj e] at d
    exact nomatch (show Data.seq vs.toArray _ = Data.dict es ep from d)
  have kIn : K.In (hidT s₁.heap H) := fun b o e => keep (KX b o e) fun q => by
    by_cases z : H a = none
    · exact z
    · have := hK z
      rw [q, this] at e
      cases e
  obtain ⟨mc, c1, c2⟩ := hlim
  have hM : Mod K mg (hidT s₁.heap H) := ⟨kIn, space hns, ⟨mb, space hb, hbb⟩, mc, space c1, c2⟩
  have e0 : Env0 P w K mg (hidT s₁.heap H) callerA [] s₁ H := ⟨rfl, hM, fun b o e => of_hidT e, Nat.le_of_eq (hidT_size _ _), trivial, fun b z => (List.not_mem_nil (show b ∈ ([] : List Addr) from z)).elim, hok, .of_eq hg⟩
  have hrun := (F _ kIn (space hns)).run callerA [] s₁ H ⟨[.ref a], []⟩ [.ref a] [.ref a] (fun v _ => v = .bl true) (fun _ _ _ => False) rfl hr e0 (hbind s₁ (.ref a)) (.cons rfl .nil) hsp
  refine codeAny_mono hrun ?_
  intro r s' h
  match r, h with
  | .error e, h => exact (hCX H e s' h).elim
  | .ok .next, h => exact h.elim
  | .ok .brk, h => exact h.elim
  | .ok .cont, h => exact h.elim
  | .ok (.ret u), h =>
    obtain ⟨v, H', os, bare, un, hok', r', q⟩ := h
    have q' : v = .bl true := q
    subst q'
    have r'' : u = Value.bool true := r'
    subst r''
    refine ⟨rfl, OldK.of_keep ?_, os, bare⟩
    intro b o e
    rcases hO b with z | ⟨ob, xs, z⟩
    · exact un.keep b o e z (fun q => List.not_mem_nil (show b ∈ ([] : List Addr) from q)) (by simp)
    · have e1 := (hok b _ z).1
      have e2 := (hok' b _ (un.frzs b ob _ z)).1
      rw [e] at e1
      rw [Option.some.inj e1]
      exact e2
end
theorem walkG {l : PySem.W.OpenLaw} {n k : Nat} {q : Program} {loose : List Str} {XP : (Str → Option Value) → Heap → Prop} {YP : World → Heap → Prop} {d : DefRec} {K : Params → PySem.W.Frag} {CX : World → CXT} {sp : World → Sp} {x : Str}
    (hn : l.most = some n) (hn2 : n ≤ sizeLine) (hdf : d.params.defaults = []) (hr : Room k callerA)
    (hY : ∀ (w : World) (h : Heap), YP w h → (K w.params).In h)
    (F : ∀ (w : World) (mg : Str → Option Value) (fa : Addr) (h : Heap), (K w.params).In h → h.Ns mainGlobals mg → mg d.name = some (.ref fa) →
      ∃ fd : FuncData, (∀ (s : Shared) (u : Value), BindsTo s fd ⟨[u], []⟩ [(x, u)]) ∧
        ∀ base : Heap, (K w.params).In base → base.Ns mainGlobals mg → FnG l.prog w (K w.params) mg base (CX w) k fa fd [x] (sp w))
    (hsp : ∀ (w : World) (H : Hp) (a : Addr) (ns : List Int), ns.length ≤ n → (∀ z ∈ ns, Builtin.Int.intBits z ≤ 1048576) → Only H → SqL (K w.params) H a (ns.map V.int) → sp w [.ref a] H (fun v _ => v = .bl true) fun _ _ _ => False)
    (hCX : ∀ (w : World) (H : Hp) (s : Shared) (e : Value) (s' : Shared), CX w [] H s (fun _ _ _ => False) e s' → False) :
    PySem.W.WalkO q loose XP YP l.row.toRowW d [] (fun f vs => PySem.call f vs) := by
  refine Att.attach_callB hn hdf ?_
  intro w s₀ s₁ mg mb fa o pm cd doc a vs ns G Y ho hd hcd hmg hobj hints hlen hbits hg
  have KX := hY w _ Y
  obtain ⟨fd, hb, hF⟩ := F w mg fa _ KX G.T.g hmg
  have rv := vals_ints hints
  have lenV := hints.length
  have go := coreG (vs := vs) KX G.T.g G.T.b G.T.builtins G.T.nolimit hg hobj hr hF hb fun H e s' => hCX w H s₁ e s'
  by_cases hk : (K w.params).lookup a = none
  · let H : Hp := fun b => if b = a then some (.frz { cls := .type "list", data := .seq vs.toArray } (.lst (ns.map V.int))) else none
    have Ha : H a = some (.frz { cls := .type "list", data := .seq vs.toArray } (.lst (ns.map V.int))) := if_pos rfl
    have Hn : ∀ b, b ≠ a → H b = none := fun b z => if_neg z
    have hO : Only H := fun b => by
      by_cases z : b = a
      · exact .inr ⟨_, _, by rw [z]; exact Ha⟩
      · exact .inl (Hn b z)
    refine go H hO (hsp w H a ns hlen hbits hO (.inl (.inr ⟨_, Ha⟩))) ?_ Hn fun _ => hk
    intro b u z
    by_cases hb : b = a
    · subst hb
      rw [Ha] at z
      cases z
      exact ⟨hobj, by rw [List.length_map]; exact Nat.le_trans hlen hn2, vs, _, rv, hobj⟩
    · rw [Hn b hb] at z
      cases z
  · obtain ⟨ob, hob⟩ := Option.ne_none_iff_exists'.mp hk
    have e := KX a ob hob
    rw [hobj] at e
    cases e
    have hO : Only (fun _ => none) := fun _ => .inl rfl
    refine go (fun _ => none) hO (hsp w _ a ns hlen hbits hO ?_) (fun b u z => nomatch z) (fun _ _ => rfl) fun z => absurd rfl z
    exact .inr ⟨_, vs.toArray, _, hob, rfl, rfl, rfl, by rw [List.size_toArray, lenV]; exact Nat.le_trans hlen hn2, by simpa using rv⟩
end G
namespace G
open PySem PySem.W PySem.Spec PyProof.Rows L2 Builtin
/-! ### repr -/
theorem plain_iff {c : Char} : plainC c = true ↔ 32 ≤ c.toNat ∧ c.toNat < 127 ∧ c.toNat ≠ 39 ∧ c.toNat ≠ 92 := by
  simp [plainC, and_assoc]
theorem print_all : ∀ c : Fin 127, 32 ≤ c.val → c.val ≠ 39 → c.val ≠ 92 → Builtin.Str.reprChar 39 c.val = [c.val] := by decide +kernel
theorem repr_char {c : Char} (h : plainC c = true) : Builtin.Str.reprChar 39 c.toNat = [c.toNat] := by
  obtain ⟨h1, h2, h3, h4⟩ := plain_iff.mp h
  exact print_all ⟨c.toNat, h2⟩ h1 h3 h4
theorem repr_foldl : ∀ (l : List Char) (acc : Array Nat), l.all plainC = true → ((l.map Char.toNat).foldl (fun out c => out ++ (Builtin.Str.reprChar 39 c).toArray) acc).toList = acc.toList ++ l.map Char.toNat
  | [], acc, _ => by simp
  | c :: r, acc, h => by
    simp only [List.all_cons, Bool.and_eq_true] at h
    rw [List.map_cons, List.foldl_cons, repr_foldl r _ h.2, repr_char h.1]
    simp
theorem repr_quote {l : List Char} (h : l.all plainC = true) : reprQuote (strV l) = 39 := by
  unfold reprQuote strV
  have : (l.map Char.toNat).toArray.contains 39 = false := by
    rw [List.contains_toArray]
    rw [List.contains_eq_any_beq, List.any_eq_false]
    intro x hx
    obtain ⟨c, hc, rfl⟩ := List.mem_map.mp hx
    have := (plain_iff.mp (List.all_eq_true.mp h c hc)).2.2.1
    simpa using fun z => this z.symm
  rw [this]
  rfl
theorem repr_strV {l : List Char} (h : l.all plainC = true) : reprText (strV l) = strV (['\''] ++ l ++ ['\'']) := by
  unfold reprText
  rw [repr_quote h]
  have e := repr_foldl l #[39] h
  unfold strV
  congr 1
  apply Array.toList_inj.mp
  rw [← Array.foldl_toList, Array.toList_push]
  simp only [e]
  simp
theorem strV_join : ∀ l : List (List Char), strV (joinC l) = Str.join ", " (l.map strV)
  | [] => rfl
  | [x] => rfl
  | x :: y :: r => by
    rw [joinC, ← strV_app, ← strV_app, strV_join (y :: r)]
    rfl
mutual
theorem repP_shown : ∀ p : PV, repOk p = true → (toD p).shown = strV (repP p)
  | .non, _ => by simp only [toD, PyData.shown_none, repP]; rfl
  | .bl b, _ => by cases b <;> simp only [toD, PyData.shown_bool, repP] <;> rfl
  | .int i, _ => by
    simp only [toD, PyData.shown_int, repP]
    have e1 : (toString i : String) = String.ofList (numS i) := by simp [numS]
    show Str.ofString (toString i) = _
    rw [← strV_of]
    rfl
  | .str l, h => by
    simp only [toD, PyData.shown_str, repP]
    exact repr_strV (by simpa [repOk] using h)
  | .tup l, h => by
    simp only [toD, PyData.shown_tuple, repP]
    rw [repPs_shown l (by simpa [repOk] using h), ← strV_app, ← strV_app, strV_join]
    have : (toDs l).length = l.length := toDs_len l
    rw [this]
    by_cases q : l.length = 1
    · simp only [q, if_true, beq_self_eq_true]; rfl
    · have q2 : (l.length == 1) = false := by simpa using q
      simp only [q, if_false, q2]; rfl
  | .lst l, h => by
    simp only [toD, PyData.shown_list, repP]
    rw [repPs_shown l (by simpa [repOk] using h), ← strV_app, ← strV_app, strV_join]
    rfl
  | .dct _, h => by simp [repOk] at h
theorem repPs_shown : ∀ l : List PV, repOks l = true → PyData.shownAll (toDs l) = (repPs l).map strV
  | [], _ => by simp only [toDs, PyData.shownAll_nil, repPs, List.map_nil]
  | a :: r, h => by
    simp only [repOks, Bool.and_eq_true] at h
    simp only [toDs, PyData.shownAll_cons, repPs, List.map_cons]
    rw [repP_shown a h.1, repPs_shown r h.2]
theorem toDs_len : ∀ l : List PV, (toDs l).length = l.length
  | [] => rfl
  | a :: r => by simp only [toDs, List.length_cons, toDs_len r]
end
mutual
theorem repOk_show : ∀ p : PV, repOk p = true → (toD p).showable = true
  | .non, _ => by simp only [toD, PyData.showable]
  | .bl b, _ => by simp only [toD, PyData.showable]
  | .int i, h => by
    simp only [toD, PyData.showable, decide_eq_true_eq]
    have := small64_iff.mp (by simpa [repOk] using h)
    exact Nat.lt_trans (bits_lt (n := 64) (by omega) (by decide)) (by decide)
  | .str l, h => by simp only [toD, PyData.showable]
  | .tup l, h => by
    simp only [toD, PyData.showable]
    exact repOks_show l (by simpa [repOk] using h)
  | .lst l, h => by
    simp only [toD, PyData.showable]
    exact repOks_show l (by simpa [repOk] using h)
  | .dct _, h => by simp [repOk] at h
theorem repOks_show : ∀ l : List PV, repOks l = true → PyData.showableAll (toDs l) = true
  | [], _ => by simp only [toDs, PyData.showableAll]
  | a :: r, h => by
    simp only [repOks, Bool.and_eq_true] at h
    simp only [toDs, PyData.showableAll, repOk_show a h.1, repOks_show r h.2, Bool.and_self]
end
section
variable {X : Cx}
theorem bi_repr (hq : Quiet X.A) (hu : X.A.units + 65 < cLine) : CallR X (.builtin "repr") (rVn (zOf X) true (pvBi .repr)) := cr1 fun pins s σ H x us Q S p r I rs hS rp e k => by
  unfold biRepr at e
  split at e
  · rename_i hh
    cases e
    simp only [Bool.and_eq_true, decide_eq_true_eq] at hh
    obtain ⟨⟨⟨h1, h2⟩, h3⟩, h4⟩ := hh
    obtain ⟨u, rfl, rx⟩ := vals1 rs
    have hn := flat_nod 60 p h2
    obtain ⟨as, r1⟩ := Dp.reads I _ x u (rp.d hn) rx
    have hsh := repP_shown p h3
    have hlen : (toD p).shown.length ≤ sizeLine := by rw [hsh, strV_len, ← line_eq]; exact h4
    have hd := flat_depth 60 p h2
    have hnd : (toD p).hasDict = false := PyData.hasDict_of_canLay _ (nod_lay p hn)
    cases p <;> simp only [isRep, Bool.false_eq_true] at h1
    · rename_i l
      rw [eq_str rp] at rx
      obtain ⟨t, rfl⟩ := rx
      have e2 : reprText (strV l) = strV (repP (.str l)) := by rw [← hsh]; simp only [toD, PyData.shown_str]
      refine PySem.P.repr_of_str (hsz := by rw [e2, strV_len, ← line_eq]; exact h4) ⟨.str _, H, I.tok _, ⟨_, by rw [e2]⟩, fin_str k⟩
    · obtain ⟨a, vs, rfl, g1, g2⟩ := eq_tup rp
      cases rx
      refine repr_of_reads' r1 (repOk_show _ h3) (fun z => by rw [hnd] at z; cases z) hq (by omega) (fun _ _ h => h) (fun h' u tk hk => ?_) hlen
      exact ⟨.str _, H, I.kept hk, ⟨_, by rw [hsh]⟩, fin_str k⟩
    · obtain ⟨a, vs, rfl, g1, g2⟩ := eq_lst rp
      cases rx
      refine repr_of_reads' r1 (repOk_show _ h3) (fun z => by rw [hnd] at z; cases z) hq (by omega) (fun _ _ h => h) (fun h' u tk hk => ?_) hlen
      exact ⟨.str _, H, I.kept hk, ⟨_, by rw [hsh]⟩, fin_str k⟩
  · cases e
end
end G
namespace G
open PySem PySem.Spec PyProof.Rows L2

/-! ### the program's names -/
structure PInf where
  prog : Prog
  cns : List (Str × PV)
  blt : List Str
  cls : List Str
  fln : List (List Str)
  dnm : List Str
  gcds : List Str
structure SC where
  N : List Str
  sc : Scope
  hot : Bool := false
def spF (P : PInf) (w : Nat) (Z : Zd) (CV : Nat → Option Value) (FN : Nat → List Str) (n f : Nat) (np : Nat) : Sp := fun vs H Q E => ∃ ps B, vs.length = np ∧ live H B ∧ RepL Z (hide H B) ps vs ∧
  match P.prog.call w n f ps with
  | .ok p => ∀ v H', Same H H' → Rep Z (hide H' B) p v → Q v H'
  | .ex x => ∀ C d H', Same H H' → ExcRep Z CV FN (hide H' B) C d x → (∀ dx, d = some dx → H dx = none) → E C d H'
  | .bad => False
/-- the classes: what the written part says of them -/
structure ClsOk (P : PInf) (K : PySem.W.Frag) (mg : Str → Option Value) (CV : Nat → Option Value) : Prop where
  nm : ∀ (d : Nat) (x : Str), P.cls[d]? = some x → ∃ cv, CV d = some cv ∧ ((∃ C, cv = .ref C) ∨ ∃ T, cv = .type T) ∧ (x == ("__debug__" : Str)) = false ∧ (mg x = some cv ∨ (mg x = none ∧ bootBuiltins x = some cv ∧ x ≠ "__name__"))
  exm : ∀ (k d : Nat) (l : List Nat) (C : Addr) (cv : Value), P.prog.anc[k]? = some l → CV k = some (.ref C) → CV d = some cv → PySem.W.exmOne K (.ref C) cv = some (l.contains d)
  kit : ∀ (k d : Nat) (l : List Nat) (C : Addr) (cv : Value), P.prog.anc[k]? = some l → CV k = some (.ref C) → CV d = some cv → PySem.W.kitOne K (.ref C) cv = some (l.contains d)
  exc : ∀ (k : Nat) (C : Addr), CV k = some (.ref C) → ExcC K C
  own : ∀ (k : Nat) (x : Str), P.prog.nf[k]? = some 0 → P.cls[k]? = some x → ∃ C, CV k = some (.ref C) ∧ mg x = some (.ref C) ∧ PySem.W.excIn K C [.type "ValueError", .type "Exception", .type "BaseException", .type "object"] "ValueError.__new__" = true ∧ PySem.W.keepIn K (.ref C) = true ∧
    PySem.W.subIn K (.ref C) (.type "BaseException") = some true ∧ PySem.W.typeIn K (.ref C) = some (.type "type")
  anc : ∀ (k : Nat) (C : Addr), CV k = some (.ref C) → ∃ l, P.prog.anc[k]? = some l
/-- the suite of an except clause that has a name -/
def HotOk (X : Cx) (g : Gs) : Prop := (∀ a e H, ¬ g.EX.p a e H) ∨ ∃ (X0 : Cx) (a : Addr) (oe : Obj) (C : Value) (d : Option Addr) (pn : List (Addr × Obj)), X = X0.suite a ((a, oe) :: pn) ∧ Zc C d oe ∧ (∃ vs, oe.data = .fields vs) ∧
  ∀ a' e H, g.EX.p a' e H → a' = a ∧ ExcRep g.Z g.CV g.FN H C d e
structure GX (P : PInf) (w n : Nat) (X : Cx) (s : SC) (g : Gs) : Prop where
  hN : X.N = s.N
  nd : s.N.Nodup
  hsc : X.env.scope = s.sc
  calm : s.hot = false → X.calm = true
  room : s.hot = false → Room n X.A
  un : X.A.units + 200 < cLine
  gd : Quiet X.A
  hz : g.Z = zOf X
  hc : s.hot = false → g.c = P.prog.call w n
  hcH : s.hot = true → g.c = hotC
  ha : g.anc = P.prog.anc
  tk : Takes X g.W
  fns : s.hot = false → ∀ (f : Nat) (d : Def) (x : Str), P.prog.defs[f]? = some d → P.dnm[f]? = some x → ∃ fa fd ps, X.mg x = some (.ref fa) ∧ PySem.W.keepIn X.K (.ref fa) = true ∧ Binds X.K fd ps [] ∧
    FnG X.prog X.w X.K X.mg X.base (L2.CX X.prog X.w) n fa fd ps (spF P w g.Z g.CV g.FN n f d.np)
  cns : ∀ (x : Str) (p : PV), P.cns.lookup x = some p → ∃ u v, X.mg x = some u ∧ RelV v u ∧ ∀ H, Rep g.Z H p v
  blt : ∀ x ∈ P.blt, X.mg x = none
  dl : P.dnm.length = P.prog.defs.length
  gcd : ∀ x ∈ P.gcds, X.mg x = some (.builtin "math.gcd")
  cls : ClsOk P X.K X.mg g.CV
  exx : s.hot = false → g.EX = ExP.no
  exh : s.hot = true → HotOk X g
/-- the place of a name of the def's own -/
def loc (s : SC) (x : Str) : Option Nat := match s.sc.names.lookup x with
  | some .local | some .cell | some .free => if (x == ("__debug__" : Str)) || (x == ("__classdict__" : Str)) then none else s.N.findIdx? (· == x)
  | _ => none
def glb (s : SC) (x : Str) : Bool := decide (s.sc.names.lookup x = some .globalImplicit) && !(x == ("__debug__" : Str))
theorem glb_use {s : SC} {x : Str} (h : glb s x = true) : s.sc.names.lookup x = some .globalImplicit ∧ (x == ("__debug__" : Str)) = false := by
  simpa [glb] using h
theorem loc_use {s : SC} {x : Str} {i : Nat} (h : loc s x = some i) : s.N[i]? = some x ∧ (s.sc.names.lookup x = some .local ∨ s.sc.names.lookup x = some .cell ∨ s.sc.names.lookup x = some .free) ∧ (x == ("__debug__" : Str)) = false ∧ (x == ("__classdict__" : Str)) = false := by
  have key : ∀ {j : Nat}, (if ((x == ("__debug__" : Str)) || (x == ("__classdict__" : Str))) = true then none else s.N.findIdx? (· == x)) = some j → s.N[j]? = some x ∧ (x == ("__debug__" : Str)) = false ∧ (x == ("__classdict__" : Str)) = false := by
    intro j h
    split at h
    · cases h
    · rename_i hn
      simp only [Bool.or_eq_true, not_or, Bool.not_eq_true] at hn
      refine ⟨?_, hn.1, hn.2⟩
      obtain ⟨h1, h2, _⟩ := List.findIdx?_eq_some_iff_getElem.mp h
      rw [List.getElem?_eq_getElem h1]
      simpa using h2
  unfold loc at h
  split at h
  · rename_i e; have := key h; exact ⟨this.1, .inl e, this.2⟩
  · rename_i e; have := key h; exact ⟨this.1, .inr (.inl e), this.2⟩
  · rename_i e; have := key h; exact ⟨this.1, .inr (.inr e), this.2⟩
  · cases h

/-! ### the letters of the rules -/
section
variable {P : PInf} {w n : Nat} {X : Cx} {s : SC} {g : Gs} {a b d : Expr} {a' b' d' e' : E} {pos : Pos}
theorem GX.vis (G : GX P w n X s g) {x : Str} (h : s.sc.names.lookup x = some .local ∨ s.sc.names.lookup x = some .cell ∨ s.sc.names.lookup x = some .free) : Vis X.env.scope x := by
  unfold Vis
  rw [G.hsc]
  exact h
theorem GX.gl (G : GX P w n X s g) {x : Str} (h : s.sc.names.lookup x = some .globalImplicit) : Gl X x := by
  show X.env.scope.names.lookup x = _
  rw [G.hsc]
  exact h
theorem sd_var (G : GX P w n X s g) {x : Str} {i : Nat} (h : loc s x = some i) : PE X (.Name x pos) (tE g (.var i)) := by
  obtain ⟨h1, h2, h3, h4⟩ := loc_use h
  exact de_var (by rw [G.hN]; exact h1) (G.vis h2) h3 h4
theorem sd_cns (G : GX P w n X s g) {x : Str} {p : PV} (hg : glb s x = true) (h : P.cns.lookup x = some p) : PE X (.Name x pos) (tE g (.con p)) := by
  obtain ⟨h1, h2⟩ := glb_use hg
  obtain ⟨u, v, h3, h4, h5⟩ := G.cns x p h
  exact de_con (pe_glob (G.gl h1) h3 h4 h2) h5
theorem sd_bin (G : GX P w n X s g) {op : Operator} {o : BO} (ho : OpR X (binaryOp op) (rV2 g.Z true (pvBin o))) (hn : ∀ x y z, pvBin o x y ≠ .ex z) (ha : PE X a (tE g a')) (hb : PE X b (tE g b')) : PE X (.BinOp a op b pos) (tE g (.bin o a' b')) :=
  pe_of (pe_op ho ha hb) fun σ H Q h => two (e := .bin o a' b') (fun env => rfl) hn (fun _ => rfl) (fun _ => rfl) h
theorem pvBin_nex (o : BO) (x y : PV) (z : Exn) : pvBin o x y ≠ .ex z := by
  intro h
  unfold pvBin at h
  split at h <;> try (cases h; done)
  all_goals first | (unfold tupOk at h; split at h <;> cases h; done) | (split at h <;> cases h; done) | (split at h <;> first | (cases h; done) | (split at h <;> cases h; done))
theorem isTF_nex (x y : PV) (z : Exn) : isTF x y ≠ .ex z := by
  intro h
  unfold isTF at h
  split at h <;> try (cases h; done)
  split at h <;> cases h
theorem pvIn_nex (x y : PV) (z : Exn) : pvIn x y ≠ .ex z := by
  intro h
  unfold pvIn at h
  split at h <;> try (cases h; done)
  all_goals split at h <;> cases h
theorem bindx {α β : Type} {r : R α} {f : α → R β} (h1 : ∀ z, r ≠ .ex z) (h2 : ∀ a z, f a ≠ .ex z) (z : Exn) : (r >>= f) ≠ .ex z := by
  intro h
  cases r with
  | ok a => exact h2 a z h
  | ex x => exact h1 x rfl
  | bad => cases h
theorem pvCmp_nex (o : CO) (x y : PV) (z : Exn) : pvCmp o x y ≠ .ex z := by
  intro h
  unfold pvCmp at h
  split at h <;> try (cases h; done)
  · split at h <;> cases h
  · split at h <;> cases h
  · exact bindx (isTF_nex _ _) (fun _ _ h => by cases h) z h
  · exact bindx (isTF_nex _ _) (fun _ _ h => by cases h) z h
  · exact bindx (pvIn_nex _ _) (fun _ _ h => by cases h) z h
  · exact bindx (pvIn_nex _ _) (fun _ _ h => by cases h) z h
theorem pvSub_nex (x y : PV) (z : Exn) : pvSub x y ≠ .ex z := by
  intro h
  have ho : ∀ {α : Type} (o : Option α) (z : Exn), ofO o ≠ .ex z := fun o z h => by cases o <;> cases h
  unfold pvSub at h
  split at h <;> try (cases h; done)
  · exact ho _ _ h
  · exact ho _ _ h
  · split at h
    · exact bindx (ho _) (fun _ _ h => by cases h) z h
    · cases h
  · split at h
    · exact ho _ _ h
    · cases h
/-- the operators -/
def trBO : Operator → Option BO
  | .Add => some .add
  | .Sub => some .sub
  | .Mult => some .mul
  | .FloorDiv => some .fdiv
  | .Mod => some .mod
  | .Pow => some .pow
  | _ => none
def trCO : CmpOp → CO
  | .Eq => .eq
  | .NotEq => .ne
  | .Lt => .lt
  | .LtE => .le
  | .Gt => .gt
  | .GtE => .ge
  | .Is => .is
  | .IsNot => .isn
  | .In => .isin
  | .NotIn => .nin
theorem GX.bo (G : GX P w n X s g) {op : Operator} {o : BO} (h : trBO op = some o) : OpR X (binaryOp op) (rV2 g.Z true (pvBin o)) := by
  rw [G.hz]
  cases op <;> cases h
  · exact or_add
  · exact or_sub
  · exact or_mul
  · exact or_mod
  · exact or_pow
  · exact or_fdiv
theorem GX.co (G : GX P w n X s g) (op : CmpOp) : OpR X (compareOp op) (rV2 g.Z true (pvCmp (trCO op))) := by
  rw [G.hz]
  have h1 := G.un
  cases op
  · exact oc_eq (by omega)
  · exact oc_ne (by omega)
  · exact oc_lt
  · exact oc_le
  · exact oc_gt
  · exact oc_ge
  · exact oc_is
  · exact oc_isn
  · exact oc_in (by omega)
  · exact oc_nin (by omega)
theorem cmp_in (op : CmpOp) {σ : L2.St} {H : Hp} {Q : VK} (h : tE g (.cmp (trCO op) a' b') σ H Q) : tOp (rV2 g.Z true (pvCmp (trCO op))) (tE g a') (tE g b') σ H Q :=
  two (e := .cmp (trCO op) a' b') (fun env => rfl) (pvCmp_nex _) (fun _ => rfl) (fun z => by simp [freshE] at z) h
theorem sd_cmp (G : GX P w n X s g) (op : CmpOp) (hm : behindInMarks op b = false) (ha : PE X a (tE g a')) (hb : PE X b (tE g b')) : PE X (.Compare a [op] [b] pos) (tE g (.cmp (trCO op) a' b')) :=
  pe_of (pe_cmpR (G.co op) ha hb hm) fun σ H Q h => cmp_in op h
/-- the truth of a value that is a bool -/
theorem tB_in {σ : L2.St} {H : Hp} {Q : Bool → Hp → Prop} (h : tB g e' σ H Q) : tE g e' σ H fun x H' => ∃ k, x = .bl k ∧ Q k H' := by
  obtain ⟨env, O, he, h⟩ := h
  refine ⟨env, O, he, h.bind fun p ep h => ?_⟩
  intro v H' r
  cases p <;> simp only [truth] at h <;> try exact h.elim
  rename_i c
  exact ⟨c, eq_bl r.brw, h c H' ⟨r.sm, rfl⟩⟩
theorem pt_via {t : TE} (h : PT X a (tTest t)) (k : ∀ σ H Q, tE g e' σ H Q → t σ H Q) : PT X a (tB g e') :=
  pt_of h fun σ H Q q => k σ H _ (tB_in q)
theorem st_cmp (G : GX P w n X s g) (op : CmpOp) (hm : behindInMarks op b = false) (ha : PE X a (tE g a')) (hb : PE X b (tE g b')) : PT X (.Compare a [op] [b] pos) (tB g (.cmp (trCO op) a' b')) :=
  pt_via (pt_cmpR (G.co op) ha hb hm) fun σ H Q h => cmp_in op h
theorem chn_in (o1 o2 : CmpOp) {σ : L2.St} {H : Hp} {Q : VK} (h : tE g (.chn (trCO o1) (trCO o2) a' b' d') σ H Q) : tChain (rV2 g.Z true (pvCmp (trCO o1))) (rV2 g.Z true (pvCmp (trCO o2))) (tE g a') (tE g b') (tE g d') σ H Q := by
  obtain ⟨env, O, he, h⟩ := h
  simp only [denE] at h
  refine ⟨env, O, he, Out.bind (ok' := ResP g H O env a') h fun p ep h => ?_⟩
  intro x H1 r1
  refine ⟨env, O, he.mono r1.sm, Out.bind (ok' := ResP g H1 O env b') (h.later (ok' := ResP g H O env (.chn (trCO o1) (trCO o2) a' b' d')) r1.sm fun _ _ _ _ z => z) fun q eq h => ?_⟩
  intro y H2 r2
  have he2 := he.mono (r1.sm.trans r2.sm)
  have h' := h.later (ok' := ResP g H O env (.chn (trCO o1) (trCO o2) a' b' d')) r2.sm fun _ _ _ _ z => z
  cases ez : pvCmp (trCO o1) p q with
  | bad => rw [ez] at h'; exact h'.elim
  | ex x => exact absurd ez (pvCmp_nex _ _ _ _)
  | ok z =>
    rw [ez] at h'
    refine ⟨g.B ++ O, p, q, z, he2.live, r1.brw.mono r2.sm, r2.brw, ez, fun v H3 gt _ => ?_⟩
    have h2 := Out.later (H1 := H3) (ok' := ResP g H O env (.chn (trCO o1) (trCO o2) a' b' d')) gt.sm h' fun _ _ _ _ z => z
    cases z <;> simp only [bind_ok, pvBl, bind_bad] at h2 <;> try exact h2.elim
    rename_i t _
    have ev : v = .bl t := by have := gt.rep; simpa [Rep] using this
    refine ⟨t, ev, ?_⟩
    cases t with
    | false =>
      rw [if_neg (by decide)]
      rw [if_neg (by decide)] at h2
      refine h2 _ H3 ⟨((r1.sm.trans r2.sm).trans gt.sm), Rep.b (by simp [Rep]), fun _ => by simp [Rep], fun z => by simp [freshE] at z⟩
    | true =>
      rw [if_pos rfl]
      rw [if_pos rfl] at h2
      refine ⟨env, O, he2.mono gt.sm, Out.bind (ok' := ResP g H3 O env d') h2 fun u eu h3 => ?_⟩
      intro vu H4 r4
      cases eo : pvCmp (trCO o2) q u with
      | bad => rw [eo] at h3; exact h3.elim
      | ex x => exact absurd eo (pvCmp_nex _ _ _ _)
      | ok r =>
        rw [eo] at h3
        have sm4 := ((r1.sm.trans r2.sm).trans gt.sm).trans r4.sm
        refine ⟨g.B ++ O, q, u, r, (he.mono sm4).live, (r2.brw.mono gt.sm).mono r4.sm, r4.brw, eo, fun v H' gt' _ => h3 v H' ⟨sm4.trans gt'.sm, gt'.rep.b, fun _ => gt'.rep, fun z => by simp [freshE] at z⟩⟩
theorem sd_chn (G : GX P w n X s g) (o1 o2 : CmpOp) (hm : lastMarks [o1, o2] [b, d] = false) (ha : PE X a (tE g a')) (hb : PE X b (tE g b')) (hd : PE X d (tE g d')) : PE X (.Compare a [o1, o2] [b, d] pos) (tE g (.chn (trCO o1) (trCO o2) a' b' d')) :=
  pe_of (pe_chain (G.co o1) (G.co o2) ha hb hd hm) fun σ H Q h => chn_in o1 o2 h
theorem st_chn (G : GX P w n X s g) (o1 o2 : CmpOp) (hm : lastMarks [o1, o2] [b, d] = false) (ha : PE X a (tE g a')) (hb : PE X b (tE g b')) (hd : PE X d (tE g d')) : PT X (.Compare a [o1, o2] [b, d] pos) (tB g (.chn (trCO o1) (trCO o2) a' b' d')) :=
  pt_via (pt_chain (G.co o1) (G.co o2) ha hb hd hm) fun σ H Q h => chn_in o1 o2 h
end
end G
namespace G
open PySem PySem.Spec PyProof.Rows L2
section
variable {P : PInf} {w n : Nat} {X : Cx} {s : SC} {g : Gs} {a b d : Expr} {a' b' d' e' : E} {pos : Pos} {es rest : List Expr} {es' : List E}

theorem Out.bad {α β : Type} {g : Gs} {σ : L2.St} {H : Hp} {O : List Addr} {ok : α → β → Hp → Prop} {Q : β → Hp → Prop} (h : Out g σ H O (R.bad : R α) ok Q) : False := h
theorem ResP.sc {H H' H1 : Hp} {O : List Addr} {env : Env} {e : E} {p : PV} {v : V} (sm : Same H H') (hs : scal p = true) (hr : ∀ G, Rep g.Z G p v) : ResP g H O env e p v H' :=
  ⟨sm, (hr _).b, fun _ => hr _, fun _ => by cases p <;> first | trivial | (simp [scal] at hs)⟩
theorem sd_neg (G : GX P w n X s g) (ha : PE X a (tE g a')) : PE X (.UnaryOp .USub a pos) (tE g (.neg a')) := by
  refine pe_of (pe_un un_neg ha) fun σ H Q h => ?_
  obtain ⟨env, O, he, h⟩ := h
  refine ⟨env, O, he, Out.bind (ok' := ResP g H O env a') h fun p ep h => ?_⟩
  intro x H1 r1
  cases p <;> simp only [pvNeg] at h <;> try exact h.elim
  rename_i i
  exact ⟨i, eq_int r1.brw, h _ H1 (.sc (H1 := H) r1.sm rfl fun G => by simp [Rep])⟩
theorem sd_not (G : GX P w n X s g) (ha : PE X a (tE g a')) : PE X (.UnaryOp .Not a pos) (tE g (.not a')) := by
  refine pe_of (pe_not ha) fun σ H Q h => ?_
  obtain ⟨env, O, he, h⟩ := h
  refine ⟨env, O, he, Out.bind (ok' := ResP g H O env a') h fun p ep h => ?_⟩
  intro x H1 r1
  cases p <;> simp only [truth, bind_ok, bind_bad] at h <;> try exact h.elim
  rename_i i
  exact ⟨i, eq_bl r1.brw, h _ H1 (.sc (H1 := H) r1.sm rfl fun G => by simp [Rep])⟩
theorem st_not (G : GX P w n X s g) (ha : PT X a (tB g a')) : PT X (.UnaryOp .Not a pos) (tB g (.not a')) := by
  refine pt_of (pt_not ha) fun σ H Q h => ?_
  obtain ⟨env, O, he, h⟩ := h
  refine ⟨env, O, he, ?_⟩
  simp only [denE] at h
  cases q : denE g.c g.anc a' env with
  | ok p =>
    rw [q] at h
    cases p <;> simp only [truth, bind_ok, bind_bad] at h <;> try exact h.elim
    rename_i i
    intro c H1 r1
    rw [r1.2]
    exact h _ H1 ⟨r1.1, rfl⟩
  | ex x => rw [q] at h; exact h
  | bad => rw [q] at h; exact h.elim
theorem guard_ok {α β : Type} {g : Gs} {σ : L2.St} {H : Hp} {O : List Addr} {b : Bool} {r : R PV} {ok : PV → β → Hp → Prop} {Q : β → Hp → Prop} (h : Out g σ H O (guardX b r) ok Q) : b = true ∧ Out g σ H O r ok Q := by
  cases b with
  | true => exact ⟨rfl, h⟩
  | false => exact h.elim
theorem sd_one {op : BoolOp} (ha : PE X a (tE g a')) : PE X (.BoolOp op [a] pos) (tE g a') := pe_one ha
theorem sd_and (G : GX P w n X s g) (ha : PE X a (tE g a')) (hb : PE X (.BoolOp .And (b :: rest) pos) (tE g b')) : PE X (.BoolOp .And (a :: b :: rest) pos) (tE g (.and a' b')) := by
  refine pe_of (pe_and ha hb) fun σ H Q h => ?_
  obtain ⟨env, O, he, h⟩ := h
  refine ⟨env, O, he, Out.bind (ok' := ResP g H O env a') h fun p ep h => ?_⟩
  intro x H1 r1
  cases p <;> simp only [pvBl, bind_ok, bind_bad] at h <;> try exact h.elim
  rename_i i
  refine ⟨i, eq_bl r1.brw, ?_⟩
  cases i with
  | true =>
    rw [if_pos rfl] at h ⊢
    obtain ⟨hl, h⟩ := guard_ok (α := PV) h
    refine ⟨env, O, he.mono r1.sm, h.later r1.sm fun p v H' ep r2 => ⟨r1.sm.trans r2.sm, r2.brw, fun _ => r2.str hl, fun z => by simp [freshE] at z⟩⟩
  | false =>
    rw [if_neg (by decide)] at h ⊢
    exact h _ H1 (.sc (H1 := H) r1.sm rfl fun G => by simp [Rep])
theorem sd_or (G : GX P w n X s g) (ha : PE X a (tE g a')) (hb : PE X (.BoolOp .Or (b :: rest) pos) (tE g b')) : PE X (.BoolOp .Or (a :: b :: rest) pos) (tE g (.or a' b')) := by
  refine pe_of (pe_or ha hb) fun σ H Q h => ?_
  obtain ⟨env, O, he, h⟩ := h
  refine ⟨env, O, he, Out.bind (ok' := ResP g H O env a') h fun p ep h => ?_⟩
  intro x H1 r1
  cases p <;> simp only [pvBl, bind_ok, bind_bad] at h <;> try exact h.elim
  rename_i i
  refine ⟨i, eq_bl r1.brw, ?_⟩
  cases i with
  | false =>
    rw [if_neg (by decide)] at h ⊢
    obtain ⟨hl, h⟩ := guard_ok (α := PV) h
    refine ⟨env, O, he.mono r1.sm, h.later r1.sm fun p v H' ep r2 => ⟨r1.sm.trans r2.sm, r2.brw, fun _ => r2.str hl, fun z => by simp [freshE] at z⟩⟩
  | true =>
    rw [if_pos rfl] at h ⊢
    exact h _ H1 (.sc (H1 := H) r1.sm rfl fun G => by simp [Rep])
theorem sw_one {op : BoolOp} (ha : PT X a (tB g a')) : PW X (.BoolOp op [a] pos) (tB g a') := by
  cases op with
  | And => exact pw_and1 ha
  | Or => exact pw_or1 ha
theorem pw_of {e : Expr} {t t' : TT} (h : PW X e t) (k : ∀ σ H Q, t' σ H Q → t σ H Q) : PW X e t' := ⟨fun wh pins s σ H Q I q => h.run wh pins s σ H Q I (k σ H Q q)⟩
theorem sw_and (G : GX P w n X s g) (ha : PT X a (tB g a')) (hb : PW X (.BoolOp .And (b :: rest) pos) (tB g b')) : PW X (.BoolOp .And (a :: b :: rest) pos) (tB g (.and a' b')) := by
  refine pw_of (pw_and ha hb) fun σ H Q h => ?_
  obtain ⟨env, O, he, h⟩ := h
  refine ⟨env, O, he, ?_⟩
  simp only [denE] at h
  cases q : denE g.c g.anc a' env with
  | ok p =>
    rw [q] at h
    cases p <;> simp only [pvBl, bind_ok, bind_bad] at h <;> try exact h.elim
    rename_i i
    intro c H1 r1
    rw [r1.2]
    cases i with
    | true =>
      rw [if_pos rfl] at h ⊢
      refine ⟨env, O, he.mono r1.1, ?_⟩
      unfold guardX at h
      split at h
      · exact h.later r1.1 fun p v H' ep r2 => ⟨r1.1.trans r2.1, r2.2⟩
      · exact h.elim
    | false =>
      rw [if_neg (by decide)] at h ⊢
      exact h _ H1 ⟨r1.1, rfl⟩
  | ex x => rw [q] at h; exact h
  | bad => rw [q] at h; exact h.elim
theorem sw_or (G : GX P w n X s g) (ha : PT X a (tB g a')) (hb : PW X (.BoolOp .Or (b :: rest) pos) (tB g b')) : PW X (.BoolOp .Or (a :: b :: rest) pos) (tB g (.or a' b')) := by
  refine pw_of (pw_or ha hb) fun σ H Q h => ?_
  obtain ⟨env, O, he, h⟩ := h
  refine ⟨env, O, he, ?_⟩
  simp only [denE] at h
  cases q : denE g.c g.anc a' env with
  | ok p =>
    rw [q] at h
    cases p <;> simp only [pvBl, bind_ok, bind_bad] at h <;> try exact h.elim
    rename_i i
    intro c H1 r1
    rw [r1.2]
    cases i with
    | false =>
      rw [if_neg (by decide)] at h ⊢
      refine ⟨env, O, he.mono r1.1, ?_⟩
      unfold guardX at h
      split at h
      · exact h.later r1.1 fun p v H' ep r2 => ⟨r1.1.trans r2.1, r2.2⟩
      · exact h.elim
    | true =>
      rw [if_pos rfl] at h ⊢
      exact h _ H1 ⟨r1.1, rfl⟩
  | ex x => rw [q] at h; exact h
  | bad => rw [q] at h; exact h.elim
theorem sd_ife {t : Expr} {t' : E} (G : GX P w n X s g) (ht : PT X t (tB g t')) (ha : PE X a (tE g a')) (hb : PE X b (tE g b')) : PE X (.IfExp t a b pos) (tE g (.ife t' a' b')) := by
  refine pe_of (pe_ifExp ht ha hb) fun σ H Q h => ?_
  obtain ⟨env, O, he, h⟩ := h
  refine ⟨env, O, he, ?_⟩
  simp only [denE] at h
  cases q : denE g.c g.anc t' env with
  | ok p =>
    rw [q] at h
    show Out g σ H O (truth p) _ _
    have h : Out g σ H O ((truth p).bind fun t => if t = true then guardX (lone env a') (denE g.c g.anc a' env) else guardX (lone env b') (denE g.c g.anc b' env)) (ResP g H O env (.ife t' a' b')) Q := h
    refine Out.bind h fun i ei h => ?_
    intro c H1 r1
    rw [r1.2]
    cases i with
    | true =>
      rw [if_pos rfl] at h ⊢
      obtain ⟨hl, h⟩ := guard_ok (α := PV) h
      exact ⟨env, O, he.mono r1.1, h.later r1.1 fun p v H' ep r2 => ⟨r1.1.trans r2.sm, r2.brw, fun _ => r2.str hl, fun z => by simp [freshE] at z⟩⟩
    | false =>
      rw [if_neg (by decide)] at h ⊢
      obtain ⟨hl, h⟩ := guard_ok (α := PV) h
      exact ⟨env, O, he.mono r1.1, h.later r1.1 fun p v H' ep r2 => ⟨r1.1.trans r2.sm, r2.brw, fun _ => r2.str hl, fun z => by simp [freshE] at z⟩⟩
  | ex x => rw [q] at h; exact h
  | bad => rw [q] at h; exact h.elim

/-! ### several -/
theorem sa_nil : PA X [] (tXs g []) := pa_of pa_nil fun σ H Q h => by
  obtain ⟨env, O, he, h⟩ := h
  exact h [] H ⟨.refl H, .nil⟩
theorem sa_cons (hs : ∀ env, starEach (a :: es) env = (false, eval a env) :: starEach es env) (ha : PE X a (tE g a')) (hr : PA X es (tXs g es')) : PA X (a :: es) (tXs g (a' :: es')) := by
  refine pa_of (pa_cons ha hr (hs _)) fun σ H Q h => ?_
  obtain ⟨env, O, he, h⟩ := h
  simp only [denX] at h
  unfold guardX at h
  split at h
  · rename_i hl
    refine ⟨env, O, he, Out.bind (ok' := ResP g H O env a') h fun p ep h => ?_⟩
    intro x H1 r1
    refine ⟨env, O, he.mono r1.sm, Out.bind (ok' := fun ps vs H' => Same H1 H' ∧ RepL g.Z (hide H' (g.B ++ O)) ps vs) (h.later (ok' := fun ps vs H' => Same H H' ∧ RepL g.Z (hide H' (g.B ++ O)) ps vs) r1.sm fun _ _ _ _ z => z) fun ps eps h => ?_⟩
    intro xs H2 r2
    exact h _ H2 ⟨r1.sm.trans r2.1, .cons ((r1.str hl).mono (hide_same _ r2.1)) r2.2⟩
  · exact h.elim
theorem sb_nil : PA X [] (tEs g []) := pa_of pa_nil fun σ H Q h => by
  obtain ⟨env, O, he, h⟩ := h
  exact h [] H ⟨.refl H, .nil, fun _ => .nil⟩
theorem paired_mono {Z : Zd} {H H' : Hp} {S : List Addr} (e : Same H H') : ∀ {ps : List PV} {vs : List V}, Paired (RepB Z H S) ps vs → Paired (RepB Z H' S) ps vs
  | _, _, .nil => .nil
  | _, _, .cons r t => .cons (r.mono e) (paired_mono e t)
theorem sb_cons (hs : ∀ env, starEach (a :: es) env = (false, eval a env) :: starEach es env) (ha : PE X a (tE g a')) (hr : PA X es (tEs g es')) : PA X (a :: es) (tEs g (a' :: es')) := by
  refine pa_of (pa_cons ha hr (hs _)) fun σ H Q h => ?_
  obtain ⟨env, O, he, h⟩ := h
  simp only [denEs] at h
  refine ⟨env, O, he, Out.bind (ok' := ResP g H O env a') h fun p ep h => ?_⟩
  intro x H1 r1
  refine ⟨env, O, he.mono r1.sm, Out.bind (h.later (ok' := fun ps vs H' => Same H H' ∧ Paired (RepB g.Z H' (g.B ++ O)) ps vs ∧ (loneL env (a' :: es') = true → RepL g.Z (hide H' (g.B ++ O)) ps vs)) r1.sm fun _ _ _ _ z => z) fun ps eps h => ?_⟩
  intro xs H2 r2
  refine h _ H2 ⟨r1.sm.trans r2.1, .cons (r1.brw.mono r2.1) r2.2.1, fun z => ?_⟩
  have z' : lone env a' = true ∧ loneL env es' = true := by simpa [loneL] using z
  exact .cons ((r1.str z'.1).mono (hide_same _ r2.1)) (r2.2.2 z'.2)
theorem tupOk_use {α : Type} {l : List α} {k : List α → PV} {r : PV} (h : tupOk l k = .ok r) : l.length ≤ lineMax ∧ r = k l := by
  unfold tupOk at h
  split at h
  · cases h; exact ⟨by assumption, rfl⟩
  · cases h
theorem sd_tup {k : Nat} (h : PA X es (tXs g es')) : PE X (.Tuple es k pos) (tE g (.tup es')) := by
  refine pe_of (pe_tup h) fun σ H Q h => ?_
  obtain ⟨env, O, he, h⟩ := h
  refine ⟨env, O, he, Out.bind (ok' := fun ps vs H' => Same H H' ∧ RepL g.Z (hide H' (g.B ++ O)) ps vs) h fun ps eps h => ?_⟩
  intro xs H1 r1
  unfold tupOk at h
  split at h
  · rename_i hl
    refine ⟨by rw [r1.2.length, ← line_eq]; exact hl, fun p hp => ?_⟩
    have gt := Got.tup (he.mono r1.1).live hp r1.2
    exact h _ _ ⟨r1.1.trans gt.sm, gt.rep.b, fun _ => gt.rep, fun z => by simp [freshE] at z⟩
  · exact h.elim
theorem sd_lst (h : PA X es (tXs g es')) : PE X (.List es pos) (tE g (.lst es')) := by
  refine pe_of (pe_lst h) fun σ H Q h => ?_
  obtain ⟨env, O, he, h⟩ := h
  refine ⟨env, O, he, Out.bind (ok' := fun ps vs H' => Same H H' ∧ RepL g.Z (hide H' (g.B ++ O)) ps vs) h fun ps eps h => ?_⟩
  intro xs H1 r1
  unfold tupOk at h
  split at h
  · rename_i hl
    refine ⟨by rw [r1.2.length, ← line_eq]; exact hl, fun p hp => ?_⟩
    have gt := Got.lst (he.mono r1.1).live hp r1.2
    obtain ⟨fa, fv, f1, f2, f3, f4⟩ := Frs.lst hp r1.2
    exact h _ _ ⟨r1.1.trans gt.sm, gt.rep.b, fun _ => gt.rep, fun z => ⟨fa, fv, f1, r1.1.free f2, f3, f4⟩⟩
  · exact h.elim

/-! ### subscripts -/
theorem sd_sub (G : GX P w n X s g) (hs : PlainIx b) (ha : PE X a (tE g a')) (hb : PE X b (tE g b')) : PE X (.Subscript a b pos) (tE g (.sub a' b')) := by
  have hr : IxR X (rV2 g.Z false pvSub) := by rw [G.hz]; have := G.un; exact ix_ok (by omega)
  exact pe_of (pe_ix hr ha hb hs) fun σ H Q h => two (e := .sub a' b') (fun env => rfl) pvSub_nex (fun _ => rfl) (fun z => by simp [freshE] at z) h
def tO (g : Gs) (o : Option E) : TO := fun σ H Q => ∃ env O, g.env σ H O env ∧ Out g σ H O (denO g.c g.anc o env) (fun i v H' => Same H H' ∧ v = i) Q
theorem po_of {e : Option Expr} {t t' : TO} (h : PO X e t) (k : ∀ σ H Q, t' σ H Q → t σ H Q) : PO X e t' := ⟨fun pins s σ H Q I q => h.run pins s σ H Q I (k σ H Q q)⟩
theorem so_none : PO X none (tO g none) := po_of po_none fun σ H Q h => by
  obtain ⟨env, O, he, h⟩ := h
  exact h none H ⟨.refl H, rfl⟩
theorem so_some (ha : PE X a (tE g a')) : PO X (some a) (tO g (some a')) := po_of (po_some ha) fun σ H Q h => by
  obtain ⟨env, O, he, h⟩ := h
  refine ⟨env, O, he, Out.bind (ok' := ResP g H O env a') h fun p ep h => ?_⟩
  intro x H1 r1
  cases p <;> simp only [toInt, bind_ok, bind_bad] at h <;> try exact h.elim
  rename_i i
  exact ⟨i, eq_int r1.brw, h _ H1 ⟨r1.sm, rfl⟩⟩
theorem sd_slc {lo hi : Option Expr} {lo' hi' : Option E} {p2 : Pos} (G : GX P w n X s g) (ha : PE X a (tE g a')) (hl : PO X lo (tO g lo')) (hh : PO X hi (tO g hi')) : PE X (.Subscript a (.Slice lo hi none p2) pos) (tE g (.slc a' lo' hi')) := by
  have hr : SlR X (rVS g.Z) := by rw [G.hz]; exact sl_ok
  refine pe_of (pe_slice hr ha hl hh) fun σ H Q h => ?_
  obtain ⟨env, O, he, h⟩ := h
  refine ⟨env, O, he, Out.bind (ok' := ResP g H O env a') h fun p ep h => ?_⟩
  intro x H1 r1
  refine ⟨env, O, he.mono r1.sm, Out.bind (h.later (ok' := ResP g H O env (.slc a' lo' hi')) r1.sm fun _ _ _ _ z => z) fun l el h => ?_⟩
  intro l2 H2 r2
  refine ⟨env, O, (he.mono r1.sm).mono r2.1, Out.bind (h.later (ok' := ResP g H O env (.slc a' lo' hi')) r2.1 fun _ _ _ _ z => z) fun u eu h => ?_⟩
  intro u2 H3 r3
  have sm3 := (r1.sm.trans r2.1).trans r3.1
  rw [r2.2, r3.2]
  cases eo : pvSlc p l u with
  | bad => rw [eo] at h; exact h.elim
  | ex x =>
    unfold pvSlc at eo
    split at eo <;> try (cases eo; done)
    split at eo <;> cases eo
  | ok r =>
    rw [eo] at h
    refine ⟨g.B ++ O, p, r, (he.mono sm3).live, (r1.brw.mono r2.1).mono r3.1, eo, fun v H' gt fz => h v H' ⟨sm3.trans gt.sm, gt.rep.b, fun _ => gt.rep, fun _ => ?_⟩⟩
    cases r with
    | lst l =>
      obtain ⟨fa, fv, f1, f2, f3, f4⟩ := fz
      exact ⟨fa, fv, f1, sm3.free f2, f3, f4⟩
    | dct l =>
      obtain ⟨fa, fe, f1, f2, f3, f4, f5⟩ := fz
      exact ⟨fa, fe, f1, sm3.free f2, f3, f4, f5⟩
    | _ => trivial
end
end G
namespace G
open PySem PySem.Spec PyProof.Rows L2
section
variable {P : PInf} {w n : Nat} {X : Cx} {s : SC} {g : Gs} {a b d : Expr} {a' b' d' e' : E} {pos p : Pos} {es rest : List Expr} {es' : List E}

/-! ### calls of the program's own defs -/
theorem call_len_of {P : Prog} {w n f : Nat} {d : Def} {ps : List PV} (hd : P.defs[f]? = some d) (h : P.call w n f ps ≠ .bad) : ps.length = d.np := by
  cases n with
  | zero => exact absurd rfl h
  | succ n =>
    simp only [Prog.call, hd] at h
    by_cases hl : ps.length = d.np
    · exact hl
    · rw [if_neg hl] at h; exact absurd rfl h
theorem whole_all {Z : Zd} {H : Hp} {S : List Addr} : ∀ {ps : List PV} {vs : List V}, Paired (RepB Z H S) ps vs → RepL Z (hide H []) ps vs
  | _, _, .nil => .nil
  | _, _, .cons r t => .cons (r.whole.mono fun b o e => hide_some.mpr ⟨by simp, e⟩) (whole_all t)
theorem scal_rep {Z : Zd} {H H' : Hp} {p : PV} {v : V} (hs : scal p = true) (h : Rep Z H p v) : Rep Z H' p v := by
  cases p <;> first | (simp [scal] at hs; done) | (unfold Rep at h ⊢; exact h)
theorem exc_scal {Z : Zd} {CV : Nat → Option Value} {FN : Nat → List Str} {G G' : Hp} {C : Value} {d : Option Addr} {x : Exn} (hs : x.fld.all scal = true) (hd : ∀ dx o, d = some dx → G dx = some o → G' dx = some o) (h : ExcRep Z CV FN G C d x) : ExcRep Z CV FN G' C d x := by
  obtain ⟨h1, h2, h3⟩ := h
  refine ⟨h1, h2, ?_⟩
  rcases h3 with h3 | ⟨h0, dx, fs, h4, h5, h6⟩
  · exact .inl h3
  · refine .inr ⟨h0, dx, fs, h4, hd _ _ h4 h5, fun i f p e1 e2 => ?_⟩
    obtain ⟨v, q1, q2⟩ := h6 i f p e1 e2
    exact ⟨v, q1, scal_rep (List.all_eq_true.mp hs p (List.mem_of_getElem? e2)) q2⟩
theorem call_in (G : GX P w n X s g) (hh : s.hot = false) {f : Nat} {df : Def} (hd : P.prog.defs[f]? = some df) {σ : L2.St} {H : Hp} {Q : VK} (h : tE g (.call f es') σ H Q) :
    tCallS (spF P w g.Z g.CV g.FN n f df.np) (WE g.W) (tEs g es') σ H Q := by
  obtain ⟨env, O, he, h⟩ := h
  refine ⟨env, O, he, Out.bind (ok' := fun ps vs H' => Same H H' ∧ Paired (RepB g.Z H' (g.B ++ O)) ps vs ∧ (loneL env es' = true → RepL g.Z (hide H' (g.B ++ O)) ps vs)) h fun ps eps h => ?_⟩
  intro vs H1 r1
  rw [G.hc hh] at h
  have hne : P.prog.call w n f ps ≠ .bad := fun z => by rw [z] at h; exact h.elim
  have hl : vs.length = df.np := by
    rw [← call_len_of hd hne]
    exact (Paired.length r1.2.1).symm
  have h0 : ∀ {dx : Addr}, H1 dx = none → g.H0 dx = none := fun {dx} z => (he.mono r1.1).sm.free z
  cases hb : loneL env es' with
  | true =>
    refine ⟨ps, g.B ++ O, hl, (he.mono r1.1).live, r1.2.2 hb, ?_⟩
    cases hc : P.prog.call w n f ps with
    | bad => exact hne hc
    | ok r =>
      rw [hc, hb] at h
      exact fun v H' sm rv => h v H' ⟨r1.1.trans sm, rv.b, fun _ => rv, fun z => by simp [freshE] at z⟩
    | ex x =>
      rw [hc, hb] at h
      exact fun C d H' sm rx fd => h C d H' (r1.1.trans sm) ⟨rx, fun dx e => h0 (fd dx e)⟩
  | false =>
    refine ⟨ps, [], hl, (fun a z => absurd z (by simp)), whole_all r1.2.1, ?_⟩
    cases hc : P.prog.call w n f ps with
    | bad => exact hne hc
    | ok r =>
      rw [hc, hb] at h
      simp only [outC, Bool.false_or] at h
      split at h
      · rename_i hs
        exact fun v H' sm rv => h v H' ⟨r1.1.trans sm, Rep.b (scal_rep hs rv), fun _ => scal_rep hs rv, fun z => by simp [freshE] at z⟩
      · exact h.elim
    | ex x =>
      rw [hc, hb] at h
      simp only [outC, Bool.false_or] at h
      split at h
      · rename_i hs
        exact fun C d H' sm rx fd => h C d H' (r1.1.trans sm) ⟨exc_scal hs (fun dx o e q => hide_some.mpr ⟨fun z => (he.mono r1.1).live dx z (fd dx e), (hide_some.mp q).2⟩) rx, fun dx e => h0 (fd dx e)⟩
      · exact h.elim
theorem sd_call (G : GX P w n X s g) (hh : s.hot = false) {f : Nat} {df : Def} {x : Str} (hd : P.prog.defs[f]? = some df) (hx : P.dnm[f]? = some x) (hg : glb s x = true) (ha : PA X (a :: es) (tEs g es'))
    (hs : ∀ env, starEach (a :: es) env = (false, eval a env) :: starEach es env) (hpl : ∀ env, (backTo pos (starEach es env)).any (·.1) = false) : PE X (.Call (.Name x p) (a :: es) [] pos) (tE g (.call f es')) := by
  obtain ⟨h1, h2⟩ := glb_use hg
  obtain ⟨fa, fd, ps, h3, h4, h5, h6⟩ := G.fns hh f df x hd hx
  exact pe_of (peG h6 G.gd (G.room hh) (G.gl h1) h3 h4 h5 (fun σ => passAt G.tk σ) ha h2 (hs _) (hpl _)) fun σ H Q h => call_in G hh hd h
theorem sd_call0 (G : GX P w n X s g) (hh : s.hot = false) {f : Nat} {df : Def} {x : Str} (hd : P.prog.defs[f]? = some df) (hx : P.dnm[f]? = some x) (hg : glb s x = true) : PE X (.Call (.Name x p) [] [] pos) (tE g (.call f [])) := by
  obtain ⟨h1, h2⟩ := glb_use hg
  obtain ⟨fa, fd, ps, h3, h4, h5, h6⟩ := G.fns hh f df x hd hx
  refine ⟨fun pins s σ H Q I h => ?_⟩
  obtain ⟨env, O, he, h'⟩ := call_in G hh hd h
  have h7 : spF P w g.Z g.CV g.FN n f df.np [] H Q (WE g.W σ) := h' [] H ⟨.refl H, .nil, fun _ => .nil⟩
  refine wpAny_Call_Name_kw (ld_glob I (G.gl h1) h3 ?_ h2)
  exact PySem.W.callWith_K0 I.kIn h4 (runG (us := []) h6 G.gd (G.room hh) h5 (passAt G.tk σ) I .nil h7)

/-! ### builtins -/
theorem ofO_nex {α : Type} (o : Option α) (z : Exn) : ofO o ≠ .ex z := fun h => by cases o <;> cases h
theorem un1_nex {f : PV → R PV} (h : ∀ x z, f x ≠ .ex z) (l : List PV) (z : Exn) : un1 f l ≠ .ex z := by
  match l with
  | [] => exact fun h => by cases h
  | [x] => exact h x z
  | _ :: _ :: _ => exact fun h => by cases h
theorem un2_nex {f : PV → PV → R PV} (h : ∀ x y z, f x y ≠ .ex z) (l : List PV) (z : Exn) : un2 f l ≠ .ex z := by
  match l with
  | [] => exact fun h => by cases h
  | [x] => exact fun h => by cases h
  | [x, y] => exact h x y z
  | _ :: _ :: _ :: _ => exact fun h => by cases h
theorem pvBi_nex (o : Bi) (l : List PV) (z : Exn) : pvBi o l ≠ .ex z := by
  cases o
  · refine un1_nex (fun x z h => ?_) l z
    unfold biLen at h
    split at h <;> try (cases h; done)
    all_goals (split at h <;> cases h)
  · refine un1_nex (fun x z h => ?_) l z
    unfold biInt at h
    split at h <;> try (cases h; done)
    split at h <;> cases h
  · refine un1_nex (fun x z h => ?_) l z
    unfold biStr at h
    split at h <;> try (cases h; done)
    split at h <;> cases h
  · refine un1_nex (fun x z h => ?_) l z
    unfold biTuple at h
    split at h <;> cases h
  · refine un1_nex (fun x z h => ?_) l z
    unfold biList at h
    split at h <;> cases h
  · refine un1_nex (fun x z h => ?_) l z
    unfold biAbs at h
    split at h <;> cases h
  · refine un2_nex (fun x y z h => ?_) l z
    unfold biMin2 at h
    split at h <;> cases h
  · refine un2_nex (fun x y z h => ?_) l z
    unfold biMax2 at h
    split at h <;> cases h
  · refine un1_nex (fun x z h => ?_) l z
    unfold biMin1 at h
    split at h <;> try (cases h; done)
    split at h <;> cases h
  · refine un1_nex (fun x z h => ?_) l z
    unfold biMax1 at h
    split at h <;> try (cases h; done)
    split at h <;> cases h
  · refine un1_nex (fun x z h => ?_) l z
    unfold biSum at h
    split at h <;> try (cases h; done)
    · exact bindx (ofO_nex _) (fun _ _ h => by cases h) z h
    · exact bindx (ofO_nex _) (fun _ _ h => by cases h) z h
  · refine un1_nex (fun x z h => ?_) l z
    unfold biSorted at h
    split at h <;> try (cases h; done)
    exact bindx (ofO_nex _) (fun _ _ h => by cases h) z h
  · refine un1_nex (fun x z h => ?_) l z
    unfold biAll at h
    split at h <;> try (cases h; done)
    exact bindx (ofO_nex _) (fun _ _ h => by cases h) z h
  · refine un1_nex (fun x z h => ?_) l z
    unfold biAny at h
    split at h <;> try (cases h; done)
    exact bindx (ofO_nex _) (fun _ _ h => by cases h) z h
  · refine un1_nex (fun x z h => ?_) l z
    unfold biRepr at h
    split at h <;> cases h
  · refine un2_nex (fun x y z h => ?_) l z
    unfold biGcd at h
    split at h <;> cases h
theorem bi_in (G : GX P w n X s g) {o : Bi} {σ : L2.St} {H : Hp} {Q : VK} (h : tE g (.bi o es') σ H Q) : tCB (rVn g.Z true (pvBi o)) (tEs g es') σ H Q := by
  obtain ⟨env, O, he, h⟩ := h
  refine ⟨env, O, he, Out.bind (ok' := fun ps vs H' => Same H H' ∧ Paired (RepB g.Z H' (g.B ++ O)) ps vs ∧ (loneL env es' = true → RepL g.Z (hide H' (g.B ++ O)) ps vs)) h fun ps eps h => ?_⟩
  intro vs H1 r1
  cases eo : pvBi o ps with
  | bad => rw [eo] at h; exact h.elim
  | ex x => exact absurd eo (pvBi_nex _ _ _)
  | ok r =>
    rw [eo] at h
    refine ⟨g.B ++ O, ps, r, (he.mono r1.1).live, r1.2.1, eo, fun v H' gt fz => h v H' ⟨r1.1.trans gt.sm, gt.rep.b, fun _ => gt.rep, fun _ => ?_⟩⟩
    have f := fz rfl
    cases r with
    | lst l =>
      obtain ⟨fa, fv, f1, f2, f3, f4⟩ := f
      exact ⟨fa, fv, f1, r1.1.free f2, f3, f4⟩
    | dct l =>
      obtain ⟨fa, fe, f1, f2, f3, f4, f5⟩ := f
      exact ⟨fa, fe, f1, r1.1.free f2, f3, f4, f5⟩
    | _ => trivial
/-- the builtins by their names and the number of their arguments -/
def biTab : List (Str × Nat × Bi) := [("len", 1, .len), ("int", 1, .int), ("str", 1, .str), ("tuple", 1, .tuple), ("list", 1, .list), ("abs", 1, .abs), ("min", 2, .min2), ("max", 2, .max2), ("sum", 1, .sum), ("sorted", 1, .sorted), ("all", 1, .all), ("any", 1, .any), ("min", 1, .min1), ("max", 1, .max1), ("repr", 1, .repr)]
def biOf (hot : Bool) (x : Str) (k : Nat) : Option Bi := ((if hot then biTab.take 6 else biTab).find? fun e => e.1 == x && e.2.1 == k).map (·.2.2)
def BiOk (g : Gs) (X : Cx) (x : Str) (o : Bi) : Prop :=
  (∃ id, bootBuiltins x = some (.builtin id) ∧ CallR X (.builtin id) (rVn g.Z true (pvBi o))) ∨ ∃ T, bootBuiltins x = some (.type T) ∧ CallR X (.type T) (rVn g.Z true (pvBi o))
theorem biTab_ok (G : GX P w n X s g) : ∀ e ∈ (if s.hot then biTab.take 6 else biTab), BiOk g X e.1 e.2.2 := by
  unfold BiOk
  rw [G.hz]
  have six : ∀ e ∈ biTab.take 6, (∃ id, bootBuiltins e.1 = some (.builtin id) ∧ CallR X (.builtin id) (rVn (zOf X) true (pvBi e.2.2))) ∨ ∃ T, bootBuiltins e.1 = some (.type T) ∧ CallR X (.type T) (rVn (zOf X) true (pvBi e.2.2)) := by
    intro e he
    simp only [biTab, List.take, List.mem_cons, List.not_mem_nil, or_false] at he
    rcases he with rfl | rfl | rfl | rfl | rfl | rfl
    · exact .inl ⟨_, by decide +kernel, bi_len⟩
    · exact .inr ⟨_, by decide +kernel, bi_int⟩
    · exact .inr ⟨_, by decide +kernel, bi_str⟩
    · exact .inr ⟨_, by decide +kernel, bi_tuple⟩
    · exact .inr ⟨_, by decide +kernel, bi_list⟩
    · exact .inl ⟨_, by decide +kernel, bi_abs⟩
  cases hh : s.hot with
  | true => exact six
  | false =>
    have hc := G.calm hh
    intro e he
    simp only [biTab, Bool.false_eq_true, if_false, List.mem_cons, List.not_mem_nil, or_false] at he
    rcases he with rfl | rfl | rfl | rfl | rfl | rfl | rfl | rfl | rfl | rfl | rfl | rfl | rfl | rfl | rfl
    · exact six _ (by simp [biTab])
    · exact six _ (by simp [biTab])
    · exact six _ (by simp [biTab])
    · exact six _ (by simp [biTab])
    · exact six _ (by simp [biTab])
    · exact six _ (by simp [biTab])
    · exact .inl ⟨_, by decide +kernel, bi_min2 hc⟩
    · exact .inl ⟨_, by decide +kernel, bi_max2 hc⟩
    · exact .inl ⟨_, by decide +kernel, bi_sum hc⟩
    · exact .inl ⟨_, by decide +kernel, bi_sorted⟩
    · exact .inl ⟨_, by decide +kernel, bi_all hc⟩
    · exact .inl ⟨_, by decide +kernel, bi_any hc⟩
    · exact .inl ⟨_, by decide +kernel, bi_min1 hc (by have := G.un; omega)⟩
    · exact .inl ⟨_, by decide +kernel, bi_max1 hc (by have := G.un; omega)⟩
    · exact .inl ⟨_, by decide +kernel, bi_repr G.gd (by have := G.un; omega)⟩
theorem biOf_use (G : GX P w n X s g) {x : Str} {k : Nat} {o : Bi} (h : biOf s.hot x k = some o) : BiOk g X x o := by
  unfold biOf at h
  obtain ⟨e, h1, rfl⟩ := Option.map_eq_some_iff.mp h
  have h2 := List.find?_some h1
  simp only [Bool.and_eq_true, beq_iff_eq] at h2
  rw [← h2.1]
  exact biTab_ok G e (List.mem_of_find?_eq_some h1)
theorem sd_bi (G : GX P w n X s g) {x : Str} {o : Bi} (ho : biOf s.hot x (es.length + 1) = some o) (hx : x ∈ P.blt) (hn : x ≠ "__name__") (hg : glb s x = true) (ha : PA X (a :: es) (tEs g es'))
    (hs : ∀ env, starEach (a :: es) env = (false, eval a env) :: starEach es env) (hpl : ∀ env, (backTo pos (starEach es env)).any (·.1) = false) : PE X (.Call (.Name x p) (a :: es) [] pos) (tE g (.bi o es')) := by
  obtain ⟨h1, h2⟩ := glb_use hg
  rcases biOf_use G ho with ⟨id, h3, h4⟩ | ⟨T, h3, h4⟩
  · exact pe_of (pe_callB h4 (G.gl h1) (G.blt x hx) h3 ha hn h2 (hs _) (hpl _)) fun σ H Q h => bi_in G h
  · exact pe_of (pe_callTy h4 (G.gl h1) (G.blt x hx) h3 ha hn h2 (hs _) (hpl _)) fun σ H Q h => bi_in G h

theorem sd_gcd (G : GX P w n X s g) {x : Str} (hx : x ∈ P.gcds) (hg : glb s x = true) (ha : PA X (a :: es) (tEs g es'))
    (hs : ∀ env, starEach (a :: es) env = (false, eval a env) :: starEach es env) (hpl : ∀ env, (backTo pos (starEach es env)).any (·.1) = false) : PE X (.Call (.Name x p) (a :: es) [] pos) (tE g (.bi .gcd es')) := by
  obtain ⟨h1, h2⟩ := glb_use hg
  have hc : CallR X (.builtin "math.gcd") (rVn g.Z true (pvBi .gcd)) := by rw [G.hz]; exact bi_gcd
  exact pe_of (pe_callBfun hc (G.gl h1) (G.gcd x hx) ha h2 (hs _) (hpl _)) fun σ H Q h => bi_in G h

/-! ### isinstance -/
def tyTab : List (Str × Nat) := [("int", 0), ("bool", 1), ("str", 2), ("tuple", 3), ("list", 4), ("dict", 5)]
def tyOf (x : Str) : Option Nat := (tyTab.find? fun e => e.1 == x).map (·.2)
theorem tyTab_ok : ∀ e ∈ tyTab, e.2 < 6 ∧ bootBuiltins e.1 = some (.type (clsName e.2)) ∧ e.1 ≠ "__name__" := by
  intro e he
  simp only [tyTab, List.mem_cons, List.not_mem_nil, or_false] at he
  rcases he with rfl | rfl | rfl | rfl | rfl | rfl <;> exact ⟨by decide, by decide +kernel, by decide +kernel⟩
theorem tyOf_use {x : Str} {t : Nat} (h : tyOf x = some t) : t < 6 ∧ bootBuiltins x = some (.type (clsName t)) ∧ x ≠ "__name__" := by
  unfold tyOf at h
  obtain ⟨e, h1, rfl⟩ := Option.map_eq_some_iff.mp h
  have h2 := List.find?_some h1
  rw [beq_iff_eq] at h2
  rw [← h2]
  exact tyTab_ok e (List.mem_of_find?_eq_some h1)
theorem sd_isi (G : GX P w n X s g) {x : Str} {t : Nat} {p2 : Pos} (ht : tyOf x = some t) (hx : x ∈ P.blt) (hg : glb s x = true) (hi : ("isinstance" : Str) ∈ P.blt) (hgi : glb s "isinstance" = true) (ha : PE X a (tE g a'))
    (hs : ∀ env, starEach (a :: [.Name x p2]) env = (false, eval a env) :: starEach [.Name x p2] env) : PE X (.Call (.Name "isinstance" p) [a, .Name x p2] [] pos) (tE g (.isi a' t)) := by
  obtain ⟨h1, h2⟩ := glb_use hg
  obtain ⟨h3, h4⟩ := glb_use hgi
  obtain ⟨h5, h6, h7⟩ := tyOf_use ht
  have hT : PE X (.Name x p2) (tC (.ty (clsName t))) := pe_bltn (G.gl h1) (G.blt x hx) h6 rfl h7 h2
  refine pe_of (pe_callB call_isG (G.gl h3) (G.blt _ hi) (by decide +kernel) (pa_cons ha (pa_cons hT pa_nil) (hs _)) (by decide) h4 (hs _)) fun σ H Q h => ?_
  obtain ⟨env, O, he, h⟩ := h
  refine ⟨env, O, he, Out.bind (ok' := ResP g H O env a') h fun q ep h => ?_⟩
  intro v H1 r1
  have r2 := r1.brw
  rw [G.hz] at r2
  exact ⟨_, q, v, .ty (clsName t), .type (clsName t), tyTest t q, rfl, r2, fun u z => z, kit_ty (tyTest_eq t h5 q), h _ H1 (.sc (H1 := H) r1.sm rfl fun G => by simp [Rep])⟩
end
end G
namespace G
open PySem PySem.Spec PyProof.Rows L2
section
variable {P : PInf} {w n : Nat} {X : Cx} {s : SC} {g : Gs} {a b : Expr} {a' b' : E} {pos : Pos}
theorem repL_rep {Z : Zd} {H : Hp} {l : List PV} {vs : List V} (h : RepL Z H l vs) (k : Nat) : RepL Z H (List.replicate k l).flatten (List.replicate k vs).flatten := by
  induction k with
  | zero => exact .nil
  | succ k ih => rw [List.replicate_succ, List.replicate_succ, List.flatten_cons, List.flatten_cons]; exact h.app ih
theorem pvMe_nex (m : Me) (p : PV) (l : List PV) (z : Exn) : pvMe m p l ≠ .ex z := by
  intro h
  unfold pvMe at h
  split at h <;> first | (cases h; done) | (split at h <;> cases h; done)
theorem sd_rep (ha : PE X a (tE g a')) (hb : PE X b (tE g b')) (hf : freshE a' = true) : PE X (.BinOp a .Mult b pos) (tE g (.met .rep a' [b'])) := by
  refine pe_of (pe_op op_rep ha hb) fun σ H Q h => ?_
  obtain ⟨env, O, he, h⟩ := h
  simp only [denE] at h
  refine ⟨env, O, he, Out.bind (ok' := ResP g H O env a') h fun p ep h => ?_⟩
  intro x H1 r1
  have hmo : meOk .rep p = true := by cases p <;> rfl
  rw [hmo] at h
  simp only [guardL, if_true, denX] at h
  unfold guardX at h
  split at h
  rotate_left
  · exact h.elim
  rename_i hl
  refine ⟨env, O, he.mono r1.sm, ?_⟩
  cases q : denE g.c g.anc b' env with
  | bad => rw [q] at h; exact h.elim
  | ex z => rw [q] at h; exact fun C d H' sm k => h C d H' (r1.sm.trans sm) k
  | ok k =>
    rw [q] at h
    intro y H2 r2
    replace h : Out g σ H O (pvMe .rep p [k]) (ResP g H O env (.met .rep a' [b'])) Q := h
    cases p <;> simp only [pvMe] at h <;> try exact h.elim
    cases k <;> simp only [] at h <;> try exact h.elim
    rename_i l k
    split at h
    rotate_left
    · exact h.elim
    rename_i hk
    obtain ⟨fa, vs, rfl, f2, f3, f4⟩ := r1.frs hf
    have ey : y = .int k := eq_int r2.brw
    have f3' : H2 fa = some (.lst vs) := r2.sm _ _ f3
    have ln := f4.length
    have hlen : vs.length * k.toNat ≤ sizeLine := by
      have h1 : vs.length * k.toNat ≤ 1000 * 1000 := Nat.mul_le_mul (by omega) (by omega)
      rw [sizeLine_eq]
      omega
    refine ⟨fa, k, vs, rfl, ey, f3', by omega, by omega, hlen, fun p hp => ?_⟩
    have sm2 := r1.sm.trans r2.sm
    have he2 := he.mono sm2
    have f5 : RepL g.Z (hide H2 (g.B ++ O)) l vs := (f4.mono (hide_same _ r2.sm)).mono (hide_sub fun a ha => List.mem_cons_of_mem _ ha)
    have rr := repL_rep f5 k.toNat
    have gt := Got.lst he2.live hp rr
    obtain ⟨ga, gv, g1, g2, g3, g4⟩ := Frs.lst (S := g.B ++ O) hp rr
    exact h _ _ ⟨sm2.trans gt.sm, gt.rep.b, fun _ => gt.rep, fun z => ⟨ga, gv, g1, sm2.free g2, g3, g4⟩⟩
end
end G
namespace G
open PySem PySem.Spec PyProof.Rows L2

/-! ### targets -/
mutual
def tgt (K : PySem.W.Frag) : T → TG
  | .one i => gName i
  | .many ts => gTup K ts.length (tgts K ts)
def tgts (K : PySem.W.Frag) : List T → TGs
  | [] => gNil
  | t :: ts => gCons (tgt K t) (tgts K ts)
end
mutual
def tvs : T → List Nat
  | .one i => [i]
  | .many ts => tvss ts
def tvss : List T → List Nat
  | [] => []
  | t :: ts => tvs t ++ tvss ts
end
/-- what a step of a body leaves: what is open to all stays, and so do the slots outside of M, with their lists -/
structure Kp (M : List Nat) (B : List Addr) (env : Env) (σ : L2.St) (H : Hp) (O : List Addr) (env' : Env) (σ' : L2.St) (H' : Hp) (O' : List Addr) : Prop where
  pub : Same (hide H (B ++ O)) (hide H' (B ++ O'))
  slots : ∀ (i : Nat), i ∉ M → σ'[i]? = σ[i]?
  envs : ∀ (i : Nat), i ∉ M → env'[i]? = env[i]?
  objs : ∀ (i : Nat) (a : Addr), i ∉ M → owned env i = true → σ[i]? = some (some (.ref a)) → a ∈ O' ∧ H' a = H a
theorem owned_list {Z : Zd} {H0 : Hp} {B : List Addr} {EX : ExP} {σ : L2.St} {H : Hp} {O : List Addr} {env : Env} (he : EnvRep Z H0 B EX σ H O env) {i : Nat} {l : List PV} (h : env[i]? = some (.ol l)) : ∃ a vs, σ[i]? = some (some (.ref a)) ∧ a ∈ O ∧ H a = some (.lst vs) ∧ RepL Z (hide H (B ++ O)) l vs := by
  obtain ⟨a, vs, h1, h2, h3, h4⟩ := he.slot i _ h
  exact ⟨a, vs, h1, h2, h3, h4⟩
theorem owned_dict {Z : Zd} {H0 : Hp} {B : List Addr} {EX : ExP} {σ : L2.St} {H : Hp} {O : List Addr} {env : Env} (he : EnvRep Z H0 B EX σ H O env) {i : Nat} {l : List (PV × PV)} (h : env[i]? = some (.od l)) : ∃ a es, σ[i]? = some (some (.ref a)) ∧ a ∈ O ∧ H a = some (DO a es) ∧ KeysOk l ∧ RepD Z (hide H (B ++ O)) l es.1.toList := by
  obtain ⟨a, es, h1, h2, h3, h4, h5⟩ := he.slot i _ h
  exact ⟨a, es, h1, h2, h3, h4, h5⟩
theorem owned_kind {env : Env} {i : Nat} (h : owned env i = true) : (∃ l, env[i]? = some (.ol l)) ∨ ∃ l, env[i]? = some (.od l) := by
  unfold owned at h
  cases q : env[i]? with
  | none => rw [q] at h; cases h
  | some s =>
    rw [q] at h
    cases s with
    | ol l => exact .inl ⟨l, rfl⟩
    | od l => exact .inr ⟨l, rfl⟩
    | un => cases h
    | sh p => cases h
    | exn x => cases h
theorem owned_addr {Z : Zd} {H0 : Hp} {B : List Addr} {EX : ExP} {σ : L2.St} {H : Hp} {O : List Addr} {env : Env} (he : EnvRep Z H0 B EX σ H O env) {i : Nat} (h : owned env i = true) : ∃ a ob, σ[i]? = some (some (.ref a)) ∧ a ∈ O ∧ H a = some ob := by
  rcases owned_kind h with ⟨l, hl⟩ | ⟨l, hl⟩
  · obtain ⟨a, vs, h1, h2, h3, _⟩ := owned_list he hl
    exact ⟨a, _, h1, h2, h3⟩
  · obtain ⟨a, es, h1, h2, h3, _⟩ := owned_dict he hl
    exact ⟨a, _, h1, h2, h3⟩
theorem Kp.refl {M : List Nat} {Z : Zd} {H0 : Hp} {B : List Addr} {EX : ExP} {σ : L2.St} {H : Hp} {O : List Addr} {env : Env} (he : EnvRep Z H0 B EX σ H O env) : Kp M B env σ H O env σ H O :=
  ⟨.refl _, fun _ _ => rfl, fun _ _ => rfl, fun i a _ h e => by
    obtain ⟨a', ob, h2, h3, _⟩ := owned_addr he h
    rw [h2] at e; cases e; exact ⟨h3, rfl⟩⟩
theorem Kp.same {M : List Nat} {Z : Zd} {H0 : Hp} {B : List Addr} {EX : ExP} {σ : L2.St} {H H' : Hp} {O : List Addr} {env : Env} (he : EnvRep Z H0 B EX σ H O env) (e : Same H H') : Kp M B env σ H O env σ H' O :=
  ⟨hide_same _ e, fun _ _ => rfl, fun _ _ => rfl, fun i a _ h e' => by
    obtain ⟨a', ob, h2, h3, h4⟩ := owned_addr he h
    rw [h2] at e'; cases e'; exact ⟨h3, by rw [h4, e _ _ h4]⟩⟩
theorem owned_of {env env' : Env} {i : Nat} (h : env'[i]? = env[i]?) : owned env' i = owned env i := by
  unfold owned
  rw [h]
theorem Kp.trans {M : List Nat} {B : List Addr} {env env1 env2 : Env} {σ σ1 σ2 : L2.St} {H H1 H2 : Hp} {O O1 O2 : List Addr} (h : Kp M B env σ H O env1 σ1 H1 O1) (k : Kp M B env1 σ1 H1 O1 env2 σ2 H2 O2) : Kp M B env σ H O env2 σ2 H2 O2 :=
  ⟨h.pub.trans k.pub, fun i hi => (k.slots i hi).trans (h.slots i hi), fun i hi => (k.envs i hi).trans (h.envs i hi), fun i a hi ho e => by
    obtain ⟨h1, h2⟩ := h.objs i a hi ho e
    obtain ⟨h3, h4⟩ := k.objs i a hi (by rw [owned_of (h.envs i hi)]; exact ho) ((h.slots i hi).trans e)
    exact ⟨h3, h4.trans h2⟩⟩
theorem Kp.mono {M M' : List Nat} {B : List Addr} {env env1 : Env} {σ σ1 : L2.St} {H H1 : Hp} {O O1 : List Addr} (h : Kp M B env σ H O env1 σ1 H1 O1) (hs : ∀ i ∈ M, i ∈ M') : Kp M' B env σ H O env1 σ1 H1 O1 :=
  ⟨h.pub, fun i hi => h.slots i fun z => hi (hs i z), fun i hi => h.envs i fun z => hi (hs i z), fun i a hi => h.objs i a fun z => hi (hs i z)⟩
section
variable {Z : Zd} {H0 : Hp} {B : List Addr} {EX : ExP} {σ : L2.St} {H : Hp} {O : List Addr} {env : Env}
theorem owned_set {env : Env} {i j : Nat} {s : Slot} (h : j ≠ i) : owned (env.set i s) j = owned env j := by
  unfold owned
  rw [List.getElem?_set_ne (Ne.symm h)]
/-- a slot gets a value that is open to all -/
theorem EnvRep.put (he : EnvRep Z H0 B EX σ H O env) {i : Nat} {p : PV} {v : V} (hi : i < env.length) (hr : Rep Z (hide H (B ++ O)) p v) :
    EnvRep Z H0 B EX (σ.set i (some v)) H O (env.set i (.sh p)) ∧ Kp [i] B env σ H O (env.set i (.sh p)) (σ.set i (some v)) H O := by
  have hi' : i < σ.length := by rw [he.len]; exact hi
  refine ⟨⟨by simp [he.len], fun j s e => ?_, fun j k a hjk h1 h2 e1 => ?_, he.o0, he.od, he.b0, he.sm⟩, ⟨.refl _, fun j hj => ?_, fun j hj => ?_, fun j a hj ho e => ?_⟩⟩
  · by_cases hj : j = i
    · subst hj
      rw [List.getElem?_set_self hi] at e
      cases e
      rw [List.getElem?_set_self hi']
      exact ⟨v, rfl, hr⟩
    · rw [List.getElem?_set_ne (Ne.symm hj)] at e ⊢
      exact he.slot j s e
  · have n1 : j ≠ i := fun z => by
      subst z
      unfold owned at h1
      rw [List.getElem?_set_self hi] at h1
      cases h1
    have n2 : k ≠ i := fun z => by
      subst z
      unfold owned at h2
      rw [List.getElem?_set_self hi] at h2
      cases h2
    rw [owned_set n1] at h1
    rw [owned_set n2] at h2
    rw [List.getElem?_set_ne (Ne.symm n1)] at e1
    rw [List.getElem?_set_ne (Ne.symm n2)]
    exact he.dis j k a hjk h1 h2 e1
  · have hj' : j ≠ i := by simpa using hj
    rw [List.getElem?_set_ne (Ne.symm hj')]
  · have hj' : j ≠ i := by simpa using hj
    rw [List.getElem?_set_ne (Ne.symm hj')]
  · obtain ⟨a', ob, h2, h3, _⟩ := owned_addr he ho
    rw [h2] at e; cases e; exact ⟨h3, rfl⟩
mutual
theorem asg_ok : ∀ (t : T) (p : PV) (v : V) (σ : L2.St) (env env' : Env), EnvRep Z H0 B EX σ H O env → Rep Z (hide H (B ++ O)) p v → asg t p env = some env' → ∀ Q : L2.St → Hp → Prop,
    (∀ σ', EnvRep Z H0 B EX σ' H O env' → Kp (tvs t) B env σ H O env' σ' H O → Q σ' H) → tgt Z.K t v σ H Q
  | .one i, p, v, σ, env, env', he, hr, e, Q, k => by
    simp only [asg] at e
    split at e <;> cases e
    rename_i hi
    obtain ⟨h1, h2⟩ := he.put hi hr
    unfold tgt
    exact k _ h1 h2
  | .many ts, p, v, σ, env, env', he, hr, e, Q, k => by
    cases p <;> simp only [asg, reduceCtorEq] at e
    rename_i l
    unfold Rep at hr
    obtain ⟨a, vs, rfl, h1, h2⟩ := hr
    unfold tgt
    refine ⟨a, vs, rfl, seqT (hide_le _ _) h1, ?_, asgL_ok ts l vs σ env env' he h2 e Q k⟩
    rw [h2.length]
    exact asgL_len ts l env env' e
theorem asgL_len : ∀ (ts : List T) (ps : List PV) (env env' : Env), asgL ts ps env = some env' → ps.length = ts.length
  | [], [], _, _, _ => rfl
  | [], _ :: _, _, _, e => by simp [asgL] at e
  | _ :: _, [], _, _, e => by simp [asgL] at e
  | t :: ts, p :: ps, env, env', e => by
    simp only [asgL] at e
    split at e
    · rename_i e1 q
      simp [asgL_len ts ps e1 env' e]
    · cases e
theorem asgL_ok : ∀ (ts : List T) (ps : List PV) (vs : List V) (σ : L2.St) (env env' : Env), EnvRep Z H0 B EX σ H O env → RepL Z (hide H (B ++ O)) ps vs → asgL ts ps env = some env' → ∀ Q : L2.St → Hp → Prop,
    (∀ σ', EnvRep Z H0 B EX σ' H O env' → Kp (tvss ts) B env σ H O env' σ' H O → Q σ' H) → tgts Z.K ts vs σ H Q
  | [], [], vs, σ, env, env', he, hr, e, Q, k => by
    simp only [asgL, Option.some.injEq] at e
    subst e
    unfold RepL at hr
    unfold tgts
    exact ⟨hr, k σ he (.refl he)⟩
  | [], _ :: _, vs, σ, env, env', he, hr, e, Q, k => by simp [asgL] at e
  | _ :: _, [], vs, σ, env, env', he, hr, e, Q, k => by simp [asgL] at e
  | t :: ts, p :: ps, vs, σ, env, env', he, hr, e, Q, k => by
    simp only [asgL] at e
    split at e
    · rename_i e1 q
      unfold RepL at hr
      obtain ⟨v, r, rfl, h1, h2⟩ := hr
      unfold tgts
      refine ⟨v, r, rfl, asg_ok t p v σ env e1 he h1 q _ fun σ1 he1 k1 => asgL_ok ts ps r σ1 e1 env' he1 h2 e Q fun σ2 he2 k2 => ?_⟩
      refine k σ2 he2 ((k1.mono fun i hi => ?_).trans (k2.mono fun i hi => ?_))
      · simp [tvss, hi]
      · simp [tvss, hi]
    · cases e
end
end
end G
/-! ### enumerate(v) of anything that begins -/
namespace PySem
namespace GEnum
open Sem (wp)
set_option maxHeartbeats 1000000 in
theorem meets_one {v : Value} {o : Obj} {H : Heap → Prop} (B : Begins v o H) :
    Meets (Builtin.«enumerate.__new__» ⟨[.type "enumerate", v], []⟩) (fun _ R s => H s.heap ∧ R (.ok (.ret (.ref (s.heap.push o).objs.size)))
      { s with heap := (s.heap.push o).push { cls := .type "enumerate", data := .fields #[.none, .bool false, .ref s.heap.objs.size, rawInt 0, .none, .none] } }) :=
  .of_wp fun prog w A R s h => by
    obtain ⟨hp, gg, dd, tk, os⟩ := s
    obtain ⟨h1, h⟩ := h
    have hsub := sub_enumerate
    have q1 : ∀ {A' : Around} {E Q : Value → Shared → Prop}, Q (.ref hp.objs.size) ⟨hp.push o, gg, dd, tk, os⟩ → wpAny (model prog w) A' (pyIter v) Q E ⟨hp, gg, dd, tk, os⟩ :=
      fun q => B.iter prog w _ _ ⟨hp, gg, dd, tk, os⟩ _ h1 q
    wp_walk using q1
    refine wpAny_stack_any fun st => wpAny_pure ?_
    split
    · rename_i c _ _ _ _ _
      cases (c == Value.type "enumerate") <;> (wp_walk using q1; exact ⟨_, rfl, h⟩)
    · wp_walk using q1
      exact ⟨_, rfl, h⟩
theorem begins_one {prog : Program} {w : World} {A : Around} {E : Value → Shared → Prop} {s : Shared} {v : Value} {o : Obj} {H : Heap → Prop} {Q : Value → Shared → Prop} (B : Begins v o H) (h1 : H s.heap)
    (h : ∀ h', IsEnum h' (s.heap.objs.size + 1) s.heap.objs.size 0 .none → h'.get? s.heap.objs.size = some o → (∀ b u, s.heap.get? b = some u → h'.get? b = some u) → Q (.ref (s.heap.objs.size + 1)) { s with heap := h' }) :
    wpAny (model prog w) A (call (.type "enumerate") [v]) Q E s := by
  refine callType_new F.called_enumerate (by decide) (F.typeCall_enumerate_1 _) (F.newCall_enumerate_1 _) (fun obj => F.args_object_init_2 obj _) F.entry_enumerate_new (meets_one B) ⟨h1, ?_⟩
  have hz : (s.heap.push o).objs.size = s.heap.objs.size + 1 := Heap.size_push ..
  show _ ∧ _
  rw [hz]
  have e1 : ((s.heap.push o).push { cls := .type "enumerate", data := .fields #[.none, .bool false, .ref s.heap.objs.size, rawInt 0, .none, .none] }).get? (s.heap.objs.size + 1) = some { cls := .type "enumerate", data := .fields #[.none, .bool false, .ref s.heap.objs.size, rawInt 0, .none, .none] } := by
    rw [← hz]
    exact Heap.get?_push_size _ rfl
  exact ⟨⟨_, e1, rfl⟩, h _ e1 (Heap.get?_push_of_some _ (Heap.get?_push_size _ B.free)) fun b u x => Heap.get?_push_of_some _ (Heap.get?_push_of_some _ x)⟩
end GEnum
end PySem

namespace G
open PySem PySem.Spec PyProof.Rows L2
/-- the tuple at a with its numbers, in new pairs -/
def IteT (K : PySem.W.Frag) (a : Addr) : It :=
  ⟨fun i H => ∃ xs x, SqT K H a xs ∧ xs[i]? = some x, fun i H v H' => ∃ T x, v = .ref T ∧ H T = none ∧ H' = upd H T (.tup [.int (i : Nat), x]) ∧ ∀ xs, SqT K H a xs → xs[i]? = some x, fun i H => ∃ xs, SqT K H a xs ∧ i = xs.length⟩
theorem turn_enumT {P : Program} {w : World} {K : PySem.W.Frag} {elts : List Expr} {kk : Nat} {tpos : Pos} (a e it : Addr) :
    Turn P w K (.Tuple elts kk tpos) (IteT K a) [e, it] e (fun i h => (∃ old, IsEnum h e it ((i : Nat) : Int) old) ∧ h.IsTupleIter it a i ∧ e ≠ it ∧ a ≠ e ∧ a ≠ it) where
  mem := by simp
  obj := fun i h st b hb => by
    obtain ⟨⟨old, he⟩, ⟨o, ho, hc, hd⟩, _⟩ := st
    have e' : b = e ∨ b = it := by simpa using hb
    rcases e' with rfl | rfl
    · exact ⟨_, he, fun v q => nomatch q⟩
    · exact ⟨o, ho, fun v q => by rw [hd] at q; cases q⟩
  keep := fun i h h' st k => let ⟨⟨old, he⟩, hi, hne⟩ := st; ⟨⟨old, k e (by simp) _ he⟩, hi.at fun o q => k it (by simp) o q, hne⟩
  item := by
    intro X hP hw hK hc i pins s σ H E I hf st hg
    subst hP hw hK
    obtain ⟨⟨old, he⟩, hit, hne, na1, na2⟩ := st
    obtain ⟨xs, x, hq, hx⟩ := hg
    obtain ⟨its, rv, p, hz⟩ := I.tuple hq
    obtain ⟨u, hu, ru⟩ := rv.get hx
    have hlt : i < its.toArray.size := by
      have := (List.getElem?_eq_some_iff.mp hu).1
      simpa using this
    have D := fun A : Around => WalksT.enumFrom (prog := X.prog) (w := X.w) (A := X.A) (0 : Int) (Draws.tuple (A := X.A.in1) (I.ok.hd hc) it a na2 its.toArray) e hne (by simp [hne, Ne.symm na1]) (by simp)
    have W := D X.A
    have z0 : (0 : Int) + (i : Int) = (i : Int) := by omega
    refine W.item i s _ _ hlt ⟨⟨old, by rw [z0]; exact he⟩, hit, p⟩ fun T vals h' tk hP hT hTup hm hk => ?_
    obtain ⟨t, y, hy, ev⟩ := hP
    subst ev
    have ey : y = u := by
      have : its.toArray[i]? = some u := by simpa using hu
      rw [this] at hy
      exact (Option.some.inj hy).symm
    subst ey
    refine ⟨_, rfl, W.go elts kk tpos i T { s with heap := h', toks := tk } _ _ hm fun h'' st' hk' => ?_⟩
    obtain ⟨⟨old', he'⟩, hit', p'⟩ := st'
    have nT : T ∉ [e, it] := W.apart i T _ hm
    obtain ⟨oT, hoT, cT, nn, dT⟩ := hTup
    have hoT2 : h''.get? T = some oT := hk' T oT nT hoT
    have new : ObjOk X.prog X.w (upd H T (.tup [.int (i : Nat), x])) h'' T (.tup [.int (i : Nat), x]) :=
      ⟨by show 2 ≤ sizeLine; decide, [.int ((0 : Int) + (i : Int)) t, y], .cons ⟨t, by rw [z0]⟩ (.cons ru .nil), ⟨oT, hoT2, cT, nn, dT⟩⟩
    have I1 : Inv X pins σ (upd H T (.tup [.int (i : Nat), x])) { s with heap := h'', toks := tk } :=
      I.turnedNew (ch := [e, it]) (fun b ob hb q => hk' b ob hb (hk b ob hb q)) hf hT new
    refine ⟨.ref T, _, I1, rfl, ⟨T, x, rfl, I.hok.fresh hT, rfl, fun ys hy => by rw [I.tuple_inj hy hq]; exact hx⟩, ⟨⟨old', ?_⟩, hit', hne, na1, na2⟩, fun b hb => ?_⟩
    · have e1 : ((i + 1 : Nat) : Int) = (0 : Int) + ((i + 1 : Nat) : Int) := by omega
      rw [e1]
      exact he'
    · have : b ≠ T := fun z => nT (z ▸ hb)
      rw [upd_ne this]
      exact (hf b hb).1
  done := by
    intro X hP hw hK hc i pins s σ H E I hf st hg
    subst hP hw hK
    obtain ⟨⟨old, he⟩, hit, hne, na1, na2⟩ := st
    obtain ⟨xs, hq, hx⟩ := hg
    obtain ⟨its, rv, p, hz⟩ := I.tuple hq
    have W := WalksT.enumFrom (prog := X.prog) (w := X.w) (A := X.A) (0 : Int) (Draws.tuple (A := X.A.in1) (I.ok.hd hc) it a na2 its.toArray) e hne (by simp [hne, Ne.symm na1]) (by simp)
    have en : i = its.toArray.size := by rw [hx, List.size_toArray]; exact rv.length
    have z0 : (0 : Int) + (its.toArray.size : Int) = (i : Int) := by omega
    refine W.done s _ _ ⟨⟨old, by rw [z0]; exact he⟩, by rw [← en]; exact hit, p⟩ fun h' tk hk => ⟨rfl, I.turnedL (ch := [e, it]) hk hf⟩
  self := fun A i s Q E st h => let ⟨⟨_, he⟩, _⟩ := st; wpAny_pyIter_enum he h
/-! ### the keys of a dict that stands still -/
def ItG (d : Addr) (es : DS) (ks : List V) : It :=
  ⟨fun i H => H d = some (DO d es) ∧ i < ks.length, fun i H x H' => H' = H ∧ ks[i]? = some x, fun i H => H d = some (DO d es) ∧ ks.length ≤ i⟩
/-- the keys as values -/
def KeysV (es : DS) (ks : List V) : Prop := es.1.size = ks.length ∧ ∀ (i : Nat) (x : V), ks[i]? = some x → ∃ e, es.1[i]? = some e ∧ RelV x e.key
theorem turn_keysG {P : Program} {w : World} {K : PySem.W.Frag} {tg : Expr} {d : Addr} {es : DS} {ks : List V} (it : Addr) (hk : KeysV es ks) : Turn P w K tg (ItG d es ks) [it] it (fun i h => h.IsKeyIter it d i ks.length es.2) where
  mem := by simp
  obj := fun i h st b hb => by
    have e : b = it := by simpa using hb
    subst e
    obtain ⟨oi, e, c, dd⟩ := st
    exact ⟨oi, e, fun v z => by rw [dd] at z; cases z⟩
  keep := fun i h h' st k => st.at fun oi e => k it (by simp) oi e
  item := by
    intro X hP hw hK hc i pins s σ H E I hf st hg
    subst hP hw hK
    obtain ⟨hd, hi⟩ := hg
    obtain ⟨f0, f1, f2, f3, f4, f5⟩ := hf it (by simp)
    obtain ⟨hs, o, hgd, hx, hdt⟩ := do_at I hd
    obtain ⟨en, hen, hkey⟩ := hk.2 i ks[i] (List.getElem?_eq_getElem hi)
    refine next_key_item st hgd hdt hk.1 hen fun h' st' sb => ?_
    have I1 : Inv X pins σ H { s with heap := h' } := I.turned (t' := s.toks) (fun b ob hb e => (sb.2 b hb).trans e) f0 f1 f3 f4 f5
    obtain ⟨oi, e, c, dd⟩ := id st'
    exact ⟨en.key, rfl, go_of (s := { s with heap := h' }) e c dd (by decide) ⟨ks[i], H, I1, hkey, ⟨rfl, List.getElem?_eq_getElem hi⟩, st', fun b hb => (hf b hb).1⟩⟩
  done := by
    intro X hP hw hK hc i pins s σ H E I hf st hg
    subst hP hw hK
    obtain ⟨hd, hi⟩ := hg
    obtain ⟨f0, f1, f2, f3, f4, f5⟩ := hf it (by simp)
    obtain ⟨hs, o, hgd, hx, hdt⟩ := do_at I hd
    exact next_key_end (I.ok.hd hc) st hgd hdt hk.1 hi fun h' eb => ⟨rfl, I.turned (t' := s.toks) (fun b ob hb e => eb b ob hb e) f0 f1 f3 f4 f5⟩
  self := fun A i s Q E st h => by
    refine wpAny_pyIter_slot st.typeIs F.slot_dict_keyiterator_iter (wpAny_call_entry F.slot_dict_keyiterator_iter st.typeIs F.entry_dict_keyiterator_iter ?_ (F.args_dict_keyiterator_iter_1 _))
    show wpAny _ _ (ret (.ref it)) _ _ s
    exact wpAny_pure ⟨_, rfl, "dict_keyiterator", _, st.typeIs, F.slot_dict_keyiterator_next.lookup, h⟩
section
variable {X : Cx} {tg e : Expr}
def iKeysG (td : TE) : TI := fun σ H R => td σ H fun x H1 => ∃ d es ks, x = .ref d ∧ H1 d = some (DO d es) ∧ KeysV es ks ∧ R (ItG d es ks) H1
theorem pi_keysG {td : TE} (he : PE X e td) : PI X tg e (iKeysG td) := by
  refine ⟨fun pins s σ H R I h => ?_⟩
  refine thn (he.run pins s σ H _ I h) fun u s1 ⟨x, H1, I1, rx, d, es, ks, ex, hd, hk, q⟩ => ?_
  subst ex
  obtain rfl : u = Value.ref d := rx
  obtain ⟨hs, o, hgd, hx, hdt⟩ := do_at I1 hd
  refine iter_keys hs hgd hx hdt (pi_one (tk := s1.toks) I1 _ (turn_keysG _ hk) ⟨_, Heap.get?_push_size _ rfl, rfl, ?_⟩ q)
  rw [hk.1] <;> rfl
theorem walk_keysG {d : Addr} {es : DS} {ks : List V} : Walk (ItG d es ks) ks.length (fun H => H d = some (DO d es)) (fun i H x H' => H' = H ∧ ks[i]? = some x) :=
  ⟨fun i _ hi q => ⟨q, hi⟩, fun _ q => ⟨q, Nat.le_refl _⟩, fun i H v H' _ q y => y⟩
theorem RepD.keysV {Z : Zd} {H : Hp} : ∀ {l : List (PV × PV)} {es : List DictEntry}, RepD Z H l es → ∃ ks : List V, RepL Z H (l.map (·.1)) ks ∧ es.length = ks.length ∧ ∀ (i : Nat) (x : V), ks[i]? = some x → ∃ e, es[i]? = some e ∧ RelV x e.key
  | [], es, h => by
    unfold RepD at h
    subst h
    exact ⟨[], .nil, rfl, fun i x e => by simp at e⟩
  | (k, p) :: r, es, h => by
    unfold RepD at h
    obtain ⟨e, q, kv, vv, rfl, h1, h2, h3, h4, h5, h6⟩ := h
    obtain ⟨ks, g1, g2, g3⟩ := RepD.keysV h6
    refine ⟨kv :: ks, .cons h2 g1, by simp [g2], fun i x e' => ?_⟩
    cases i with
    | zero =>
      simp only [List.getElem?_cons_zero, Option.some.injEq] at e'
      subst e'
      exact ⟨e, rfl, h1⟩
    | succ i => simpa using g3 i x (by simpa using e')
theorem pi_of {iter : Expr} {t t' : TI} (h : PI X tg iter t) (k : ∀ σ H R, t' σ H R → t σ H R) : PI X tg iter t' := ⟨fun pins s σ H R I q => h.run pins s σ H R I (k σ H R q)⟩
theorem pi_or {iter : Expr} {t t' : TI} (h : PI X tg iter t) (h' : PI X tg iter t') : PI X tg iter (fun σ H R => t σ H R ∨ t' σ H R) := ⟨fun pins s σ H R I q => by
  rcases q with q | q
  · exact h.run pins s σ H R I q
  · exact h'.run pins s σ H R I q⟩
def iEnumT (K : PySem.W.Frag) (ta : TA) : TI := fun σ H R => ta σ H fun vs H1 => ∃ a xs, vs = [.ref a] ∧ SqT K H1 a xs ∧ R (IteT K a) H1
theorem pi_enumT {ta : TA} {p pos tpos : Pos} {elts : List Expr} {kk : Nat} (hg : Gl X "enumerate") (hm : X.mg "enumerate" = none) (ha : PA X [e] ta) (hs : starEach [e] X.env = [(false, eval e X.env)]) :
    PI X (.Tuple elts kk tpos) (.Call (.Name "enumerate" p) [e] [] pos) (iEnumT X.K ta) := by
  refine ⟨fun pins s σ H R I h => ?_⟩
  refine Call_ (ld_blt I hg hm boot_enumerate (PyProof.Rows.callWith_type1 (thn (ha.run pos pins s σ H _ I h) fun us s1 ⟨vs, H1, I1, r1, q1⟩ => ?_) hs rfl))
  obtain ⟨a, xs, ex, hq, q⟩ := q1
  subst ex
  cases r1 with
  | cons r rr =>
    cases rr
    cases r
    obtain ⟨its, rv, p', hz⟩ := I1.tuple hq
    refine GEnum.begins_one (begins_tuple a its.toArray) p' fun h' he hit hk => wpAny_pyIter_enum he ?_
    have I2 : Inv X pins σ H1 { s1 with heap := h' } := I1.kept (t' := s1.toks) hk
    have na : a < s1.heap.objs.size := by obtain ⟨o, e, _⟩ := p'; exact Heap.lt_size e
    refine ⟨s1.heap.objs.size + 1, [s1.heap.objs.size + 1, s1.heap.objs.size], _, _, H1, rfl, I2, turn_enumT a (s1.heap.objs.size + 1) s1.heap.objs.size,
      ⟨⟨.none, he⟩, ⟨_, hit, rfl, rfl⟩, Nat.succ_ne_self _, Nat.ne_of_lt (Nat.lt_succ_of_lt na), Nat.ne_of_lt na⟩, fun b hb => ?_, q⟩
    have hle : s1.heap.objs.size ≤ b := by
      have e' : b = s1.heap.objs.size + 1 ∨ b = s1.heap.objs.size := by simpa using hb
      rcases e' with rfl | rfl
      · exact Nat.le_succ _
      · exact Nat.le_refl _
    exact I1.fpOk hle (I1.hok.fresh hle)

/-! ### what a for or a comprehension walks -/
/-- the walk J gives the values l, whatever a body does that keeps all but the slots M -/
def Wk (g : Gs) (M : List Nat) (env : Env) (σ : L2.St) (O : List Addr) (H1 : Hp) (l : List PV) (J : It) : Prop :=
  ∃ (Gd : Hp → Prop) (Y : Nat → Hp → V → Hp → Prop), Walk J l.length Gd Y ∧ (∀ env' σ' H' O', Kp M g.B env σ H1 O env' σ' H' O' → Gd H') ∧
    ∀ i H x H' O', i < l.length → Same (hide H1 (g.B ++ O)) (hide H (g.B ++ O')) → live H (g.B ++ O') → Y i H x H' → ∃ p, l[i]? = some p ∧ Same H H' ∧ Rep g.Z (hide H' (g.B ++ O')) p x
def tI (g : Gs) (M : List Nat) (it : I) : TI := fun σ H R => ∃ env O, g.env σ H O env ∧ Out g σ H O (denI g.c g.anc it env) (fun l J H' => Same H H' ∧ Wk g M env σ O H' l J) R
/-- a list that stands still -/
def SrcL (g : Gs) (M : List Nat) (env : Env) (σ : L2.St) (O : List Addr) (H1 : Hp) (a : Addr) (vs : List V) (l : List PV) : Prop :=
  (∀ env' σ' H' O', Kp M g.B env σ H1 O env' σ' H' O' → SqL g.Z.K H' a vs) ∧ RepL g.Z (hide H1 (g.B ++ O)) l vs
def SrcT (g : Gs) (M : List Nat) (env : Env) (σ : L2.St) (O : List Addr) (H1 : Hp) (a : Addr) (vs : List V) (l : List PV) : Prop :=
  (∀ env' σ' H' O', Kp M g.B env σ H1 O env' σ' H' O' → SqT g.Z.K H' a vs) ∧ RepL g.Z (hide H1 (g.B ++ O)) l vs
def Src (g : Gs) (M : List Nat) (env : Env) (σ : L2.St) (O : List Addr) (p : PV) (v : V) (H1 : Hp) : Prop :=
  match p with
  | .lst l => ∃ a vs, v = .ref a ∧ SrcL g M env σ O H1 a vs l
  | .tup l => ∃ a vs, v = .ref a ∧ SrcT g M env σ O H1 a vs l
  | .dct l => ∃ a es, v = .ref a ∧ (∀ env' σ' H' O', Kp M g.B env σ H1 O env' σ' H' O' → H' a = some (DO a es)) ∧ KeysOk l ∧ RepD g.Z (hide H1 (g.B ++ O)) l es.1.toList
  | p => Rep g.Z (hide H1 (g.B ++ O)) p v
/-- an expression that is walked -/
def tS (g : Gs) (M : List Nat) (e : E) : TE := fun σ H Q => ∃ env O, g.env σ H O env ∧ Out g σ H O (denE g.c g.anc e env) (fun p v H' => Same H H' ∧ Src g M env σ O p v H') Q
variable {P : PInf} {w n : Nat} {s : SC} {g : Gs} {M : List Nat} {a : Expr} {a' b' : E}
theorem src_of {env : Env} {σ : L2.St} {O : List Addr} {p : PV} {v : V} {H : Hp} (h : Rep g.Z (hide H (g.B ++ O)) p v) : Src g M env σ O p v H := by
  cases p with
  | lst l =>
    unfold Rep at h
    obtain ⟨a, vs, e, h1, h2⟩ := h
    exact ⟨a, vs, e, fun env' σ' H' O' k => (hide_le _ _).seq (k.pub.seq h1), h2⟩
  | tup l =>
    unfold Rep at h
    obtain ⟨a, vs, e, h1, h2⟩ := h
    exact ⟨a, vs, e, fun env' σ' H' O' k => seqT (hide_le _ _) (seqT k.pub h1), h2⟩
  | dct l =>
    unfold Rep at h
    obtain ⟨a, es, e, h1, h2, h3⟩ := h
    exact ⟨a, es, e, fun env' σ' H' O' k => hide_le _ _ _ _ (k.pub _ _ h1), h2, h3⟩
  | _ => exact h
theorem ss_lone (hl : ∀ env, lone env a' = true) (ha : PE X a (tE g a')) : PE X a (tS g M a') := pe_of ha fun σ H Q h => by
  obtain ⟨env, O, he, h⟩ := h
  exact ⟨env, O, he, h.later (.refl H) fun p v H' ep r => ⟨r.sm, src_of (r.str (hl env))⟩⟩
theorem ss_var {pos : Pos} (G : GX P w n X s g) {x : Str} {i : Nat} (h : loc s x = some i) (hM : i ∉ M) : PE X (.Name x pos) (tS g M (.var i)) := by
  obtain ⟨h1, h2, h3, h4⟩ := loc_use h
  refine pe_of (pe_var (by rw [G.hN]; exact h1) (G.vis h2) h3 h4) fun σ H Q h => ?_
  obtain ⟨env, O, he, h⟩ := h
  simp only [denE] at h
  cases q : getV env i with
  | ok p =>
    rw [q] at h
    obtain ⟨v, e1, e2, e3⟩ := he.get q
    refine ⟨v, e1, h v H ⟨.refl H, ?_⟩⟩
    cases ho : owned env i with
    | false => exact src_of (e3 ho)
    | true =>
      rcases owned_kind ho with ⟨l, q1⟩ | ⟨l, q1⟩
      rotate_left
      · have ep : p = .dct l := by
          unfold getV at q
          rw [q1] at q
          cases q; rfl
        subst ep
        obtain ⟨ad, es, q2, q3, q4, q5, q6⟩ := owned_dict he q1
        rw [q2] at e1
        cases e1
        exact ⟨ad, es, rfl, fun env' σ' H' O' k => by rw [(k.objs i ad hM ho q2).2]; exact q4, q5, q6⟩
      obtain ⟨ad, vs, q2, q3, q4, q5⟩ := owned_list he q1
      have ep : p = .lst l := by
        unfold getV at q
        rw [q1] at q
        cases q; rfl
      subst ep
      rw [q2] at e1
      cases e1
      exact ⟨ad, vs, rfl, fun env' σ' H' O' k => .of (by rw [(k.objs i ad hM ho q2).2]; exact q4), q5⟩
  | ex x => unfold getV at q; split at q <;> cases q
  | bad => rw [q] at h; exact h.elim
theorem YAt_ok {O : List Addr} {H1 : Hp} {vs : List V} {l : List PV} (hr : RepL g.Z (hide H1 (g.B ++ O)) l vs) {f : Nat → Nat} (hf : ∀ i, i < l.length → f i < l.length) {i : Nat} {H H' : Hp} {x : V} {O' : List Addr} (hi : i < l.length)
    (hs : Same (hide H1 (g.B ++ O)) (hide H (g.B ++ O'))) (y : H' = H ∧ vs[f i]? = some x) : ∃ p, l[f i]? = some p ∧ Same H H' ∧ Rep g.Z (hide H' (g.B ++ O')) p x := by
  obtain ⟨rfl, hx⟩ := y
  obtain ⟨p, h1, h2⟩ := hr.get' hx
  exact ⟨p, h1, .refl _, h2.mono hs⟩
theorem Out.mk {α β : Type} {σ : L2.St} {H : Hp} {O : List Addr} {r : G.R α} {p : α} {ok : α → β → Hp → Prop} {Q : β → Hp → Prop} (e : r = .ok p) (h : ∀ v H', ok p v H' → Q v H') : Out g σ H O r ok Q := by
  rw [e]; exact h
theorem si_seq (G : GX P w n X s g) (ha : PE X a (tS g M a')) : PI X tg a (tI g M (.seq a')) := by
  have hK : g.Z.K = X.K := by rw [G.hz]
  refine pi_of (pi_or (pi_list ha) (pi_or (pi_tup ha) (pi_or (pi_str ha) (pi_keysG ha)))) fun σ H R h => ?_
  obtain ⟨env, O, he, h⟩ := h
  simp only [denI] at h
  cases q : denE g.c g.anc a' env with
  | bad => rw [q] at h; exact h.elim
  | ex x =>
    rw [q] at h
    exact .inl ⟨env, O, he, by rw [q]; exact h⟩
  | ok p =>
    rw [q] at h
    replace h : Out g σ H O (itOf p) (fun l J H' => Same H H' ∧ Wk g M env σ O H' l J) R := h
    cases p <;> simp only [itOf] at h <;> try exact h.elim
    rotate_right
    · rename_i l
      refine .inr (.inr (.inr ⟨env, O, he, Out.mk q fun v H1 r => ?_⟩))
      obtain ⟨ad, es, rfl, s1, s2, s3⟩ := r.2
      obtain ⟨ks, k1, k2, k3⟩ := s3.keysV
      have hk : KeysV es ks := ⟨by rw [← k2]; simp, fun i x e => by
        obtain ⟨en, e1, e2⟩ := k3 i x e
        exact ⟨en, by rw [← Array.getElem?_toList]; exact e1, e2⟩⟩
      refine ⟨ad, es, ks, rfl, s1 env σ H1 O (.refl (he.mono r.1)), hk, h _ _ ⟨r.1, ?_⟩⟩
      exact ⟨_, _, k1.length ▸ walk_keysG (d := ad) (es := es) (ks := ks), fun env' σ' H' O' k => s1 env' σ' H' O' k, fun i H H' x O' hi hs hv y => YAt_ok k1 (f := fun i => i) (fun _ h => h) hi hs y⟩
    · rename_i z
      refine .inr (.inr (.inl ⟨env, O, he, Out.mk q fun v H1 r => ?_⟩))
      have ev : v = .str (strV z) := by have := r.2; simpa [Src, Rep] using this
      refine ⟨strV z, ev, h _ _ ⟨r.1, ?_⟩⟩
      have hl : (strV z).cps.size = (z.map fun c => PV.str [c]).length := by simp [strV]
      refine ⟨fun _ => True, _, hl ▸ walk_str, fun _ _ _ _ _ => trivial, fun i H H' x O' hi hs hv y => ?_⟩
      obtain ⟨rfl, c, e1, e2⟩ := y
      have e3 : (z.map Char.toNat)[i]? = some c := by rw [← strV_list, Array.getElem?_toList]; exact e1
      rw [List.getElem?_map] at e3
      obtain ⟨d, e4, e5⟩ := Option.map_eq_some_iff.mp e3
      refine ⟨.str [d], by rw [List.getElem?_map, e4]; rfl, .refl _, ?_⟩
      unfold Rep
      rw [e2, ← e5]
      rfl
    · rename_i l
      refine .inr (.inl ⟨env, O, he, Out.mk q fun v H1 r => ?_⟩)
      obtain ⟨ad, vs, rfl, s1, s2⟩ := r.2
      refine ⟨ad, rfl, ⟨vs, hK ▸ s1 env σ H1 O (.refl (he.mono r.1))⟩, h _ _ ⟨r.1, ?_⟩⟩
      rw [← hK]
      refine ⟨_, _, s2.length ▸ walk_tup (K := g.Z.K) (a := ad) (xs := vs), fun env' σ' H' O' k => s1 env' σ' H' O' k, fun i H H' x O' hi hs hv y => YAt_ok s2 (f := fun i => i) (fun _ h => h) hi hs y⟩
    · rename_i l
      refine .inl ⟨env, O, he, Out.mk q fun v H1 r => ?_⟩
      obtain ⟨ad, vs, rfl, s1, s2⟩ := r.2
      refine ⟨ad, rfl, ⟨vs, hK ▸ s1 env σ H1 O (.refl (he.mono r.1))⟩, h _ _ ⟨r.1, ?_⟩⟩
      rw [← hK]
      refine ⟨_, _, s2.length ▸ walk_list (K := g.Z.K) (a := ad) (xs := vs), fun env' σ' H' O' k => s1 env' σ' H' O' k, fun i H H' x O' hi hs hv y => YAt_ok s2 (f := fun i => i) (fun _ h => h) hi hs y⟩
theorem range_at {lo hi : Int} {i : Nat} (h : i < (range1 lo hi).length) : (range1 lo hi)[i]? = some (.int (lo + i)) := by
  unfold range1 at h ⊢
  rw [List.length_map, List.length_range] at h
  rw [List.getElem?_map, List.getElem?_range h]
  rfl
theorem wk_range {lo hi : Int} {m : Nat} (hm : m = (hi - lo).toNat) {env : Env} {σ : L2.St} {O : List Addr} {H1 : Hp} : Wk g M env σ O H1 (range1 lo hi) (Itr lo m) := by
  have hl : m = (range1 lo hi).length := by simp [range1, hm]
  refine ⟨fun _ => True, YFn fun i => .int (lo + i), by rw [← hl]; exact walk_range, fun _ _ _ _ _ => trivial, fun i H H' x O' hi hs hv y => ?_⟩
  obtain ⟨rfl, rfl⟩ := y
  exact ⟨_, range_at hi, .refl _, by simp [Rep]⟩
theorem two_ints {ps : List PV} {l : List PV} (h : pvRng ps = .ok l) : (∃ j, ps = [.int j] ∧ rngOk j = true ∧ l = range1 0 j) ∨ ∃ i j, ps = [.int i, .int j] ∧ rngOk i = true ∧ rngOk j = true ∧ l = range1 i j := by
  unfold pvRng at h
  split at h
  · split at h <;> cases h; exact .inl ⟨_, rfl, by assumption, rfl⟩
  · split at h <;> cases h
    rename_i hh
    simp only [Bool.and_eq_true] at hh
    exact .inr ⟨_, _, rfl, hh.1, hh.2, rfl⟩
  · cases h
theorem rng_b {i : Int} (h : rngOk i = true) : -(2 ^ 62) ≤ i ∧ i < 2 ^ 62 := by
  simp only [rngOk, Bool.and_eq_true, decide_eq_true_eq] at h
  omega
theorem pvRng_nex (l : List PV) (z : Exn) : pvRng l ≠ .ex z := fun h => by
  unfold pvRng at h
  split at h <;> try (cases h; done)
  all_goals split at h <;> cases h
theorem denEs_len {c : Orc} {anc : List (List Nat)} {env : Env} : ∀ {es : List E} {ps : List PV}, denEs c anc es env = .ok ps → ps.length = es.length
  | [], ps, h => by simp only [denEs] at h; cases h; rfl
  | e :: es, ps, h => by
    simp only [denEs] at h
    obtain ⟨x, _, h2⟩ := bind_eq h
    obtain ⟨r, h3, h4⟩ := bind_eq h2
    cases h4
    simp [denEs_len h3]
abbrev okEs (g : Gs) (es' : List E) (H : Hp) (O : List Addr) (env : Env) : List PV → List V → Hp → Prop := fun ps vs H' => Same H H' ∧ Paired (RepB g.Z H' (g.B ++ O)) ps vs ∧ (loneL env es' = true → RepL g.Z (hide H' (g.B ++ O)) ps vs)
theorem si_rng1 {p pos : Pos} (G : GX P w n X s g) (hx : ("range" : Str) ∈ P.blt) (hg : glb s "range" = true) (ha : PA X [a] (tEs g [a'])) (hs : starEach [a] X.env = [(false, eval a X.env)]) : PI X tg (.Call (.Name "range" p) [a] [] pos) (tI g M (.rng [a'])) := by
  refine pi_of (pi_range1 (G.gl (glb_use hg).1) (G.blt _ hx) ha hs) fun σ H R h => ?_
  obtain ⟨env, O, he, h⟩ := h
  refine ⟨env, O, he, Out.bind (ok' := okEs g [a'] H O env) h fun ps eps h => ?_⟩
  intro vs H1 r1
  cases eo : pvRng ps with
  | bad => rw [eo] at h; exact h.elim
  | ex x => exact absurd eo (pvRng_nex _ _)
  | ok l =>
    rw [eo] at h
    rcases two_ints eo with ⟨j, rfl, h1, rfl⟩ | ⟨i, j, rfl, h1, h2, rfl⟩
    · obtain ⟨v, rfl, e1⟩ := one r1.2.1
      have b := rng_b h1
      exact ⟨j, by rw [eq_int e1], b.1, b.2, h _ _ ⟨r1.1, wk_range (by omega)⟩⟩
    · exact absurd (denEs_len eps) (by simp)
theorem si_rng2 {b : Expr} {p pos : Pos} (G : GX P w n X s g) (hx : ("range" : Str) ∈ P.blt) (hg : glb s "range" = true) (ha : PA X [a, b] (tEs g [a', b'])) (hs : starEach [a, b] X.env = [(false, eval a X.env), (false, eval b X.env)]) (hs2 : starEach [b] X.env = [(false, eval b X.env)]) :
    PI X tg (.Call (.Name "range" p) [a, b] [] pos) (tI g M (.rng [a', b'])) := by
  refine pi_of (pi_range2 (G.gl (glb_use hg).1) (G.blt _ hx) ha hs hs2) fun σ H R h => ?_
  obtain ⟨env, O, he, h⟩ := h
  refine ⟨env, O, he, Out.bind (ok' := okEs g [a', b'] H O env) h fun ps eps h => ?_⟩
  intro vs H1 r1
  cases eo : pvRng ps with
  | bad => rw [eo] at h; exact h.elim
  | ex x => exact absurd eo (pvRng_nex _ _)
  | ok l =>
    rw [eo] at h
    rcases two_ints eo with ⟨j, rfl, h1, rfl⟩ | ⟨i, j, rfl, h1, h2, rfl⟩
    · exact absurd (denEs_len eps) (by simp)
    · obtain ⟨v, u, rfl, e1, e2⟩ := two' r1.2.1
      have b1 := rng_b h1
      have b2 := rng_b h2
      exact ⟨i, j, by rw [eq_int e1, eq_int e2], ⟨b1.1, b1.2, b2.1, b2.2⟩, h _ _ ⟨r1.1, wk_range rfl⟩⟩
theorem pair_ok {O : List Addr} {H1 : Hp} {vx vy : Nat → Option V} {l : List PV} {px py : Nat → PV} {i : Nat} {H H' : Hp} {x : V} {O' : List Addr} (hi : i < l.length) (hl : ∀ i, i < l.length → l[i]? = some (.tup [px i, py i]))
    (hx : ∀ v, vx i = some v → Rep g.Z (hide H1 (g.B ++ O)) (px i) v) (hy : ∀ v, vy i = some v → Rep g.Z (hide H1 (g.B ++ O)) (py i) v)
    (hs : Same (hide H1 (g.B ++ O)) (hide H (g.B ++ O'))) (hv : live H (g.B ++ O')) (y : YPair vx vy i H x H') : ∃ p, l[i]? = some p ∧ Same H H' ∧ Rep g.Z (hide H' (g.B ++ O')) p x := by
  obtain ⟨t, u, v, rfl, hn, rfl, e1, e2⟩ := y
  have gt := Got.tup (Z := g.Z) (l := [px i, py i]) (vs := [u, v]) hv hn (.cons ((hx u e1).mono hs) (.cons ((hy v e2).mono hs) .nil))
  exact ⟨_, hl i hi, gt.sm, gt.rep⟩
theorem enum_at {l : List PV} {i : Nat} (h : i < (enum l).length) : (enum l)[i]? = some (.tup [.int (i : Nat), l.getD i .non]) := by
  unfold enum at h ⊢
  simp only [List.length_map, List.length_zipIdx] at h
  rw [List.getElem?_map, List.getElem?_zipIdx]
  simp [h]
theorem enum_len (l : List PV) : (enum l).length = l.length := by simp [enum]
theorem walk_enumT {K : PySem.W.Frag} {ad : Addr} {xs : List V} : Walk (IteT K ad) xs.length (fun H => SqT K H ad xs) (YPair (fun i => some (.int (i : Nat))) (fun i => xs[i]?)) :=
  ⟨fun i _ hi q => ⟨xs, xs[i], q, by simp [hi]⟩, fun _ q => ⟨xs, q, rfl⟩, fun i H v H' _ q y => by
    obtain ⟨T, x, h1, h2, h3, h4⟩ := y
    exact ⟨T, .int (i : Nat), x, h1, h2, h3, rfl, h4 xs q⟩⟩
theorem rep_getD {H : Hp} {l : List PV} {vs : List V} {i : Nat} {v : V} (h : RepL g.Z H l vs) (e : vs[i]? = some v) : Rep g.Z H (l.getD i .non) v := by
  obtain ⟨p, h1, h2⟩ := h.get' e
  rw [List.getD_eq_getElem?_getD, h1]
  exact h2
theorem one_starT {es : List Expr} {env : PySem.Env} (h : starEach (a :: es) env = (false, eval a env) :: starEach es env) (he : es = []) : starEach [a] env = [(false, eval a env)] := by
  subst he; exact h
theorem si_enm {p pos tpos : Pos} {elts : List Expr} {kk : Nat} (G : GX P w n X s g) (hx : ("enumerate" : Str) ∈ P.blt) (hg : glb s "enumerate" = true) (ha : PE X a (tS g M a')) (hs : starEach [a] X.env = [(false, eval a X.env)]) :
    PI X (.Tuple elts kk tpos) (.Call (.Name "enumerate" p) [a] [] pos) (tI g M (.enm a')) := by
  have hK : g.Z.K = X.K := by rw [G.hz]
  have pa : PA X [a] (tCons (tS g M a') tNil) := pa_cons ha pa_nil hs
  refine pi_of (pi_or (pi_enum (G.gl (glb_use hg).1) (G.blt _ hx) pa hs) (pi_enumT (G.gl (glb_use hg).1) (G.blt _ hx) pa hs)) fun σ H R h => ?_
  obtain ⟨env, O, he, h⟩ := h
  simp only [denI] at h
  cases q : denE g.c g.anc a' env with
  | bad => rw [q] at h; exact h.elim
  | ex x =>
    rw [q] at h
    exact .inl ⟨env, O, he, by rw [q]; exact h⟩
  | ok p =>
    rw [q] at h
    replace h : Out g σ H O ((seqR p).bind fun l => .ok (enum l)) (fun l J H' => Same H H' ∧ Wk g M env σ O H' l J) R := h
    cases p <;> simp only [seqR, seqOf] at h <;> try exact h.elim
    · rename_i l
      refine .inr ⟨env, O, he, Out.mk q fun v H1 r => ?_⟩
      obtain ⟨ad, vs, rfl, s1, s2⟩ := r.2
      refine ⟨ad, vs, rfl, hK ▸ s1 env σ H1 O (.refl (he.mono r.1)), h _ _ ⟨r.1, ?_⟩⟩
      rw [← hK]
      refine ⟨fun H => SqT g.Z.K H ad vs, YPair (fun i => some (.int (i : Nat))) (fun i => vs[i]?), by rw [enum_len, ← s2.length]; exact walk_enumT, fun env' σ' H' O' k => s1 env' σ' H' O' k, fun i H H' x O' hi hs hv y => ?_⟩
      exact pair_ok (px := fun i => .int (i : Nat)) (py := fun i => l.getD i .non) hi (fun i hi => enum_at hi) (fun v e => by cases e; simp [Rep]) (fun v e => rep_getD s2 e) hs hv y
    · rename_i l
      refine .inl ⟨env, O, he, Out.mk q fun v H1 r => ?_⟩
      obtain ⟨ad, vs, rfl, s1, s2⟩ := r.2
      refine ⟨ad, vs, rfl, hK ▸ s1 env σ H1 O (.refl (he.mono r.1)), h _ _ ⟨r.1, ?_⟩⟩
      rw [← hK]
      refine ⟨fun H => SqL g.Z.K H ad vs, YPair (fun i => some (.int (i : Nat))) (fun i => vs[i]?), by rw [enum_len, ← s2.length]; exact walk_enum, fun env' σ' H' O' k => s1 env' σ' H' O' k, fun i H H' x O' hi hs hv y => ?_⟩
      exact pair_ok (px := fun i => .int (i : Nat)) (py := fun i => l.getD i .non) hi (fun i hi => enum_at hi) (fun v e => by cases e; simp [Rep]) (fun v e => rep_getD s2 e) hs hv y
theorem pairs_len (l r : List PV) : (pairs l r).length = min l.length r.length := by simp [pairs]
theorem pairs_at {l r : List PV} {i : Nat} (h : i < (pairs l r).length) : (pairs l r)[i]? = some (.tup [l.getD i .non, r.getD i .non]) := by
  rw [pairs_len] at h
  have h1 : i < l.length := by omega
  have h2 : i < r.length := by omega
  unfold pairs
  rw [List.getElem?_map, List.getElem?_zip_eq_some (z := (l[i], r[i])) |>.mpr ⟨List.getElem?_eq_getElem h1, List.getElem?_eq_getElem h2⟩]
  simp [h1, h2]
theorem walk_zipT {K : PySem.W.Frag} {ad bd : Addr} {xs ys : List V} {m : Nat} (hn : m = min xs.length ys.length) : Walk (RZ.ItzT K ad bd) m (fun H => SqT K H ad xs ∧ SqT K H bd ys) (YPair (fun i => xs[i]?) (fun i => ys[i]?)) := by
  subst hn
  refine ⟨fun i _ hi q => ?_, fun _ q => ⟨xs, ys, q.1, q.2, by omega⟩, fun i H v H' _ q y => ?_⟩
  · have h1 : i < xs.length := by omega
    have h2 : i < ys.length := by omega
    exact ⟨xs, ys, xs[i], ys[i], q.1, q.2, by simp [h1], by simp [h2]⟩
  · obtain ⟨T, x, z, h1, h2, h3, h4, h5⟩ := y
    exact ⟨T, x, z, h1, h2, h3, h4 xs q.1, h5 ys q.2⟩
theorem Src.later {env : Env} {σ : L2.St} {O : List Addr} {p : PV} {v : V} {H H' : Hp} (he : g.env σ H O env) (h : Src g M env σ O p v H) (e : Same H H') : Src g M env σ O p v H' := by
  have key : ∀ {env2 : Env} {σ2 : L2.St} {H2 : Hp} {O2 : List Addr}, Kp M g.B env σ H' O env2 σ2 H2 O2 → Kp M g.B env σ H O env2 σ2 H2 O2 := fun k => (Kp.same he e).trans k
  cases p with
  | lst l => obtain ⟨ad, vs, e1, h1, h2⟩ := h; exact ⟨ad, vs, e1, fun env' σ' H' O' k => h1 env' σ' H' O' (key k), h2.mono (hide_same _ e)⟩
  | tup l => obtain ⟨ad, vs, e1, h1, h2⟩ := h; exact ⟨ad, vs, e1, fun env' σ' H' O' k => h1 env' σ' H' O' (key k), h2.mono (hide_same _ e)⟩
  | dct l => obtain ⟨ad, es, e1, h1, h2, h3⟩ := h; exact ⟨ad, es, e1, fun env' σ' H' O' k => h1 env' σ' H' O' (key k), h2, RepD.mono (hide_same _ e) _ _ h3⟩
  | _ => exact Rep.mono (hide_same _ e) _ _ h
theorem zipR_cases {p q : PV} {l : List PV} (h : zipR p q = .ok l) : (∃ x y, p = .lst x ∧ q = .lst y ∧ l = pairs x y) ∨ ∃ x y, p = .tup x ∧ q = .tup y ∧ l = pairs x y := by
  unfold zipR at h
  split at h <;> cases h
  · exact .inl ⟨_, _, rfl, rfl, rfl⟩
  · exact .inr ⟨_, _, rfl, rfl, rfl⟩
theorem zipR_nex (p q : PV) (z : Exn) : zipR p q ≠ .ex z := fun h => by
  unfold zipR at h
  split at h <;> cases h
theorem si_zip {b : Expr} {p pos tpos : Pos} {elts : List Expr} {kk : Nat} (G : GX P w n X s g) (hx : ("zip" : Str) ∈ P.blt) (hg : glb s "zip" = true) (ha : PE X a (tS g M a')) (hb : PE X b (tS g M b'))
    (hs : starEach [a, b] X.env = (false, eval a X.env) :: starEach [b] X.env) (hs2 : starEach [b] X.env = [(false, eval b X.env)]) (hpl : (backTo pos (starEach [b] X.env)).any (·.1) = false) :
    PI X (.Tuple elts kk tpos) (.Call (.Name "zip" p) [a, b] [] pos) (tI g M (.zip a' b')) := by
  have hK : g.Z.K = X.K := by rw [G.hz]
  have pa : PA X [a, b] (tCons (tS g M a') (tCons (tS g M b') tNil)) := pa_cons ha (pa_cons hb pa_nil hs2) hs
  refine pi_of (RZ.pi_zipA (G.gl (glb_use hg).1) (G.blt _ hx) pa hs hpl) fun σ H R h => ?_
  obtain ⟨env, O, he, h⟩ := h
  simp only [denI] at h
  refine ⟨env, O, he, Out.bind (ok' := fun p v H' => Same H H' ∧ Src g M env σ O p v H') h fun p ep h => ?_⟩
  intro x H1 r1
  refine ⟨env, O, he.mono r1.1, Out.bind (ok' := fun p v H' => Same H1 H' ∧ Src g M env σ O p v H') (h.later (ok' := fun l J H' => Same H H' ∧ Wk g M env σ O H' l J) r1.1 fun _ _ _ _ z => z) fun q eq h => ?_⟩
  intro y H2 r2
  have he2 := (he.mono r1.1).mono r2.1
  have sx := r1.2.later (he.mono r1.1) r2.1
  cases eo : zipR p q with
  | bad => rw [eo] at h; exact h.elim
  | ex z => exact absurd eo (zipR_nex _ _ _)
  | ok l =>
    rw [eo] at h
    rcases zipR_cases eo with ⟨lx, ly, rfl, rfl, rfl⟩ | ⟨lx, ly, rfl, rfl, rfl⟩
    · obtain ⟨ad, vs, rfl, s1, s2⟩ := sx
      obtain ⟨bd, us, rfl, t1, t2⟩ := r2.2
      refine ⟨ad, bd, vs, us, rfl, .inl ⟨hK ▸ s1 env σ H2 O (.refl he2), hK ▸ t1 env σ H2 O (.refl he2), h _ _ ⟨r1.1.trans r2.1, ?_⟩⟩⟩
      rw [← hK]
      refine ⟨fun H => SqL g.Z.K H ad vs ∧ SqL g.Z.K H bd us, YPair (fun i => vs[i]?) (fun i => us[i]?), walk_zip (by rw [pairs_len, s2.length, t2.length]), fun env' σ' H' O' k => ⟨s1 env' σ' H' O' k, t1 env' σ' H' O' k⟩, fun i H H' x O' hi hs hv y => ?_⟩
      exact pair_ok (px := fun i => lx.getD i .non) (py := fun i => ly.getD i .non) hi (fun i hi => pairs_at hi) (fun v e => rep_getD s2 e) (fun v e => rep_getD t2 e) hs hv y
    · obtain ⟨ad, vs, rfl, s1, s2⟩ := sx
      obtain ⟨bd, us, rfl, t1, t2⟩ := r2.2
      refine ⟨ad, bd, vs, us, rfl, .inr ⟨hK ▸ s1 env σ H2 O (.refl he2), hK ▸ t1 env σ H2 O (.refl he2), h _ _ ⟨r1.1.trans r2.1, ?_⟩⟩⟩
      rw [← hK]
      refine ⟨fun H => SqT g.Z.K H ad vs ∧ SqT g.Z.K H bd us, YPair (fun i => vs[i]?) (fun i => us[i]?), walk_zipT (by rw [pairs_len, s2.length, t2.length]), fun env' σ' H' O' k => ⟨s1 env' σ' H' O' k, t1 env' σ' H' O' k⟩, fun i H H' x O' hi hs hv y => ?_⟩
      exact pair_ok (px := fun i => lx.getD i .non) (py := fun i => ly.getD i .non) hi (fun i hi => pairs_at hi) (fun v e => rep_getD s2 e) (fun v e => rep_getD t2 e) hs hv y
theorem walk_revT {K : PySem.W.Frag} {ad : Addr} {xs : List V} : Walk (RT.ItvT K ad xs.length) xs.length (fun H => SqT K H ad xs) (fun i H x H' => H' = H ∧ xs[xs.length - 1 - i]? = some x) :=
  ⟨fun i _ hi q => ⟨hi, xs, xs[xs.length - 1 - i]'(by omega), q, by simp [show xs.length - 1 - i < xs.length by omega]⟩, fun _ _ => Nat.le_refl _, fun _ _ _ _ _ q y => ⟨y.1, y.2 xs q⟩⟩
theorem rev_at {l : List PV} {i : Nat} (h : i < l.reverse.length) : l.reverse[i]? = l[l.length - 1 - i]? := by
  rw [List.length_reverse] at h
  rw [List.getElem?_reverse h]
theorem si_rev {p pos : Pos} (G : GX P w n X s g) (hx : ("reversed" : Str) ∈ P.blt) (hg : glb s "reversed" = true) (ha : PE X a (tS g M a')) (hs : starEach [a] X.env = (false, eval a X.env) :: starEach [] X.env) :
    PI X tg (.Call (.Name "reversed" p) [a] [] pos) (tI g M (.rev a')) := by
  have hK : g.Z.K = X.K := by rw [G.hz]
  refine pi_of (RT.pi_revA (G.gl (glb_use hg).1) (G.blt _ hx) ha hs) fun σ H R h => ?_
  obtain ⟨env, O, he, h⟩ := h
  simp only [denI] at h
  refine ⟨env, O, he, Out.bind (ok' := fun p v H' => Same H H' ∧ Src g M env σ O p v H') h fun p ep h => ?_⟩
  intro x H1 r1
  cases p <;> simp only [seqR, seqOf] at h <;> try exact h.elim
  · rename_i l
    obtain ⟨ad, vs, rfl, s1, s2⟩ := r1.2
    refine ⟨ad, vs, rfl, .inr ⟨hK ▸ s1 env σ H1 O (.refl (he.mono r1.1)), h _ _ ⟨r1.1, ?_⟩⟩⟩
    rw [← hK]
    refine ⟨fun H => SqT g.Z.K H ad vs, fun i H x H' => H' = H ∧ vs[vs.length - 1 - i]? = some x, by rw [List.length_reverse, ← s2.length]; exact walk_revT, fun env' σ' H' O' k => s1 env' σ' H' O' k, fun i H H' x O' hi hs hv y => ?_⟩
    rw [rev_at hi]
    rw [List.length_reverse] at hi
    rw [s2.length] at y
    exact YAt_ok s2 (f := fun i => l.length - 1 - i) (fun i hi => by omega) hi hs y
  · rename_i l
    obtain ⟨ad, vs, rfl, s1, s2⟩ := r1.2
    refine ⟨ad, vs, rfl, .inl ⟨hK ▸ s1 env σ H1 O (.refl (he.mono r1.1)), h _ _ ⟨r1.1, ?_⟩⟩⟩
    rw [← hK]
    refine ⟨fun H => SqL g.Z.K H ad vs, fun i H x H' => H' = H ∧ vs[vs.length - 1 - i]? = some x, by rw [List.length_reverse, ← s2.length]; exact walk_rev, fun env' σ' H' O' k => s1 env' σ' H' O' k, fun i H H' x O' hi hs hv y => ?_⟩
    rw [rev_at hi]
    rw [List.length_reverse] at hi
    rw [s2.length] at y
    exact YAt_ok s2 (f := fun i => l.length - 1 - i) (fun i hi => by omega) hi hs y
theorem wk_rrange {lo hi : Int} {m : Nat} (hm : m = (hi - lo).toNat) {env : Env} {σ : L2.St} {O : List Addr} {H1 : Hp} : Wk g M env σ O H1 (range1 lo hi).reverse (Itc (lo + ((m : Nat) : Int) - 1) (-1) m) := by
  have hl : m = (range1 lo hi).length := by simp [range1, hm]
  refine ⟨fun _ => True, YFn fun i => .int (lo + ((m : Nat) : Int) - 1 + (i : Nat) * (-1)), by rw [List.length_reverse, ← hl]; exact walk_rangeC, fun _ _ _ _ _ => trivial, fun i H H' x O' hil hs hv y => ?_⟩
  obtain ⟨rfl, rfl⟩ := y
  rw [rev_at hil]
  rw [List.length_reverse] at hil
  rw [range_at (by omega)]
  refine ⟨_, rfl, .refl _, ?_⟩
  have : lo + ((m : Nat) : Int) - 1 + (i : Nat) * (-1) = lo + (((range1 lo hi).length - 1 - i : Nat) : Int) := by rw [← hl]; omega
  unfold Rep
  show V.int (lo + ((m : Nat) : Int) - 1 + (i : Nat) * (-1)) = _
  rw [this]
theorem si_rrg1 {p pos q pos2 : Pos} (G : GX P w n X s g) (hx : ("reversed" : Str) ∈ P.blt) (hg : glb s "reversed" = true) (hx2 : ("range" : Str) ∈ P.blt) (hg2 : glb s "range" = true) (ha : PE X a (tE g a')) (na : starEach [a] X.env = (false, eval a X.env) :: starEach [] X.env) :
    PI X tg (.Call (.Name "reversed" p) [.Call (.Name "range" q) [a] [] pos2] [] pos) (tI g M (.rrg [a'])) := by
  refine pi_of (pi_revR (G.gl (glb_use hg).1) (G.blt _ hx) (prg_1 (G.gl (glb_use hg2).1) (G.blt _ hx2) ha na)) fun σ H R h => ?_
  obtain ⟨env, O, he, h⟩ := h
  simp only [denI, denEs] at h
  refine ⟨env, O, he, ?_⟩
  cases qd : denE g.c g.anc a' env with
  | bad => rw [qd] at h; exact h.elim
  | ex x => rw [qd] at h; exact h
  | ok v =>
    rw [qd] at h
    replace h : Out g σ H O ((pvRng [v]).bind fun r => .ok r.reverse) (fun l J H' => Same H H' ∧ Wk g M env σ O H' l J) R := h
    intro x H1 r1
    cases eo : pvRng [v] with
    | bad => rw [eo] at h; exact h.elim
    | ex x => exact absurd eo (pvRng_nex _ _)
    | ok l =>
      rw [eo] at h
      rcases two_ints eo with ⟨j, ej, h1, rfl⟩ | ⟨i, j, ej, _⟩
      · cases ej
        have b := rng_b h1
        exact ⟨j, eq_int r1.brw, by decide, by decide, b.1, b.2, h _ _ ⟨r1.sm, wk_rrange (lo := 0) (hi := j) rfl⟩⟩
      · cases ej
theorem si_rrg2 {b : Expr} {p pos q pos2 : Pos} (G : GX P w n X s g) (hx : ("reversed" : Str) ∈ P.blt) (hg : glb s "reversed" = true) (hx2 : ("range" : Str) ∈ P.blt) (hg2 : glb s "range" = true) (ha : PE X a (tE g a')) (hb : PE X b (tE g b')) (na : starEach [a, b] X.env = (false, eval a X.env) :: starEach [b] X.env) (nb : starEach [b] X.env = (false, eval b X.env) :: starEach [] X.env) (hpl : (backTo pos2 (starEach [b] X.env)).any (·.1) = false) :
    PI X tg (.Call (.Name "reversed" p) [.Call (.Name "range" q) [a, b] [] pos2] [] pos) (tI g M (.rrg [a', b'])) := by
  refine pi_of (pi_revR (G.gl (glb_use hg).1) (G.blt _ hx) (prg_2 (G.gl (glb_use hg2).1) (G.blt _ hx2) ha hb na nb hpl)) fun σ H R h => ?_
  obtain ⟨env, O, he, h⟩ := h
  simp only [denI, denEs] at h
  refine ⟨env, O, he, ?_⟩
  cases qd : denE g.c g.anc a' env with
  | bad => rw [qd] at h; exact h.elim
  | ex x => rw [qd] at h; exact h
  | ok v =>
    rw [qd] at h
    intro x H1 r1
    refine ⟨env, O, he.mono r1.sm, ?_⟩
    cases qe : denE g.c g.anc b' env with
    | bad => rw [qe] at h; exact h.elim
    | ex x => rw [qe] at h; exact fun C d H' sm k => h C d H' (r1.sm.trans sm) k
    | ok u =>
      rw [qe] at h
      replace h : Out g σ H O ((pvRng [v, u]).bind fun r => .ok r.reverse) (fun l J H' => Same H H' ∧ Wk g M env σ O H' l J) R := h
      intro y H2 r2
      cases eo : pvRng [v, u] with
      | bad => rw [eo] at h; exact h.elim
      | ex x => exact absurd eo (pvRng_nex _ _)
      | ok l =>
        rw [eo] at h
        rcases two_ints eo with ⟨j, ej, _⟩ | ⟨i, j, ej, h1, h2, rfl⟩
        · cases ej
        · cases ej
          have b1 := rng_b h1
          have b2 := rng_b h2
          exact ⟨i, j, eq_int r1.brw, eq_int r2.brw, b1.1, b1.2, b2.1, b2.2, h _ _ ⟨r1.sm.trans r2.sm, wk_rrange (lo := i) (hi := j) rfl⟩⟩
end
end G
namespace G
open PySem PySem.Spec PyProof.Rows L2

/-! ### a comprehension's block -/
section
variable {Z : Zd} {H0 : Hp} {B : List Addr} {EX : ExP} {σ : L2.St} {H : Hp} {O : List Addr} {env : Env}
theorem EnvRep.unset (he : EnvRep Z H0 B EX σ H O env) (i : Nat) : EnvRep Z H0 B EX (σ.set i none) H O (env.set i .un) := by
  refine ⟨by simp [he.len], fun j s e => ?_, fun j k a hjk h1 h2 e1 => ?_, he.o0, he.od, he.b0, he.sm⟩
  · by_cases hj : j = i
    · subst hj
      by_cases hi : j < env.length
      · rw [List.getElem?_set_self hi] at e
        cases e
        rw [List.getElem?_set_self (by rw [he.len]; exact hi)]
        exact rfl
      · rw [List.getElem?_eq_none (by simpa using hi)] at e
        cases e
    · rw [List.getElem?_set_ne (Ne.symm hj)] at e ⊢
      exact he.slot j s e
  · have no : ∀ j, owned (env.set i .un) j = true → j ≠ i := fun j h z => by
      subst z
      unfold owned at h
      by_cases hi : j < env.length
      · rw [List.getElem?_set_self hi] at h; cases h
      · rw [List.getElem?_eq_none (by simpa using hi)] at h; cases h
    have n1 := no j h1
    have n2 := no k h2
    rw [owned_set n1] at h1
    rw [owned_set n2] at h2
    rw [List.getElem?_set_ne (Ne.symm n1)] at e1
    rw [List.getElem?_set_ne (Ne.symm n2)]
    exact he.dis j k a hjk h1 h2 e1
theorem EnvRep.wipe (he : EnvRep Z H0 B EX σ H O env) : ∀ vs : List Nat, EnvRep Z H0 B EX (L2.wipe σ vs) H O (wipeE env vs)
  | [] => he
  | v :: vs => (he.wipe vs).unset v
/-- one more owned place that no slot holds -/
theorem EnvRep.more {p : Addr} (he : EnvRep Z H0 B EX σ H O env) (h0 : H0 p = none) (hp : H p ≠ none) (hsm : ∀ b o, hide H (B ++ O) b = some o → b ≠ p) : EnvRep Z H0 B EX σ H (p :: O) env := by
  have key : Same (hide H (B ++ O)) (hide H (B ++ (p :: O))) := fun b o e => by
    have hb := hsm b o e
    obtain ⟨h1, h2⟩ := hide_some.mp e
    exact hide_some.mpr ⟨by simp only [List.mem_append, List.mem_cons, not_or] at h1 ⊢; exact ⟨h1.1, hb, h1.2⟩, h2⟩
  refine ⟨he.len, fun j s e => ?_, he.dis, fun a ha => ?_, fun a ha => ?_, he.b0, he.sm⟩
  · have r := he.slot j s e
    cases s with
    | un => exact r
    | sh q => obtain ⟨v, h1, h2⟩ := r; exact ⟨v, h1, h2.mono key⟩
    | ol l => obtain ⟨a, vs, h1, h2, h3, h4⟩ := r; exact ⟨a, vs, h1, List.mem_cons_of_mem _ h2, h3, h4.mono key⟩
    | od l => obtain ⟨a, es, h1, h2, h3, h4, h5⟩ := r; exact ⟨a, es, h1, List.mem_cons_of_mem _ h2, h3, h4, RepD.mono key _ _ h5⟩
    | exn x => obtain ⟨a, h1, h2⟩ := r; exact ⟨a, h1, EX.mono _ _ _ _ key h2⟩
  · rcases List.mem_cons.mp ha with rfl | ha
    · exact h0
    · exact he.o0 a ha
  · rcases List.mem_cons.mp ha with rfl | ha
    · exact hp
    · exact he.od a ha
end
theorem wipe_get (σ : L2.St) (i : Nat) : ∀ vs : List Nat, (L2.wipe σ vs)[i]? = if i ∈ vs then (if i < σ.length then some none else none) else σ[i]?
  | [] => by simp [L2.wipe]
  | v :: vs => by
    unfold L2.wipe
    by_cases h : i = v
    · subst h
      by_cases hl : i < σ.length
      · rw [List.getElem?_set_self (by rw [wipe_length]; exact hl)]
        simp [hl]
      · rw [List.getElem?_eq_none (by rw [List.length_set, wipe_length]; omega)]
        simp [hl]
    · rw [List.getElem?_set_ne (Ne.symm h), wipe_get σ i vs]
      simp [h]
theorem wipe_eq {σ σ2 : L2.St} {vs : List Nat} (hl : σ2.length = σ.length) (h : ∀ i, i ∉ vs → σ2[i]? = (L2.wipe σ vs)[i]?) : L2.wipe σ2 vs = L2.wipe σ vs := by
  refine List.ext_getElem? fun i => ?_
  rw [wipe_get, wipe_get]
  by_cases hi : i ∈ vs
  · rw [if_pos hi, if_pos hi, hl]
  · rw [if_neg hi, if_neg hi, h i hi, wipe_get, if_neg hi]
theorem noEx_ok {α : Type} {r : G.R α} {a : α} (h : noEx r = .ok a) : r = .ok a := by
  cases r with
  | ok b => exact h
  | ex x => cases h
  | bad => cases h
theorem lcL_nex {asn : PV → Env → Option Env} {tst : Env → G.R Bool} {elt : Env → G.R PV} {env : Env} : ∀ (l : List PV) (z : Exn), lcL asn tst elt env l ≠ .ex z
  | [], z, h => by cases h
  | p :: ps, z, h => by
    have ne : ∀ {α : Type} (r : G.R α) (z : Exn), noEx r ≠ .ex z := fun r z h => by cases r <;> cases h
    unfold lcL at h
    split at h
    · cases h
    · refine bindx (ne _) (fun b z h => ?_) z h
      split at h
      · exact bindx (ne _) (fun v z h => bindx (lcL_nex ps) (fun _ _ h => by cases h) z h) z h
      · exact lcL_nex ps z h
def tstF (c : Orc) (anc : List (List Nat)) (tst : Option E) (e1 : Env) : G.R Bool := match tst with
  | some q => (denE c anc q e1).bind truth
  | none => .ok true
def eltF (c : Orc) (anc : List (List Nat)) (e : E) (e1 : Env) : G.R PV := guardX (lone e1 e) (denE c anc e e1)
mutual
theorem asg_len : ∀ (t : T) (p : PV) (env env' : Env), asg t p env = some env' → env'.length = env.length
  | .one i, p, env, env', h => by
    simp only [asg] at h
    split at h <;> cases h
    simp
  | .many ts, p, env, env', h => by
    cases p <;> simp only [asg, reduceCtorEq] at h
    exact asgL_lenE ts _ env env' h
theorem asgL_lenE : ∀ (ts : List T) (ps : List PV) (env env' : Env), asgL ts ps env = some env' → env'.length = env.length
  | [], [], env, env', h => by simp only [asgL, Option.some.injEq] at h; rw [h]
  | [], _ :: _, _, _, e => by simp [asgL] at e
  | _ :: _, [], _, _, e => by simp [asgL] at e
  | t :: ts, p :: ps, env, env', h => by
    simp only [asgL] at h
    split at h
    · rename_i e1 q
      rw [asgL_lenE ts ps e1 env' h, asg_len t p env e1 q]
    · cases h
end
def tT (g : Gs) : Option E → TT
  | none => tYes
  | some q => G.tB g q
abbrev Gs.cold (g : Gs) : Gs := { g with W := fun _ _ _ _ => False }
section
variable {P : PInf} {w n : Nat} {X : Cx} {s : SC} {g : Gs} {tg iter elt : Expr} {ifs : List Expr} {scope : Scope} {own : List (Str × Nat)} {t : T} {it : I} {tst : Option E} {e' : E} {pos : Pos}
theorem GX.blk (G : GX P w n X s g) (hh : s.hot = false) {s0 : Shared} {H : Hp} {cl : List (Str × Addr)} {C : Addr} {fp : List Addr} : GX P w n (X.blk s0 H scope (compEnvC scope cl C X.env) fp) ⟨s.N, relS scope s.sc, false⟩ g.cold where
  hN := G.hN
  nd := G.nd
  hsc := by rw [← G.hsc]; rfl
  calm := fun _ => G.calm hh
  room := fun _ => G.room hh
  un := G.un
  gd := G.gd
  hz := G.hz
  hc := fun _ => G.hc hh
  hcH := fun z => by cases z
  ha := G.ha
  tk := takes0
  fns := fun _ => G.fns hh
  cns := G.cns
  blt := G.blt
  dl := G.dl
  gcd := G.gcd
  cls := G.cls
  exx := fun _ => G.exx hh
  exh := fun z => by cases z
theorem lc_step {asn : PV → Env → Option Env} {f : Env → G.R Bool} {el : Env → G.R PV} {env : Env} {p : PV} {ps r : List PV} (h : lcL asn f el env (p :: ps) = .ok r) :
    ∃ e1 b, asn p env = some e1 ∧ f e1 = .ok b ∧ ((b = true ∧ ∃ v r', el e1 = .ok v ∧ lcL asn f el env ps = .ok r' ∧ r = v :: r') ∨ (b = false ∧ lcL asn f el env ps = .ok r)) := by
  unfold lcL at h
  split at h
  · cases h
  · rename_i e1 q
    obtain ⟨b, h1, h2⟩ := bind_eq h
    refine ⟨e1, b, q, noEx_ok h1, ?_⟩
    cases b with
    | true =>
      rw [if_pos rfl] at h2
      obtain ⟨v, h3, h4⟩ := bind_eq h2
      obtain ⟨r', h5, h6⟩ := bind_eq h4
      cases h6
      exact .inl ⟨rfl, v, r', noEx_ok h3, h5, rfl⟩
    | false =>
      rw [if_neg (by decide)] at h2
      exact .inr ⟨rfl, h2⟩
/-- behind some turns of a comprehension: D the new list -/
structure LcSt (g : Gs) (vs : List Nat) (env : Env) (σ : L2.St) (O : List Addr) (H1 : Hp) (D : Addr) (rest : G.R (List PV)) (r : List PV) (H : Hp) : Prop where
  sm : Same H1 H
  fin : ∃ acc ws rst, rest = .ok rst ∧ acc ++ rst = r ∧ H D = some (.lst ws) ∧ RepL g.Z (hide H (g.B ++ (D :: O))) acc ws
theorem lc_in (hv : ∀ i ∈ tvs t, i ∈ own.map (·.2)) (K : PySem.W.Frag) (hK : g.Z.K = K) {σ : L2.St} {H : Hp} {Q : VK} (h : tE g (.lc (own.map (·.2)) t it tst e') σ H Q) :
    tLc (tI g [] it) (tgt K t) (tT g.cold tst) (tE g.cold e') (own.map (·.2)) σ H Q := by
  subst hK
  obtain ⟨env, O, he, h⟩ := h
  simp only [denE] at h
  refine ⟨env, O, he, Out.bind h fun l el h => ?_⟩
  intro J H1 r1 D hD
  obtain ⟨sm1, Gd, Y, wk, hGd, hY⟩ := r1
  generalize hvs : own.map (·.2) = vs at *
  replace h : Out g σ H O ((lcL (asg t) (tstF g.c g.anc tst) (eltF g.c g.anc e') (wipeE env vs) l).bind fun r => if r.length < lineMax then G.R.ok (PV.lst r) else .bad) (ResP g H O env (.lc vs t it tst e')) Q := h
  have he1 := he.mono sm1
  cases eo : lcL (asg t) (tstF g.c g.anc tst) (eltF g.c g.anc e') (wipeE env vs) l with
  | bad => rw [eo] at h; exact h.elim
  | ex x => exact absurd eo (lcL_nex _ _)
  | ok r =>
    rw [eo] at h
    replace h : Out g σ H O (if r.length < lineMax then G.R.ok (PV.lst r) else .bad) (ResP g H O env (.lc vs t it tst e')) Q := h
    have hlen : r.length < lineMax := by
      by_cases hl : r.length < lineMax
      · exact hl
      · rw [if_neg hl] at h; exact h.elim
    rw [if_pos hlen] at h
    have live1 := he1.live
    have nD : D ∉ g.B ++ O := fun z => live1 D z hD
    have h0D : g.H0 D = none := he1.sm.free hD
    -- the slots in the block, D hidden
    have slotsAt : ∀ {H2 : Hp}, Same H1 H2 → H2 D ≠ none → EnvRep g.Z g.H0 g.B g.EX (L2.wipe σ vs) H2 (D :: O) (wipeE env vs) := fun {H2} e ne => by
      have hb : EnvRep g.Z g.H0 g.B g.EX (L2.wipe σ vs) H1 O (wipeE env vs) := he1.wipe vs
      have key : Same (hide H1 (g.B ++ O)) (hide H2 (g.B ++ (D :: O))) := fun b o q => by
        obtain ⟨q1, q2⟩ := hide_some.mp q
        refine hide_some.mpr ⟨?_, e _ _ q2⟩
        simp only [List.mem_append, List.mem_cons, not_or] at q1 ⊢
        exact ⟨q1.1, ne_of_none q2 hD, q1.2⟩
      refine ⟨hb.len, fun j sl q => ?_, hb.dis, fun a ha => ?_, fun a ha => ?_, hb.b0, hb.sm.trans e⟩
      · have rr := hb.slot j sl q
        cases sl with
        | un => exact rr
        | sh q => obtain ⟨v, h1, h2⟩ := rr; exact ⟨v, h1, h2.mono key⟩
        | ol l => obtain ⟨a, us, h1, h2, h3, h4⟩ := rr; exact ⟨a, us, h1, List.mem_cons_of_mem _ h2, e _ _ h3, h4.mono key⟩
        | od l => obtain ⟨a, es, h1, h2, h3, h4, h5⟩ := rr; exact ⟨a, es, h1, List.mem_cons_of_mem _ h2, e _ _ h3, h4, RepD.mono key _ _ h5⟩
        | exn x => obtain ⟨a, h1, h2⟩ := rr; exact ⟨a, h1, g.EX.mono _ _ _ _ key h2⟩
      · rcases List.mem_cons.mp ha with rfl | ha
        · exact h0D
        · exact hb.o0 a ha
      · rcases List.mem_cons.mp ha with rfl | ha
        · exact ne
        · exact fun z => hb.od a ha (e.free z)
    have pubAt : ∀ {H2 : Hp}, Same H1 H2 → Same (hide H1 (g.B ++ O)) (hide H2 (g.B ++ (D :: O))) := fun {H2} e b o q => by
      obtain ⟨q1, q2⟩ := hide_some.mp q
      refine hide_some.mpr ⟨?_, e _ _ q2⟩
      simp only [List.mem_append, List.mem_cons, not_or] at q1 ⊢
      exact ⟨q1.1, ne_of_none q2 hD, q1.2⟩
    let rst := fun i => lcL (asg t) (tstF g.c g.anc tst) (eltF g.c g.anc e') (wipeE env vs) (l.drop i)
    refine lc_it wk (Qd := Q (.ref D)) (fun i H2 => LcSt g vs env σ O H1 D (rst i) r H2) ?_ (fun i H2 hi st => ?_) (fun i x H2 H3 hi st y => ?_) (fun H2 st => ?_)
    · exact ⟨same_upd hD, [], [], r, eo, rfl, upd_same, .nil⟩
    · refine hGd env σ H2 (D :: O) ⟨pubAt st.sm, fun _ _ => rfl, fun _ _ => rfl, fun j a _ ho e => ?_⟩
      obtain ⟨a', ob, q2, q3, q4⟩ := owned_addr he1 ho
      rw [q2] at e; cases e
      exact ⟨List.mem_cons_of_mem _ q3, by rw [q4, st.sm _ _ q4]⟩
    · obtain ⟨sm2, acc, ws, rs, e1, e2, e3, e4⟩ := st
      have ne2 : H2 D ≠ none := by rw [e3]; exact fun z => nomatch z
      have se2 := slotsAt sm2 ne2
      obtain ⟨p, p1, p2, p3⟩ := hY i H2 x H3 (D :: O) hi (pubAt sm2) se2.live y
      have hd : l.drop i = p :: l.drop (i + 1) := by
        obtain ⟨hi', ep⟩ := List.getElem?_eq_some_iff.mp p1
        rw [List.drop_eq_getElem_cons hi', ep]
      have e1' : lcL (asg t) (tstF g.c g.anc tst) (eltF g.c g.anc e') (wipeE env vs) (p :: l.drop (i + 1)) = .ok rs := by rw [← hd]; exact e1
      obtain ⟨en1, b, q1, q2, q3⟩ := lc_step e1'
      have ne3 : H3 D ≠ none := by rw [p2 _ _ e3]; exact fun z => nomatch z
      have se3 := slotsAt (sm2.trans p2) ne3
      refine asg_ok t p x (L2.wipe σ vs) (wipeE env vs) en1 se3 p3 q1 _ fun σ2 he2 k2 => ?_
      refine ⟨wipe_eq (by rw [he2.len]; have := se3.len; rw [wipe_length] at this; rw [this]; exact (asg_len _ _ _ _ q1)) fun j hj => k2.slots j fun z => hj (hv j z), ?_⟩
      -- the test
      have hb : ∀ (c : Bool) (H4 : Hp), (Same H3 H4 ∧ c = b) → (if c = true then tE g.cold e' σ2 H4 fun y H5 => ∃ acc, H5 D = some (.lst acc) ∧ acc.length < sizeLine ∧ LcSt g vs env σ O H1 D (rst (i + 1)) r (upd H5 D (.lst (acc ++ [y]))) else LcSt g vs env σ O H1 D (rst (i + 1)) r H4) := by
        rintro c H4 ⟨s4, rfl⟩
        cases c with
        | false =>
          rw [if_neg (by decide)]
          rcases q3 with ⟨z, _⟩ | ⟨_, q3⟩
          · cases z
          · exact ⟨(sm2.trans p2).trans s4, acc, ws, rs, q3, e2, s4 _ _ (p2 _ _ e3), (e4.mono (hide_same _ (p2.trans s4)))⟩
        | true =>
          rw [if_pos rfl]
          rcases q3 with ⟨_, v, r', q4, q5, q6⟩ | ⟨z, _⟩
          · unfold eltF guardX at q4
            split at q4
            · rename_i hlone
              refine ⟨en1, D :: O, he2.mono s4, Out.mk q4 fun y' H5 r5 => ?_⟩
              have s5 := (p2.trans s4).trans r5.sm
              have e5 : H5 D = some (.lst ws) := s5 _ _ e3
              refine ⟨ws, e5, ?_, ⟨fun bb o q => ?_, acc ++ [v], ws ++ [y'], r', q5, ?_, upd_same, ?_⟩⟩
              · have := e4.length
                rw [← line_eq]
                have l1 : r.length = acc.length + rs.length := by rw [← e2, List.length_append]
                rw [q6] at l1
                simp at l1
                omega
              · rw [upd_ne (ne_of_none q hD)]
                exact (sm2.trans s5) _ _ q
              · rw [← e2, q6]; simp
              · rw [hide_upd (by simp)]
                exact (e4.mono (hide_same _ s5)).app (.cons (r5.str hlone) .nil)
            · cases q4
          · cases z
      cases tst with
      | none => exact hb true H3 ⟨.refl _, by cases q2; rfl⟩
      | some q => exact ⟨en1, D :: O, he2, Out.mk q2 fun c H4 r4 => hb c H4 r4⟩
    · obtain ⟨sm2, acc, ws, rs, e1, e2, e3, e4⟩ := st
      have e5 : rs = [] := by
        have e1' : lcL (asg t) (tstF g.c g.anc tst) (eltF g.c g.anc e') (wipeE env vs) (l.drop l.length) = .ok rs := e1
        rw [List.drop_length] at e1'
        cases e1'
        rfl
      subst e5
      rw [List.append_nil] at e2
      subst e2
      have rp : Rep g.Z (hide H2 (g.B ++ O)) (.lst acc) (.ref D) := by
        unfold Rep
        exact ⟨D, ws, rfl, .of (hide_some.mpr ⟨nD, e3⟩), e4.mono (hide_sub fun a ha => by simp only [List.mem_append, List.mem_cons] at ha ⊢; rcases ha with z | z <;> simp [z])⟩
      exact h _ H2 ⟨sm1.trans sm2, rp.b, fun _ => rp, fun _ => ⟨D, ws, rfl, sm1.free hD, e3, e4.mono (hide_sub fun a ha => by simp only [List.mem_append, List.mem_cons] at ha ⊢; rcases ha with z | z | z <;> simp [z])⟩⟩
theorem sd_lc (G : GX P w n X s g) (hh : s.hot = false) (ok : BlkOk s.N s.sc scope own) (hv : ∀ i ∈ tvs t, i ∈ own.map (·.2)) (hi : PI X tg iter (tI g [] it))
    (hg : ∀ (s0 : Shared) (H : Hp) (C : Addr) (cl : List (Str × Addr)) (fp : List Addr), PG (X.blk s0 H scope (compEnvC scope cl C X.env) fp) tg (tgt X.K t))
    (ht : ∀ (s0 : Shared) (H : Hp) (C : Addr) (cl : List (Str × Addr)) (fp : List Addr), PTs (X.blk s0 H scope (compEnvC scope cl C X.env) fp) ifs (tT g.cold tst))
    (he : ∀ (s0 : Shared) (H : Hp) (C : Addr) (cl : List (Str × Addr)) (fp : List Addr), PE (X.blk s0 H scope (compEnvC scope cl C X.env) fp) elt (tE g.cold e'))
    (hs : ∀ x, foldedSetIterable iter X.env x = pure x) : PE X (.ListComp elt [⟨tg, iter, ifs, 0⟩] scope pos) (tE g (.lc (own.map (·.2)) t it tst e')) := by
  have ok' : BlkOk X.N X.env.scope scope own := by rw [G.hN, G.hsc]; exact ok
  exact pe_of (pe_lc (G.calm hh) (G.hN ▸ G.nd) hi ok' hg ht he hs) fun σ H Q h => lc_in hv X.K (by rw [G.hz]) h
end
end G
namespace G
open PySem PySem.Spec PyProof.Rows L2

/-! ### statements -/
def OutS (g : Gs) (M : List Nat) (env : Env) (σ : L2.St) (H : Hp) (O : List Addr) (f : F) (D : Ends) : Prop :=
  match f with
  | .nx e => ∀ σ' H' O', g.env σ' H' O' e → Kp M g.B env σ H O e σ' H' O' → D.nx σ' H'
  | .bk e => ∀ σ' H' O', g.env σ' H' O' e → Kp M g.B env σ H O e σ' H' O' → D.bk σ' H'
  | .ct e => ∀ σ' H' O', g.env σ' H' O' e → Kp M g.B env σ H O e σ' H' O' → D.ct σ' H'
  | .rt p => ∀ v H', Same g.H0 H' → Rep g.Z (hide H' g.B) p v → D.rt v H'
  | .ex x e => ∀ C d σ' H' O', g.env σ' H' O' e → Kp M g.B env σ H O e σ' H' O' → g.exc H' O' C d x → g.W C d σ' H'
  | .bad => False
def tSt (g : Gs) (M : List Nat) (f : Env → F) : TS := fun D σ H => ∃ env O, g.env σ H O env ∧ OutS g M env σ H O (f env) D
section
variable {g : Gs} {M M' : List Nat} {env env1 : Env} {σ σ1 : L2.St} {H H1 : Hp} {O O1 : List Addr} {D D' : Ends}
theorem OutS.later {f : F} (k : Kp M g.B env σ H O env1 σ1 H1 O1) (h : OutS g M env σ H O f D) : OutS g M env1 σ1 H1 O1 f D := by
  cases f with
  | nx e => exact fun σ' H' O' he k' => h σ' H' O' he (k.trans k')
  | bk e => exact fun σ' H' O' he k' => h σ' H' O' he (k.trans k')
  | ct e => exact fun σ' H' O' he k' => h σ' H' O' he (k.trans k')
  | rt p => exact h
  | ex x e => exact fun C d σ' H' O' he k' => h C d σ' H' O' he (k.trans k')
  | bad => exact h
theorem OutS.mono {f : F} (hs : ∀ i ∈ M', i ∈ M) (h : OutS g M env σ H O f D) : OutS g M' env σ H O f D := by
  cases f with
  | nx e => exact fun σ' H' O' he k' => h σ' H' O' he (k'.mono hs)
  | bk e => exact fun σ' H' O' he k' => h σ' H' O' he (k'.mono hs)
  | ct e => exact fun σ' H' O' he k' => h σ' H' O' he (k'.mono hs)
  | rt p => exact h
  | ex x e => exact fun C d σ' H' O' he k' => h C d σ' H' O' he (k'.mono hs)
  | bad => exact h
/-- a value, and then a statement -/
theorem OutS.val {α β : Type} {r : G.R α} {k : α → F} {ok : α → β → Hp → Prop} {Q : β → Hp → Prop} (he : g.env σ H O env) (h : OutS g M env σ H O (ofR env r k) D) (q : ∀ p, r = .ok p → OutS g M env σ H O (k p) D → ∀ v H', ok p v H' → Q v H') : Out g σ H O r ok Q := by
  cases r with
  | ok p => exact q p rfl h
  | ex x => exact fun C d H' e rx => h C d σ H' O (he.mono e) (.same he e) rx
  | bad => exact h
end
theorem guardX_ok {b : Bool} {r : G.R PV} {p : PV} (h : guardX b r = .ok p) : b = true ∧ r = .ok p := by
  cases b with
  | true => exact ⟨rfl, h⟩
  | false => cases h
/-- the context of a def's body, or of a try's -/
structure GT (P : PInf) (w n : Nat) (X : Cx) (s : SC) (g : Gs) : Prop extends GX P w n X s g where
  po : PassesOwn (model X.prog X.w) X.A X.env X.xe
  fnl : ∀ x, X.fn x = true
  stk : X.stack = X.env :: X.outer
  frm : X.env.frame = some X.env.locals
section
variable {P : PInf} {w n : Nat} {X : Cx} {s : SC} {g : Gs} {M : List Nat} {a b : Expr} {a' b' e' : E} {pos : Pos} {st : Stmt} {sts : List Stmt} {S' : S} {B' : List S} {c : Orc}
theorem ss_nil : PSs X [] (tSt g M fun env => .nx env) := pss_of pss_nil fun D σ H h => by
  obtain ⟨env, O, he, h⟩ := h
  exact h σ H O he (.refl he)
theorem ss_cons {f k : Env → F} (h1 : PS X st (tSt g M f)) (h2 : PSs X sts (tSt g M k)) : PSs X (st :: sts) (tSt g M fun env => (f env).thn k) := pss_of (pss_cons h1 h2) fun D σ H h => by
  obtain ⟨env, O, he, h⟩ := h
  replace h : OutS g M env σ H O ((f env).thn k) D := h
  refine ⟨env, O, he, ?_⟩
  cases q : f env with
  | nx e =>
    rw [q] at h
    exact fun σ' H' O' he' k' => ⟨e, O', he', h.later k'⟩
  | bk e => rw [q] at h; exact h
  | ct e => rw [q] at h; exact h
  | rt p => rw [q] at h; exact h
  | ex x e => rw [q] at h; exact h
  | bad => rw [q] at h; exact h
theorem st_exp (hs : swapsWith a none pos.line X.env = pure false) (ha : PE X a (tE g a')) : PS X (.Expr a pos) (tSt g M fun env => ofR env (denE g.c g.anc a' env) fun _ => .nx env) := ps_of (ps_expr ha hs) fun D σ H h => by
  obtain ⟨env, O, he, h⟩ := h
  refine ⟨env, O, he, OutS.val he h fun p ep h v H1 r => ?_⟩
  exact h σ H1 O (he.mono r.sm) (.same he r.sm)
theorem st_ret (hl : ∀ env, lone env a' = true) (ha : PE X a (tE g a')) : PS X (.Return (some a) pos) (tSt g M fun env => ofR env (denE g.c g.anc a' env) fun p => .rt p) := ps_of (ps_ret ha) fun D σ H h => by
  obtain ⟨env, O, he, h⟩ := h
  refine ⟨env, O, he, OutS.val he h fun p ep h v H1 r => ?_⟩
  have he1 := he.mono r.sm
  exact h v H1 he1.sm ((r.str (hl env)).mono (hide_sub fun x hx => List.mem_append_left _ hx))
theorem st_retv {x : Str} {i : Nat} {p : Pos} (G : GX P w n X s g) (hx : loc s x = some i) : PS X (.Return (some (.Name x p)) pos) (tSt g M fun env => ofR env (denE g.c g.anc (.var i) env) fun p => .rt p) := by
  obtain ⟨h1, h2, h3, h4⟩ := loc_use hx
  refine ps_of (ps_ret (pe_var (by rw [G.hN]; exact h1) (G.vis h2) h3 h4)) fun D σ H h => ?_
  obtain ⟨env, O, he, h⟩ := h
  simp only [denE] at h
  cases q : getV env i with
  | ok p =>
    rw [q] at h
    obtain ⟨v, e1, e2, e3⟩ := he.get q
    refine ⟨v, e1, h v H he.sm ?_⟩
    cases ho : owned env i with
    | false => exact (e3 ho).mono (hide_sub fun x hx => List.mem_append_left _ hx)
    | true =>
      rcases owned_kind ho with ⟨l, q1⟩ | ⟨l, q1⟩
      rotate_left
      · obtain ⟨ad, es, q2, q3, q4, q5, q6⟩ := owned_dict he q1
        have ep : p = .dct l := by
          unfold getV at q
          rw [q1] at q
          cases q; rfl
        subst ep
        rw [q2] at e1
        cases e1
        unfold Rep
        exact ⟨ad, es, rfl, hide_some.mpr ⟨fun z => he.b0 ad z (he.o0 ad q3), q4⟩, q5, RepD.mono (hide_sub fun x hx => List.mem_append_left _ hx) _ _ q6⟩
      obtain ⟨ad, vs, q2, q3, q4, q5⟩ := owned_list he q1
      have ep : p = .lst l := by
        unfold getV at q
        rw [q1] at q
        cases q; rfl
      subst ep
      rw [q2] at e1
      cases e1
      unfold Rep
      exact ⟨ad, vs, rfl, .of (hide_some.mpr ⟨fun z => he.b0 ad z (he.o0 ad q3), q4⟩), q5.mono (hide_sub fun x hx => List.mem_append_left _ hx)⟩
  | ex x => unfold getV at q; split at q <;> cases q
  | bad => rw [q] at h; exact h.elim
theorem st_retN : PS X (.Return none pos) (tSt g M fun _ => .rt .non) := ps_of ps_retN fun D σ H h => by
  obtain ⟨env, O, he, h⟩ := h
  exact h .non H he.sm (by simp [Rep])
theorem st_pas : PS X (.Pass pos) (tSt g M fun env => .nx env) := ps_of ps_pass fun D σ H h => by
  obtain ⟨env, O, he, h⟩ := h
  exact h σ H O he (.refl he)
theorem st_doc {x : Str} {j : Nat} {p : Pos} : PS X (.Expr (.Constant (.str x) j p) pos) (tSt g M fun env => .nx env) := ps_of ps_doc fun D σ H h => by
  obtain ⟨env, O, he, h⟩ := h
  exact h σ H O he (.refl he)
theorem st_brk : PS X (.Break pos) (tSt g M fun env => .bk env) := ps_of ps_break fun D σ H h => by
  obtain ⟨env, O, he, h⟩ := h
  exact h σ H O he (.refl he)
theorem st_cnt : PS X (.Continue pos) (tSt g M fun env => .ct env) := ps_of ps_continue fun D σ H h => by
  obtain ⟨env, O, he, h⟩ := h
  exact h σ H O he (.refl he)
/-- target = value -/
theorem set_in {t : T} (hM : ∀ i ∈ tvs t, i ∈ M) {K : PySem.W.Frag} (hK : g.Z.K = K) {D : Ends} {σ : L2.St} {H : Hp} (h : tSt g M (fun env => ofR env (guardX (lone env a') (denE g.c g.anc a' env)) fun p => optF (asg t p env)) D σ H) : tAsg (tE g a') (tgt K t) D σ H := by
  subst hK
  obtain ⟨env, O, he, h⟩ := h
  have h' : Out g σ H O (guardX (lone env a') (denE g.c g.anc a' env)) (ResP g H O env a') (fun v H1 => tgt g.Z.K t v σ H1 D.nx) := OutS.val he h fun p ep h v H1 r => by
    obtain ⟨hl, ep⟩ := guardX_ok ep
    cases q : asg t p env with
    | none => rw [q] at h; exact h.elim
    | some e1 =>
      rw [q] at h
      exact asg_ok t p v σ env e1 (he.mono r.sm) (r.str hl) q _ fun σ' he' k' => h σ' H1 O he' ((Kp.same he r.sm).trans (k'.mono hM))
  refine ⟨env, O, he, ?_⟩
  unfold guardX at h'
  split at h'
  · exact h'
  · exact h'.elim
theorem st_set {tg : Expr} {t : T} (hM : ∀ i ∈ tvs t, i ∈ M) (G : GX P w n X s g) (ha : PE X a (tE g a')) (hg : PG X tg (tgt X.K t)) (hs : swapsWithSole [tg] a pos.line X.env = pure false) (hw : swappedStores [tg] a X.env = pure none)
    (h1 : (assignEach [tg] X.env).map (·.2) = [assign tg X.env]) : PS X (.Assign [tg] a pos) (tSt g M fun env => ofR env (guardX (lone env a') (denE g.c g.anc a' env)) fun p => optF (asg t p env)) :=
  ps_of (ps_asg ha hg hs hw h1) fun D σ H h => set_in hM (by rw [G.hz]) h
theorem loc_nd {x : Str} (G : GT P w n X s g) {i : Nat} (h : loc s x = some i) (hk : s.sc.names.lookup x = some .local ∨ s.sc.names.lookup x = some .cell) : X.N[i]? = some x ∧ L2.Loc X.env.scope x := by
  obtain ⟨h1, _⟩ := loc_use h
  refine ⟨by rw [G.hN]; exact h1, ?_⟩
  unfold L2.Loc
  rw [G.hsc]
  exact hk
theorem st_setn {x : Str} {i : Nat} {p' : Pos} (G : GT P w n X s g) (hM : i ∈ M) (hx : loc s x = some i) (hk : s.sc.names.lookup x = some .local ∨ s.sc.names.lookup x = some .cell) (ha : PE X a (tE g a')) (hs : swapsWith a (some (.Name x p')) pos.line X.env = pure false) :
    PS X (.Assign [.Name x p'] a pos) (tSt g M fun env => ofR env (guardX (lone env a') (denE g.c g.anc a' env)) fun p => optF (asg (.one i) p env)) := by
  obtain ⟨h1, h2⟩ := loc_nd G hx hk
  exact ps_of (ps_set (G.hN ▸ G.nd) h1 h2 ha hs (.inl (G.fnl x))) fun D σ H h => set_in (t := .one i) (fun j hj => (show j = i by simpa [tvs] using hj) ▸ hM) (by rw [G.hz]) h
/-- a slot gets a new list of its own -/
theorem EnvRep.own {Z : Zd} {H0 : Hp} {B : List Addr} {EX : ExP} {σ : L2.St} {H H' : Hp} {O : List Addr} {env : Env} (he : EnvRep Z H0 B EX σ H O env) {i : Nat} {ad : Addr} {sl : Slot} {ob : HO} (hi : i < env.length) (sm : Same H H') (hn : H ad = none)
    (h1 : H' ad = some ob) (h2 : SlotRep Z H' (B ++ (ad :: O)) (ad :: O) EX (some (some (.ref ad))) sl) :
    EnvRep Z H0 B EX (σ.set i (some (.ref ad))) H' (ad :: O) (env.set i sl) ∧ Kp [i] B env σ H O (env.set i sl) (σ.set i (some (.ref ad))) H' (ad :: O) := by
  have hi' : i < σ.length := by rw [he.len]; exact hi
  have key : Same (hide H (B ++ O)) (hide H' (B ++ (ad :: O))) := fun b o q => by
    obtain ⟨q1, q2⟩ := hide_some.mp q
    refine hide_some.mpr ⟨?_, sm _ _ q2⟩
    simp only [List.mem_append, List.mem_cons, not_or] at q1 ⊢
    exact ⟨q1.1, ne_of_none q2 hn, q1.2⟩
  have nO : ad ∉ O := fun z => he.od ad z hn
  have own_ne : ∀ j, j ≠ i → owned env j = true → ∀ a', σ[j]? = some (some (.ref a')) → a' ≠ ad := fun j hj ho a' e z => by
    obtain ⟨a'', ob, q2, q3, _⟩ := owned_addr he ho
    rw [q2] at e; cases e
    exact nO (z ▸ q3)
  refine ⟨⟨by simp [he.len], fun j s e => ?_, fun j k a hjk h1 h2 e1 => ?_, fun a ha => ?_, fun a ha => ?_, he.b0, he.sm.trans sm⟩, ⟨key, fun j hj => ?_, fun j hj => ?_, fun j a hj ho e => ?_⟩⟩
  · by_cases hj : j = i
    · subst hj
      rw [List.getElem?_set_self hi] at e
      cases e
      rw [List.getElem?_set_self hi']
      exact h2
    · rw [List.getElem?_set_ne (Ne.symm hj)] at e ⊢
      have rr := he.slot j s e
      cases s with
      | un => exact rr
      | sh q => obtain ⟨v, h1, h2⟩ := rr; exact ⟨v, h1, h2.mono key⟩
      | ol l => obtain ⟨a, us, h1, h2, h3, h4⟩ := rr; exact ⟨a, us, h1, List.mem_cons_of_mem _ h2, sm _ _ h3, h4.mono key⟩
      | od l => obtain ⟨a, es, h1, h2, h3, h4, h5⟩ := rr; exact ⟨a, es, h1, List.mem_cons_of_mem _ h2, sm _ _ h3, h4, RepD.mono key _ _ h5⟩
      | exn x => obtain ⟨a, h1, h2⟩ := rr; exact ⟨a, h1, EX.mono _ _ _ _ key h2⟩
  · by_cases n1 : j = i
    · subst n1
      rw [List.getElem?_set_self hi'] at e1
      cases e1
      have n2 : k ≠ j := Ne.symm hjk
      rw [owned_set n2] at h2
      rw [List.getElem?_set_ne (Ne.symm n2)]
      exact fun z => own_ne k n2 h2 _ z rfl
    · rw [owned_set n1] at h1
      rw [List.getElem?_set_ne (Ne.symm n1)] at e1
      by_cases n2 : k = i
      · subst n2
        rw [List.getElem?_set_self hi']
        intro z
        cases z
        exact own_ne j n1 h1 _ e1 rfl
      · rw [owned_set n2] at h2
        rw [List.getElem?_set_ne (Ne.symm n2)]
        exact he.dis j k a hjk h1 h2 e1
  · rcases List.mem_cons.mp ha with rfl | ha
    · exact he.sm.free hn
    · exact he.o0 a ha
  · rcases List.mem_cons.mp ha with rfl | ha
    · rw [h1]; exact fun z => nomatch z
    · exact fun z => he.od a ha (sm.free z)
  · have hj' : j ≠ i := by simpa using hj
    rw [List.getElem?_set_ne (Ne.symm hj')]
  · have hj' : j ≠ i := by simpa using hj
    rw [List.getElem?_set_ne (Ne.symm hj')]
  · obtain ⟨a', ob, q2, q3, q4⟩ := owned_addr he ho
    rw [q2] at e; cases e
    exact ⟨List.mem_cons_of_mem _ q3, by rw [q4, sm _ _ q4]⟩
theorem own_in {i : Nat} (hM : i ∈ M) {D : Ends} {σ : L2.St} {H : Hp} (h : tSt g M (fun env => if freshE a' then ofR env (denE g.c g.anc a' env) (fun p => optF (ownV env i p)) else .bad) D σ H) : tAsg (tE g a') (gName i) D σ H := by
  obtain ⟨env, O, he, h⟩ := h
  replace h : OutS g M env σ H O (if freshE a' = true then ofR env (denE g.c g.anc a' env) (fun p => optF (ownV env i p)) else .bad) D := h
  by_cases hf : freshE a' = true
  · rw [if_pos hf] at h
    refine ⟨env, O, he, OutS.val he h fun p ep h v H1 r => ?_⟩
    have f := r.frs hf
    cases p <;> simp only [ownV, optF] at h <;> try exact h.elim
    · rename_i l
      split at h
      · rename_i e1 q
        split at q <;> cases q
        rename_i hi
        obtain ⟨ad, vs, rfl, f1, f2, f3⟩ := f
        obtain ⟨h1, h2⟩ := he.own (sl := .ol l) hi r.sm f1 f2 ⟨ad, vs, rfl, List.mem_cons_self, f2, f3.mono (hide_sub fun a ha => by simp only [List.mem_append, List.mem_cons] at ha ⊢; rcases ha with z | z | z <;> simp [z])⟩
        exact h _ _ _ h1 (h2.mono fun j hj => (show j = i by simpa using hj) ▸ hM)
      · exact h.elim
    · rename_i l
      split at h
      · rename_i e1 q
        split at q <;> cases q
        rename_i hi
        obtain ⟨ad, es, rfl, f1, f2, f3, f4⟩ := f
        obtain ⟨h1, h2⟩ := he.own (sl := .od l) hi r.sm f1 f2 ⟨ad, es, rfl, List.mem_cons_self, f2, f3, RepD.mono (hide_sub fun a ha => by simp only [List.mem_append, List.mem_cons] at ha ⊢; rcases ha with z | z | z <;> simp [z]) _ _ f4⟩
        exact h _ _ _ h1 (h2.mono fun j hj => (show j = i by simpa using hj) ▸ hM)
      · exact h.elim
  · rw [if_neg hf] at h; exact h.elim
theorem st_own {x : Str} {i : Nat} {p' : Pos} (G : GT P w n X s g) (hM : i ∈ M) (hx : loc s x = some i) (hk : s.sc.names.lookup x = some .local ∨ s.sc.names.lookup x = some .cell) (ha : PE X a (tE g a')) (hs : swapsWith a (some (.Name x p')) pos.line X.env = pure false) :
    PS X (.Assign [.Name x p'] a pos) (tSt g M fun env => if freshE a' then ofR env (denE g.c g.anc a' env) (fun p => optF (ownV env i p)) else .bad) := by
  obtain ⟨h1, h2⟩ := loc_nd G hx hk
  exact ps_of (ps_set (G.hN ▸ G.nd) h1 h2 ha hs (.inl (G.fnl x))) fun D σ H h => own_in hM h
end
end G
namespace G
open PySem PySem.Spec PyProof.Rows L2
section
variable {Z : Zd} {H0 : Hp} {B : List Addr} {EX : ExP} {σ : L2.St} {H H' : Hp} {O : List Addr} {env : Env}
/-- a list of the frame's own gets other items -/
theorem EnvRep.upd (he : EnvRep Z H0 B EX σ H O env) {i : Nat} {ad : Addr} {sl : Slot} {nb : HO} (ho : owned env i = true) (hi : σ[i]? = some (some (.ref ad))) (hr : ad ∈ O → SlotRep Z (L2.upd H ad nb) (B ++ O) O EX (some (some (.ref ad))) sl) :
    EnvRep Z H0 B EX σ (L2.upd H ad nb) O (env.set i sl) ∧ Kp [i] B env σ H O (env.set i sl) σ (L2.upd H ad nb) O := by
  obtain ⟨ad', ob, q2, q3, q4⟩ := owned_addr he ho
  rw [hi] at q2
  cases q2
  have q1 : ∃ s, env[i]? = some s := by
    rcases owned_kind ho with ⟨l, h⟩ | ⟨l, h⟩ <;> exact ⟨_, h⟩
  obtain ⟨sl0, q1⟩ := q1
  have hin : ad ∈ B ++ O := List.mem_append_right _ q3
  have hil : i < env.length := (List.getElem?_eq_some_iff.mp q1).1
  have hu : hide (L2.upd H ad nb) (B ++ O) = hide H (B ++ O) := hide_upd hin
  have oset : ∀ j, owned (env.set i sl) j = true → owned env j = true := fun j h => by
    by_cases hj : j = i
    · rw [hj]; exact ho
    · rw [owned_set hj] at h; exact h
  have other : ∀ j a, j ≠ i → owned env j = true → σ[j]? = some (some (.ref a)) → a ≠ ad := fun j a hj h e z => by
    subst z
    exact he.dis j i a hj h ho e hi
  refine ⟨⟨by simp [he.len], fun j s e => ?_, fun j k a hjk h1 h2 => he.dis j k a hjk (oset j h1) (oset k h2), he.o0, fun a ha => ?_, he.b0, fun b o e => ?_⟩, ⟨by rw [hu]; exact .refl _, fun _ _ => rfl, fun j hj => ?_, fun j a hj h e => ?_⟩⟩
  · by_cases hj : j = i
    · subst hj
      rw [List.getElem?_set_self hil] at e
      cases e
      rw [hi]
      exact hr q3
    · rw [List.getElem?_set_ne (Ne.symm hj)] at e
      have rr := he.slot j s e
      cases s with
      | un => exact rr
      | sh q => obtain ⟨v, h1, h2⟩ := rr; exact ⟨v, h1, by rw [hu]; exact h2⟩
      | ol l => 
        obtain ⟨a, us, h1, h2, h3, h4⟩ := rr
        have na : a ≠ ad := other j a hj (by unfold owned; rw [e]) h1
        exact ⟨a, us, h1, h2, by rw [upd_ne na]; exact h3, by rw [hu]; exact h4⟩
      | od l =>
        obtain ⟨a, us, h1, h2, h3, h4, h5⟩ := rr
        have na : a ≠ ad := other j a hj (by unfold owned; rw [e]) h1
        exact ⟨a, us, h1, h2, by rw [upd_ne na]; exact h3, h4, by rw [hu]; exact h5⟩
      | exn x => obtain ⟨a, h1, h2⟩ := rr; exact ⟨a, h1, by rw [hu]; exact h2⟩
  · by_cases hb : a = ad
    · subst hb; rw [upd_same]; exact fun z => nomatch z
    · rw [upd_ne hb]; exact he.od a ha
  · have nb : b ≠ ad := fun z => by
      subst z
      rw [he.o0 b q3] at e
      cases e
    rw [upd_ne nb]
    exact he.sm b o e
  · have hj' : j ≠ i := by simpa using hj
    rw [List.getElem?_set_ne (Ne.symm hj')]
  · have hj' : j ≠ i := by simpa using hj
    obtain ⟨a', ob, p2, p3, p4⟩ := owned_addr he h
    rw [p2] at e; cases e
    exact ⟨p3, by rw [upd_ne (other j _ hj' h p2)]⟩
/-- a list of the frame's own is given to all -/
theorem EnvRep.frz (he : EnvRep Z H0 B EX σ H O env) {i : Nat} {ad : Addr} {sl : Slot} {pv : PV} (ho : owned env i = true) (hi : σ[i]? = some (some (.ref ad))) (hl : env[i]? = some sl)
    (hrep : ∀ O', Same (hide H (B ++ O)) (hide H (B ++ O')) → ad ∉ B → ad ∉ O' → Rep Z (hide H (B ++ O')) pv (.ref ad)) :
    EnvRep Z H0 B EX σ H (O.filter fun b => decide (b ≠ ad)) (env.set i (.sh pv)) ∧ Kp [i] B env σ H O (env.set i (.sh pv)) σ H (O.filter fun b => decide (b ≠ ad)) := by
  obtain ⟨ad', ob, q2, q3, q4⟩ := owned_addr he ho
  rw [hi] at q2
  cases q2
  have hil : i < env.length := (List.getElem?_eq_some_iff.mp hl).1
  have sub : ∀ a ∈ B ++ O.filter (fun b => decide (b ≠ ad)), a ∈ B ++ O := fun a ha => by
    rcases List.mem_append.mp ha with ha | ha
    · exact List.mem_append_left _ ha
    · exact List.mem_append_right _ (List.mem_filter.mp ha).1
  have pub : Same (hide H (B ++ O)) (hide H (B ++ O.filter fun b => decide (b ≠ ad))) := hide_sub sub
  have nadB : ad ∉ B := fun z => he.b0 ad z (he.o0 ad q3)
  have oset : ∀ j, owned (env.set i (.sh pv)) j = true → j ≠ i ∧ owned env j = true := fun j h => by
    by_cases hj : j = i
    · subst hj
      unfold owned at h
      rw [List.getElem?_set_self hil] at h
      cases h
    · rw [owned_set hj] at h; exact ⟨hj, h⟩
  have other : ∀ j a, j ≠ i → owned env j = true → σ[j]? = some (some (.ref a)) → a ≠ ad := fun j a hj h e z => by
    subst z
    exact he.dis j i a hj h ho e hi
  refine ⟨⟨by simp [he.len], fun j s e => ?_, fun j k a hjk h1 h2 => he.dis j k a hjk (oset j h1).2 (oset k h2).2, fun a ha => he.o0 a (List.mem_filter.mp ha).1, fun a ha => he.od a (List.mem_filter.mp ha).1, he.b0, he.sm⟩, ⟨pub, fun _ _ => rfl, fun j hj => ?_, fun j a hj h e => ?_⟩⟩
  · by_cases hj : j = i
    · subst hj
      rw [List.getElem?_set_self hil] at e
      cases e
      exact ⟨.ref ad, hi, hrep _ pub nadB fun z => by simpa using (List.mem_filter.mp z).2⟩
    · rw [List.getElem?_set_ne (Ne.symm hj)] at e
      have rr := he.slot j s e
      cases s with
      | un => exact rr
      | sh q => obtain ⟨v, h1, h2⟩ := rr; exact ⟨v, h1, h2.mono pub⟩
      | ol l =>
        obtain ⟨a, us, h1, h2, h3, h4⟩ := rr
        have na : a ≠ ad := other j a hj (by unfold owned; rw [e]) h1
        exact ⟨a, us, h1, List.mem_filter.mpr ⟨h2, decide_eq_true na⟩, h3, h4.mono pub⟩
      | od l =>
        obtain ⟨a, us, h1, h2, h3, h4, h5⟩ := rr
        have na : a ≠ ad := other j a hj (by unfold owned; rw [e]) h1
        exact ⟨a, us, h1, List.mem_filter.mpr ⟨h2, decide_eq_true na⟩, h3, h4, RepD.mono pub _ _ h5⟩
      | exn x => obtain ⟨a, h1, h2⟩ := rr; exact ⟨a, h1, EX.mono _ _ _ _ pub h2⟩
  · have hj' : j ≠ i := by simpa using hj
    rw [List.getElem?_set_ne (Ne.symm hj')]
  · have hj' : j ≠ i := by simpa using hj
    obtain ⟨a', ob, p2, p3, p4⟩ := owned_addr he h
    rw [p2] at e; cases e
    exact ⟨List.mem_filter.mpr ⟨p3, decide_eq_true (other j _ hj' h p2)⟩, rfl⟩
end
section
variable {P : PInf} {w n : Nat} {X : Cx} {s : SC} {g : Gs} {M : List Nat} {a b : Expr} {a' b' e' : E} {pos : Pos} {st : Stmt} {sts : List Stmt}
theorem st_app {x : Str} {i : Nat} {p1 p2 p3 : Pos} (G : GT P w n X s g) (hM : i ∈ M) (hx : loc s x = some i) (ha : PE X a (tE g a')) (hs : starEach (a :: []) X.env = (false, eval a X.env) :: starEach [] X.env)
    (hfew : ((backTo p3 (starEach (a :: []) X.env)).all (fun x => !x.1) && (backToKw p3 (keywordEach [] X.env)).all (fun x => x.1.isSome) && decide ((a :: []).length + ([] : List Keyword).length + (if ([] : List Keyword).isEmpty then 0 else 1) < 30)) = true)
    (hline : (p2.endLine == p3.line) = true) :
    PS X (.Expr (.Call (.Attribute (.Name x p1) "append" p2) [a] [] p3) pos) (tSt g M fun env => match env[i]? with
      | some (.ol l) => ofR env (guardX (lone env a') (denE g.c g.anc a' env)) fun p => if l.length < lineMax then .nx (env.set i (.ol (l ++ [p]))) else .bad
      | _ => .bad) := by
  obtain ⟨h1, h2, h3, h4⟩ := loc_use hx
  have hv : PE X (.Name x p1) (tVar i) := pe_var (by rw [G.hN]; exact h1) (G.vis h2) h3 h4
  refine ps_of (ps_expr (pe_bm PySem.F.plainAttrs_list PySem.F.slot_list_append PySem.F.type_list_append mt_append hv (pa_cons ha pa_nil hs) (by rfl) hfew hline hs (by rfl)) (by rfl)) fun D σ H h => ?_
  obtain ⟨env, O, he, h⟩ := h
  cases q : env[i]? with
  | none => simp only [q] at h; exact h.elim
  | some sl =>
    simp only [q] at h
    cases sl with
    | ol l =>
      have ho : owned env i = true := by unfold owned; rw [q]
      obtain ⟨ad, vs, q2, q3, q4, q5⟩ := owned_list he q
      refine ⟨.ref ad, q2, .inl ⟨rfl, vs, .of q4⟩, ?_⟩
      have h' : Out g σ H O (guardX (lone env a') (denE g.c g.anc a' env)) (ResP g H O env a') (fun v H1 => tNil σ H1 fun xs H2 => rAppend (.ref ad) (v :: xs) H2 fun _ H3 => D.nx σ H3) := OutS.val he h fun p ep h v H1 r => by
        obtain ⟨hl, ep⟩ := guardX_ok ep
        have he1 := he.mono r.sm
        split at h
        · rename_i hlen
          refine ⟨ad, vs, v, rfl, rfl, r.sm _ _ q4, by rw [q5.length, ← line_eq]; exact hlen, ?_⟩
          obtain ⟨h1, h2⟩ := he1.upd (sl := .ol (l ++ [p])) (nb := .lst (vs ++ [v])) ho q2 fun hin => ⟨ad, vs ++ [v], rfl, hin, upd_same, by rw [hide_upd (List.mem_append_right _ hin)]; exact (q5.mono (hide_same _ r.sm)).app (.cons (r.str hl) .nil)⟩
          exact h _ _ _ h1 ((Kp.same he r.sm).trans (h2.mono fun j hj => (show j = i by simpa using hj) ▸ hM))
        · exact h.elim
      refine ⟨env, O, he, ?_⟩
      unfold guardX at h'
      split at h'
      · exact h'
      · exact h'.elim
    | un => exact h.elim
    | sh p => exact h.elim
    | od l => exact h.elim
    | exn x => exact h.elim
theorem st_ite {t : Expr} {t' : E} {B1 B2 : List Stmt} {f1 f2 : Env → F} (ht : PT X t (tB g t')) (h1 : PSs X B1 (tSt g M f1)) (h2 : PSs X B2 (tSt g M f2)) :
    PS X (.If t B1 B2 pos) (tSt g M fun env => ofR env (denE g.c g.anc t' env) fun p => ofR env (truth p) fun t => if t then f1 env else f2 env) := ps_of (ps_if ht h1 h2) fun D σ H h => by
  obtain ⟨env, O, he, h⟩ := h
  have h' : OutS g M env σ H O (ofR env ((denE g.c g.anc t' env).bind truth) fun t => if t then f1 env else f2 env) D := by
    cases q : denE g.c g.anc t' env with
    | ok p => simp only [q, ofR] at h; exact h
    | ex x => simp only [q, ofR] at h; exact h
    | bad => simp only [q, ofR] at h; exact h
  refine ⟨env, O, he, OutS.val he h' fun t et h c H1 r => ?_⟩
  rw [r.2]
  have he1 := he.mono r.1
  have h := h.later (Kp.same he r.1)
  cases t with
  | true => exact ⟨env, O, he1, h⟩
  | false => exact ⟨env, O, he1, h⟩
theorem st_loop {tg iter : Expr} {body : List Stmt} {t : T} {it : I} {f : Env → F} {M1 : List Nat} (G : GT P w n X s g) (hh : s.hot = false) (hi : PI X tg iter (tI g M1 it)) (hg : PG X tg (tgt X.K t)) (hb : PSs X body (tSt g M1 f)) (hv : ∀ i ∈ tvs t, i ∈ M1) (hM : ∀ i ∈ M1, i ∈ M)
    (hs : ∀ x, foldedSetIterable iter X.env x = pure x) : PS X (.For tg iter body [] pos) (tSt g M fun env => ofR env (denI g.c g.anc it env) fun l => forL f (asg t) l env) := by
  have hK : g.Z.K = X.K := by rw [G.hz]
  refine ps_of (ps_for G.po (G.calm hh) hi hg hb hs) fun D σ H h => ?_
  obtain ⟨env, O, he, h⟩ := h
  refine ⟨env, O, he, OutS.val he h fun l el h J H1 r => ?_⟩
  obtain ⟨sm, Gd, Y, wk, hGd, hY⟩ := r
  have he1 := he.mono sm
  replace h := h.later (Kp.same he sm)
  -- behind i turns
  refine for_it wk (fun i σ' H' => ∃ env' O', g.env σ' H' O' env' ∧ Kp M1 g.B env σ H1 O env' σ' H' O' ∧ OutS g M env' σ' H' O' (forL f (asg t) (l.drop i) env') D) ⟨env, O, he1, .refl he1, h⟩ (fun i σ' H' hi st => ?_) (fun i x σ2 H2 H3 hi st y => ?_) (fun σ2 H2 st => ?_)
  · obtain ⟨env', O', he', k', _⟩ := st
    exact hGd env' σ' H' O' k'
  · obtain ⟨env2, O2, he2, k2, h2⟩ := st
    obtain ⟨p, p1, p2, p3⟩ := hY i H2 x H3 O2 hi k2.pub he2.live y
    have hd : l.drop i = p :: l.drop (i + 1) := by
      obtain ⟨hi', ep⟩ := List.getElem?_eq_some_iff.mp p1
      rw [List.drop_eq_getElem_cons hi', ep]
    rw [hd] at h2
    simp only [forL] at h2
    have he3 := he2.mono p2
    have k3 := k2.trans (Kp.same he2 p2)
    replace h2 := h2.later (Kp.same he2 p2)
    cases q : asg t p env2 with
    | none => simp only [q] at h2; exact h2.elim
    | some e1 =>
      simp only [q] at h2
      rw [← hK]
      refine asg_ok t p x σ2 env2 e1 he3 p3 q _ fun σ4 he4 k4 => ?_
      have k4' := k4.mono (M' := M1) hv
      have k5 := k3.trans k4'
      replace h2 := h2.later (k4'.mono hM)
      refine ⟨e1, O2, he4, ?_⟩
      cases qf : f e1 with
      | nx e => simp only [qf] at h2; exact fun σ' H' O' he' k' => ⟨e, O', he', k5.trans k', h2.later (k'.mono hM)⟩
      | ct e => simp only [qf] at h2; exact fun σ' H' O' he' k' => ⟨e, O', he', k5.trans k', h2.later (k'.mono hM)⟩
      | bk e => simp only [qf] at h2; exact fun σ' H' O' he' k' => h2 σ' H' O' he' (k'.mono hM)
      | rt p => simp only [qf] at h2; exact h2
      | ex x e => simp only [qf] at h2; exact fun C d σ' H' O' he' k' => h2 C d σ' H' O' he' (k'.mono hM)
      | bad => simp only [qf] at h2; exact h2.elim
  · obtain ⟨env2, O2, he2, k2, h2⟩ := st
    rw [List.drop_length] at h2
    exact h2 σ2 H2 O2 he2 (.refl he2)
theorem st_whl {t : Expr} {t' : E} {body : List Stmt} {f : Env → F} (G : GT P w n X s g) (ht : PT X t (tB g t')) (hb : PSs X body (tSt g M f)) (m : Nat) :
    PS X (.While t body [] pos) (tSt g M fun env => whlL (fun e => (denE g.c g.anc t' e).bind truth) f m env) := ps_of (ps_while G.po ht hb) fun D σ H h => by
  obtain ⟨env, O, he, h⟩ := h
  refine ⟨fun m' σ' H' => ∃ env' O', g.env σ' H' O' env' ∧ OutS g M env' σ' H' O' (whlL (fun e => (denE g.c g.anc t' e).bind truth) f m' env') D, ⟨m, env, O, he, h⟩, fun m' σ2 H2 st => ?_⟩
  obtain ⟨env2, O2, he2, h2⟩ := st
  cases m' with
  | zero => exact h2.elim
  | succ m' =>
    simp only [whlL] at h2
    refine ⟨env2, O2, he2, OutS.val he2 h2 fun t et h2 c H3 r => ?_⟩
    rw [r.2]
    have he3 := he2.mono r.1
    replace h2 := h2.later (Kp.same he2 r.1)
    cases t with
    | false => exact h2 σ2 H3 O2 he3 (.refl he3)
    | true =>
      rw [if_pos rfl] at h2 ⊢
      refine ⟨fun σ' H' => ∃ env' O', g.env σ' H' O' env' ∧ OutS g M env' σ' H' O' (whlL (fun e => (denE g.c g.anc t' e).bind truth) f m' env') D, fun σ' H' q => ⟨m', Nat.lt_succ_self _, q⟩, env2, O2, he3, ?_⟩
      cases qf : f env2 with
      | nx e => simp only [qf] at h2; exact fun σ' H' O' he' k' => ⟨e, O', he', h2.later k'⟩
      | ct e => simp only [qf] at h2; exact fun σ' H' O' he' k' => ⟨e, O', he', h2.later k'⟩
      | bk e => simp only [qf] at h2; exact h2
      | rt p => simp only [qf] at h2; exact h2
      | ex x e => simp only [qf] at h2; exact h2
      | bad => simp only [qf] at h2; exact h2.elim
/-- a list of the frame's own is open to all from here on: nothing is run -/
theorem ss_frz {i : Nat} {k : Env → F} (h : PSs X sts (tSt g M k)) (hM : i ∈ M) : PSs X sts (tSt g M fun env => (match env[i]? with
    | some (.ol l) => F.nx (env.set i (.sh (.lst l)))
    | some (.od l) => F.nx (env.set i (.sh (.dct l)))
    | _ => F.nx env).thn k) := pss_of h fun D σ H q => by
  obtain ⟨env, O, he, q⟩ := q
  by_cases ho : owned env i = true
  · rcases owned_kind ho with ⟨l, q1⟩ | ⟨l, q1⟩
    rotate_left
    · obtain ⟨ad, es, q2, q3, q4, q5, q6⟩ := owned_dict he q1
      obtain ⟨h1, h2⟩ := he.frz (pv := .dct l) ho q2 q1 fun O' e nb no => by
        unfold Rep
        exact ⟨ad, es, rfl, hide_some.mpr ⟨fun z => (List.mem_append.mp z).elim nb no, q4⟩, q5, RepD.mono e _ _ q6⟩
      replace q : OutS g M env σ H O (k (env.set i (.sh (.dct l)))) D := by simpa only [q1, F.thn] using q
      exact ⟨_, _, h1, q.later (h2.mono fun j hj => (show j = i by simpa using hj) ▸ hM)⟩
    obtain ⟨ad, vs, q2, q3, q4, q5⟩ := owned_list he q1
    obtain ⟨h1, h2⟩ := he.frz (pv := .lst l) ho q2 q1 fun O' e nb no => by
      unfold Rep
      exact ⟨ad, vs, rfl, .of (hide_some.mpr ⟨fun z => (List.mem_append.mp z).elim nb no, q4⟩), q5.mono e⟩
    replace q : OutS g M env σ H O (k (env.set i (.sh (.lst l)))) D := by simpa only [q1, F.thn] using q
    exact ⟨_, _, h1, q.later (h2.mono fun j hj => (show j = i by simpa using hj) ▸ hM)⟩
  · refine ⟨env, O, he, ?_⟩
    cases q1 : env[i]? with
    | none => simpa only [q1, F.thn] using q
    | some sl =>
      cases sl with
      | ol l => exact absurd (by unfold owned; rw [q1]) ho
      | od l => exact absurd (by unfold owned; rw [q1]) ho
      | un => simpa only [q1, F.thn] using q
      | sh p => simpa only [q1, F.thn] using q
      | exn x => simpa only [q1, F.thn] using q
end
end G
namespace G
open PySem PySem.Spec PyProof.Rows L2
section
variable {Z : Zd} {H0 : Hp} {B : List Addr} {EX EX' : ExP} {σ : L2.St} {H H' : Hp} {O : List Addr} {env : Env}
theorem Kp.set {M : List Nat} {s : Slot} {v : Option V} {i : Nat} (he : EnvRep Z H0 B EX σ H O env) : Kp [i] B env σ H O (env.set i s) (σ.set i v) H O :=
  ⟨.refl _, fun j hj => by rw [List.getElem?_set_ne (Ne.symm (show j ≠ i by simpa using hj))], fun j hj => by rw [List.getElem?_set_ne (Ne.symm (show j ≠ i by simpa using hj))], fun j a hj ho e => by
    obtain ⟨a', ob, h2, h3, _⟩ := owned_addr he ho
    rw [h2] at e; cases e; exact ⟨h3, rfl⟩⟩
/-- the exception gets its name -/
theorem EnvRep.setx (he : EnvRep Z H0 B ExP.no σ H O env) {i : Nat} {x : Exn} {a : Addr} (hi : i < env.length) (hx : EX.p a x (hide H (B ++ O))) : EnvRep Z H0 B EX (σ.set i (some (.ref a))) H O (env.set i (.exn x)) := by
  have hi' : i < σ.length := by rw [he.len]; exact hi
  have oset : ∀ j, owned (env.set i (.exn x)) j = true → j ≠ i ∧ owned env j = true := fun j h => by
    by_cases hj : j = i
    · subst hj
      unfold owned at h
      rw [List.getElem?_set_self hi] at h
      cases h
    · rw [owned_set hj] at h; exact ⟨hj, h⟩
  refine ⟨by simp [he.len], fun j s e => ?_, fun j k ad hjk h1 h2 e1 => ?_, he.o0, he.od, he.b0, he.sm⟩
  · by_cases hj : j = i
    · subst hj
      rw [List.getElem?_set_self hi] at e
      cases e
      rw [List.getElem?_set_self hi']
      exact ⟨a, rfl, hx⟩
    · rw [List.getElem?_set_ne (Ne.symm hj)] at e ⊢
      have r := he.slot j s e
      cases s with
      | un => exact r
      | sh p => exact r
      | ol l => exact r
      | od l => exact r
      | exn x => obtain ⟨_, _, h⟩ := r; exact h.elim
  · rw [List.getElem?_set_ne (Ne.symm (oset j h1).1)] at e1
    rw [List.getElem?_set_ne (Ne.symm (oset k h2).1)]
    exact he.dis j k ad hjk (oset j h1).2 (oset k h2).2 e1
theorem EnvRep.reX (he : EnvRep Z H0 B EX σ H O env) (hn : env.any isExn = false) : EnvRep Z H0 B EX' σ H O env := by
  refine ⟨he.len, fun j s e => ?_, he.dis, he.o0, he.od, he.b0, he.sm⟩
  have r := he.slot j s e
  cases s with
  | un => exact r
  | sh p => exact r
  | ol l => exact r
  | od l => exact r
  | exn x =>
    have : env.any isExn = true := List.any_eq_true.mpr ⟨_, List.mem_of_getElem? e, rfl⟩
    rw [hn] at this
    cases this
end
/-- an except suite -/
abbrev Gs.suite (g : Gs) (EX : ExP) : Gs := { g with W := fun _ _ _ _ => False, c := hotC, EX := EX }
abbrev SC.toHot (s : SC) : SC := { s with hot := true }
section
variable {P : PInf} {w n : Nat} {X : Cx} {s : SC} {g : Gs} {M : List Nat} {a b : Expr} {a' b' e' : E} {pos p p2 p3 : Pos} {st : Stmt} {sts body : List Stmt}
theorem GT.tr (G : GT P w n X s g) (hh : s.hot = false) {W : WX} {pn : List (Addr × Obj)} {xe : Value → Shared → Prop} (tk : Takes (X.tr pn xe) W) (po : PassesOwn (model X.prog X.w) X.A X.env xe) : GT P w n (X.tr pn xe) s { g with W := W } where
  hN := G.hN
  nd := G.nd
  hsc := G.hsc
  calm := G.calm
  room := G.room
  un := G.un
  gd := G.gd
  hz := G.hz
  hc := G.hc
  hcH := G.hcH
  ha := G.ha
  tk := tk
  fns := G.fns
  cns := G.cns
  blt := G.blt
  dl := G.dl
  gcd := G.gcd
  cls := G.cls
  exx := G.exx
  exh := fun z => by rw [hh] at z; cases z
  po := po
  fnl := G.fnl
  stk := G.stk
  frm := G.frm
theorem GT.suite (G : GT P w n X s g) {EX : ExP} {a : Addr} {oe : Obj} {pn : List (Addr × Obj)} (hx : HotOk (X.suite a ((a, oe) :: pn)) (g.suite EX)) : GT P w n (X.suite a ((a, oe) :: pn)) s.toHot (g.suite EX) where
  hN := G.hN
  nd := G.nd
  hsc := G.hsc
  calm := fun z => by cases z
  room := fun z => by cases z
  un := G.un
  gd := G.gd
  hz := G.hz
  hc := fun z => by cases z
  hcH := fun _ => rfl
  ha := G.ha
  tk := takes_none5
  fns := fun z => by cases z
  cns := G.cns
  blt := G.blt
  dl := G.dl
  gcd := G.gcd
  cls := G.cls
  exx := fun z => by cases z
  exh := fun _ => hx
  po := .never
  fnl := G.fnl
  stk := G.stk
  frm := G.frm
theorem GX.names (G : GX P w n X s g) {d : Nat} {x : Str} (hx : P.cls[d]? = some x) (hg : glb s x = true) : ∃ cv, g.CV d = some cv ∧ Names X x cv := by
  obtain ⟨cv, h1, _, h2, h3⟩ := G.cls.nm d x hx
  exact ⟨cv, h1, G.gl (glb_use hg).1, h2, h3⟩
theorem st_rse (G : GT P w n X s g) (hh : s.hot = false) {k j : Nat} {x m : Str} (hk : P.prog.nf[k]? = some 0) (hx : P.cls[k]? = some x) (hg : glb s x = true) :
    PS X (.Raise (some (.Call (.Name x p) [.Constant (.str m) j p2] [] p3)) none pos) (tSt g M fun env => .ex ⟨k, []⟩ env) := by
  obtain ⟨h1, h2⟩ := glb_use hg
  obtain ⟨C, c1, gC, c2, c3, c4, c5⟩ := G.cls.own k x hk hx
  refine ps_of (ps_raise (G.calm hh) G.tk (pmk_own PySem.F.excBase_ValueError c2 gC c3 (raises_own c4 c5) (G.gl h1) h2)) fun D σ H h => ?_
  obtain ⟨env, O, he, h⟩ := h
  exact h (.ref C) none σ H O he (.refl he) ⟨⟨⟨C, rfl⟩, c1, .inl ⟨rfl, rfl⟩⟩, fun dx e => by cases e⟩
/-- the clauses without a name -/
inductive HsR (P : PInf) (w n : Nat) (s : SC) (M : List Nat) : List ExceptHandler → List H → Prop
  | nil : HsR P w n s M [] []
  | cons {x : Str} {d : Nat} {b₀ : Stmt} {suite : List Stmt} {np pos' : Pos} {hds : List ExceptHandler} {B : List S} {hs : List H} (hx : P.cls[d]? = some x) (hg : glb s x = true)
      (hsu : ∀ (X : Cx) (g : Gs), GT P w n X s.toHot g → PSs X (b₀ :: suite) (tSt g M fun env => denSs P.prog.anc P.prog.nf w hotC B env)) (r : HsR P w n s M hds hs) :
      HsR P w n s M (.ExceptHandler (some (.Name x np)) none (b₀ :: suite) pos' :: hds) (.mk d none B :: hs)
theorem hit_eq {P : PInf} {K : PySem.W.Frag} {mg : Str → Option Value} {CV : Nat → Option Value} (ck : ClsOk P K mg CV) {d : Nat} {cv C : Value} {Z : Zd} {FN : Nat → List Str} {G : Hp} {dd : Option Addr} {x : Exn} (hd : CV d = some cv) (hx : ExcRep Z CV FN G C dd x) :
    PySem.W.exmOne K C cv = some (hitH P.prog.anc x d) := by
  obtain ⟨⟨a, rfl⟩, h2, _⟩ := hx
  obtain ⟨l, hl⟩ := ck.anc _ _ h2
  rw [ck.exm _ _ l a cv hl h2 hd]
  unfold hitH
  rw [hl]
theorem st_try {h₀ : ExceptHandler} {hds : List ExceptHandler} {hs : List H} {B : List S} (G : GT P w n X s g) (hh : s.hot = false)
    (hb : ∀ (X' : Cx) (g' : Gs), GT P w n X' s g' → g'.c = g.c → PSs X' body (tSt g' M fun env => denSs P.prog.anc P.prog.nf w g'.c B env))
    (hr : HsR P w n s M (h₀ :: hds) hs) :
    PS X (.Try body (h₀ :: hds) [] [] pos) (tSt g M fun env => match denSs P.prog.anc P.prog.nf w g.c B env with
      | .ex x e => denH P.prog.anc P.prog.nf w hs x e
      | f => f) := by
  have key : ∀ {hds : List ExceptHandler} {hs : List H}, HsR P w n s M hds hs → ∃ l, HdsOk X hds l ∧ ∀ (D : Ends) (x : Exn) (e : Env) (C : Value) (d : Option Addr) (σ : L2.St) (Hh : Hp) (O : List Addr), g.env σ Hh O e → g.exc Hh O C d x →
      OutS g M e σ Hh O (denH P.prog.anc P.prog.nf w hs x e) D → wMany X.K g.W D l C d σ Hh := by
    intro hds hs hr
    induction hr with
    | nil =>
      refine ⟨[], .nil, fun D x e C d σ Hh O he hx h => ?_⟩
      exact h C d σ Hh O he (.refl he) hx
    | @cons x0 d0 b₀ suite np pos' hds B hs hx0 hg hsu r ih =>
      obtain ⟨l, ih1, ih2⟩ := ih
      obtain ⟨cv, n1, n2⟩ := G.names hx0 hg
      refine ⟨(cv, fun a C d => tSt (g.suite g.EX) M fun env => denSs P.prog.anc P.prog.nf w hotC B env) :: l, .cons n2 (fun a oe cls d pn hz hf => hsu _ _ (G.suite ?_)) ih1, fun D x e C d σ Hh O he hx h => ?_⟩
      · refine .inl fun a e H z => ?_
        have z' : g.EX.p a e H := z
        rw [G.exx hh] at z'
        exact z'
      · have hm := hit_eq G.cls n1 hx.1
        refine ⟨_, hm, fun z a na => ⟨e, O, he, ?_⟩, fun z => ih2 D x e C d σ Hh O he hx ?_⟩
        · simp only [denH, z, if_true] at h
          show OutS _ M e σ Hh O (denSs P.prog.anc P.prog.nf w hotC B e) D
          cases q : denSs P.prog.anc P.prog.nf w hotC B e with
          | ex x e => rw [q] at h; exact h.elim
          | nx e => rw [q] at h; exact h
          | bk e => rw [q] at h; exact h
          | ct e => rw [q] at h; exact h
          | rt e => rw [q] at h; exact h
          | bad => rw [q] at h; exact h
        · simp only [denH, z] at h
          exact h
  obtain ⟨l, k1, k2⟩ := key hr
  refine ps_of (ps_try_many (tb := fun W => tSt { g with W := W } M fun env => denSs P.prog.anc P.prog.nf w g.c B env) G.stk G.frm G.tk (fun W pn xe tk po => hb _ _ (G.tr hh tk po) rfl) k1) fun D σ H h => ?_
  obtain ⟨env, O, he, h⟩ := h
  refine ⟨env, O, he, ?_⟩
  show OutS _ M env σ H O (denSs P.prog.anc P.prog.nf w g.c B env) D
  cases q : denSs P.prog.anc P.prog.nf w g.c B env with
  | nx e => simp only [q] at h; exact h
  | bk e => simp only [q] at h; exact h
  | ct e => simp only [q] at h; exact h
  | rt e => simp only [q] at h; exact h
  | bad => simp only [q] at h; exact h
  | ex x e =>
    simp only [q] at h
    exact fun C d σ' H' O' he' k' hx => k2 D x e C d σ' H' O' he' hx (h.later k')
theorem st_try_as {x y : Str} {d i : Nat} {b₀ : Stmt} {suite : List Stmt} {np pos' : Pos} {B Bs : List S} (G : GT P w n X s g) (hh : s.hot = false) (hiM : i ∈ M) (hx : P.cls[d]? = some x) (hg : glb s x = true) (hy : loc s y = some i) (hl : s.sc.names.lookup y = some .local)
    (hb : ∀ (X' : Cx) (g' : Gs), GT P w n X' s g' → g'.c = g.c → PSs X' body (tSt g' M fun env => denSs P.prog.anc P.prog.nf w g'.c B env))
    (hsu : ∀ (X : Cx) (g : Gs), GT P w n X s.toHot g → PSs X (b₀ :: suite) (tSt g M fun env => denSs P.prog.anc P.prog.nf w hotC Bs env)) :
    PS X (.Try body [.ExceptHandler (some (.Name x np)) (some y) (b₀ :: suite) pos'] [] [] pos) (tSt g M fun env => match denSs P.prog.anc P.prog.nf w g.c B env with
      | .ex x e => denH P.prog.anc P.prog.nf w [.mk d (some i) Bs] x e
      | f => f) := by
  obtain ⟨cv, n1, n2⟩ := G.names hx hg
  obtain ⟨y1, y2, y3, y4⟩ := loc_use hy
  have hkind : X.env.kindOf y = some .local := by
    show X.env.scope.names.lookup y = _
    rw [G.hsc]; exact hl
  have mexc : ∀ (a : Addr) (C : Value) (d : Option Addr) (a' : Addr) (x : Exn) (H H' : Hp), Same H H' → (a' = a ∧ ExcRep g.Z g.CV g.FN H C d x) → (a' = a ∧ ExcRep g.Z g.CV g.FN H' C d x) := fun a C d a' x H H' e h => ⟨h.1, h.2.mono e⟩
  refine ps_of (ps_try_as (tb := fun W => tSt { g with W := W } M fun env => denSs P.prog.anc P.prog.nf w g.c B env) (ts := fun a C d => tSt (g.suite ⟨fun a' x H => a' = a ∧ ExcRep g.Z g.CV g.FN H C d x, mexc a C d⟩) M fun env => denSs P.prog.anc P.prog.nf w hotC Bs env)
    G.stk G.frm (G.hN ▸ G.nd) (by rw [G.hN]; exact y1) hkind n2 G.tk (fun W pn xe tk po => hb _ _ (G.tr hh tk po) rfl) (fun a oe cls d pn hz hf => hsu _ _ (G.suite (.inr ⟨X, a, oe, cls, d, pn, rfl, hz, hf, fun a' e H z => z⟩)))) fun D σ H h => ?_
  obtain ⟨env, O, he, h⟩ := h
  refine ⟨env, O, he, ?_⟩
  show OutS _ M env σ H O (denSs P.prog.anc P.prog.nf w g.c B env) D
  cases q : denSs P.prog.anc P.prog.nf w g.c B env with
  | nx e => simp only [q] at h; exact h
  | bk e => simp only [q] at h; exact h
  | ct e => simp only [q] at h; exact h
  | rt e => simp only [q] at h; exact h
  | bad => simp only [q] at h; exact h
  | ex x e =>
    simp only [q] at h
    intro C dd σ' H' O' he' k' hx'
    replace h : OutS g M e σ' H' O' (denH P.prog.anc P.prog.nf w [.mk d (some i) Bs] x e) D := OutS.later (g := g) k' h
    have hm := hit_eq G.cls n1 hx'.1
    refine ⟨_, hm, fun z a na => ?_, fun z => ?_⟩
    · simp only [denH, z, if_true] at h
      split at h
      · rename_i hil
        have hex : g.EX = ExP.no := G.exx hh
        have he2 : EnvRep g.Z g.H0 g.B ExP.no σ' H' O' e := by rw [← hex]; exact he'
        have he3 := he2.setx (EX := ⟨fun a' x H => a' = a ∧ ExcRep g.Z g.CV g.FN H C dd x, mexc a C dd⟩) (a := a) (x := x) hil ⟨rfl, hx'.1⟩
        have k3 : Kp M g.B e σ' H' O' (e.set i (.exn x)) (σ'.set i (some (.ref a))) H' O' := (Kp.set (M := M) he').mono fun j hj => (show j = i by simpa using hj) ▸ hiM
        refine ⟨e.set i (.exn x), O', he3, ?_⟩
        show OutS _ M (e.set i (.exn x)) (σ'.set i (some (.ref a))) H' O' (denSs P.prog.anc P.prog.nf w hotC Bs (e.set i (.exn x))) _
        have back : ∀ {e2 : Env} {mk : Env → F} {K : L2.St → Hp → Prop}, (∀ (e5 : Env), OutS g M e σ' H' O' (mk e5) D → ∀ σ5 H5 O5, g.env σ5 H5 O5 e5 → Kp M g.B e σ' H' O' e5 σ5 H5 O5 → K σ5 H5) → OutS g M e σ' H' O' (backE mk i e2) D →
            ∀ σ2 H2 O2, EnvRep g.Z g.H0 g.B ⟨fun a' x H => a' = a ∧ ExcRep g.Z g.CV g.FN H C dd x, mexc a C dd⟩ σ2 H2 O2 e2 → Kp M g.B (e.set i (.exn x)) (σ'.set i (some (.ref a))) H' O' e2 σ2 H2 O2 → K (σ2.set i none) H2 := by
          intro e2 mk K hmk hout σ2 H2 O2 he5 k5
          unfold backE at hout
          split at hout
          · exact hout.elim
          · rename_i hany
            have he6 := (he5.unset i).reX (EX' := g.EX) (by simpa using hany)
            have k6 : Kp M g.B e2 σ2 H2 O2 (e2.set i .un) (σ2.set i none) H2 O2 := (Kp.set (M := M) he5).mono fun j hj => (show j = i by simpa using hj) ▸ hiM
            exact hmk _ hout _ _ _ he6 ((k3.trans k5).trans k6)
        cases q2 : denSs P.prog.anc P.prog.nf w hotC Bs (e.set i (.exn x)) with
        | nx e2 => rw [q2] at h; exact back (mk := .nx) (fun e5 h5 => h5) h
        | bk e2 => rw [q2] at h; exact back (mk := .bk) (fun e5 h5 => h5) h
        | ct e2 => rw [q2] at h; exact back (mk := .ct) (fun e5 h5 => h5) h
        | rt p => rw [q2] at h; exact h
        | ex x e2 => rw [q2] at h; exact h.elim
        | bad => rw [q2] at h; exact h.elim
      · exact h.elim
    · simp only [denH, z] at h
      exact h C dd σ' H' O' he' (.refl he') hx'
/-- isinstance(e, C), e the exception that the suite holds -/
theorem sd_isx {x y : Str} {d i : Nat} {p1 : Pos} (G : GX P w n X s g) (hh : s.hot = true) (hx : P.cls[d]? = some x) (hg : glb s x = true) (hy : loc s y = some i) (hi : ("isinstance" : Str) ∈ P.blt) (hgi : glb s "isinstance" = true)
    (hs : starEach [.Name y p1, .Name x p2] X.env = (false, eval (.Name y p1) X.env) :: starEach [.Name x p2] X.env) (hs2 : starEach [.Name x p2] X.env = (false, eval (.Name x p2) X.env) :: starEach [] X.env) (hpl : (backTo pos (starEach [.Name x p2] X.env)).any (·.1) = false) :
    PE X (.Call (.Name "isinstance" p) [.Name y p1, .Name x p2] [] pos) (tE g (.isx i d)) := by
  obtain ⟨h1, h2⟩ := glb_use hg
  obtain ⟨h3, h4⟩ := glb_use hgi
  obtain ⟨y1, y2, y3, y4⟩ := loc_use hy
  obtain ⟨cv, n1, n2, n3, n4⟩ := G.cls.nm d x hx
  refine ⟨fun pins s σ H Q I h => ?_⟩
  obtain ⟨env, O, he, h⟩ := h
  simp only [denE] at h
  cases q : env[i]? with
  | none => rw [q] at h; exact h.elim
  | some sl =>
    rw [q] at h
    cases sl with
    | exn ex =>
      have r := he.slot i _ q
      obtain ⟨a, r1, r2⟩ := r
      rcases G.exh hh with z | ⟨X0, a0, oe, C, dd, pn, eX, hz, hf, hp⟩
      · exact absurd r2 (z _ _ _)
      · obtain ⟨ea, hx'⟩ := hp _ _ _ r2
        subst ea
        dsimp only at h
        split at h
        · rename_i hfl
          obtain ⟨⟨D, rfl⟩, c2, c3⟩ := hx'
          have hd : dd = none := by
            rcases c3 with c3 | ⟨c3, _⟩
            · exact c3.2
            · exact absurd (List.isEmpty_iff.mp hfl) c3
          subst hd
          obtain ⟨l, hl⟩ := G.cls.anc _ _ c2
          have hk := G.cls.kit _ d l D cv hl c2 n1
          have hb : hitH P.prog.anc ex d = l.contains d := by unfold hitH; rw [hl]
          have hT : ∃ v, PE X (.Name x p2) (tC v) ∧ ∀ u, RelV v u → u = cv := by
            rcases n2 with ⟨C', rfl⟩ | ⟨T, rfl⟩
            · rcases n4 with n4 | ⟨n4, n5, n6⟩
              · exact ⟨.ref C', pe_glob (G.gl h1) n4 rfl h2, fun u r => r⟩
              · exact ⟨.ref C', pe_bltn (G.gl h1) n4 n5 rfl n6 h2, fun u r => r⟩
            · rcases n4 with n4 | ⟨n4, n5, n6⟩
              · exact ⟨.ty T, pe_glob (G.gl h1) n4 rfl h2, fun u r => r⟩
              · exact ⟨.ty T, pe_bltn (G.gl h1) n4 n5 rfl n6 h2, fun u r => r⟩
          obtain ⟨v, hT, hv⟩ := hT
          have hN := G.hN
          have vis := G.vis y2
          have bi := G.blt _ hi
          have gi := G.gl h3
          have ga := G.ha
          subst eX
          refine (pe_callB (call_isE (G.cls.exc _ _ c2) hz hf) gi bi (by decide +kernel) (pa_cons (pe_var (by rw [hN]; exact y1) vis y3 y4) (pa_cons hT pa_nil hs2) hs) (by decide) h4 hs hpl).run pins s σ H Q I ?_
          refine ⟨.ref a, r1, v, cv, l.contains d, rfl, hv, hk, ?_⟩
          rw [ga, hb] at h
          exact h _ H (.sc (H1 := H) (.refl _) rfl fun G => by simp [Rep])
        · exact h.elim
    | un => exact h.elim
    | sh p => exact h.elim
    | ol l => exact h.elim
    | od l => exact h.elim
end
end G
namespace G
open PySem PySem.Spec PyProof.Rows L2

/-! ### the forms of a tree -/
def notStar : Expr → Bool
  | .Starred .. => false
  | _ => true
theorem star1 {a : Expr} (h : notStar a = true) (es : List Expr) (env : PySem.Env) : starEach (a :: es) env = (false, eval a env) :: starEach es env := by
  cases a <;> first | rfl | (simp [notStar] at h; done)
theorem stars_pl {es : List Expr} (h : es.all notStar = true) (pos : Pos) (env : PySem.Env) : (backTo pos (starEach es env)).any (·.1) = false := by
  induction es with
  | nil => rfl
  | cons a r ih =>
    simp only [List.all_cons, Bool.and_eq_true] at h
    rw [star1 h.1]
    have := ih h.2
    simp only [backTo, List.map_cons, List.any_cons, Bool.false_or] at this ⊢
    exact this
theorem asg1 {a : Expr} (h : notStar a = true) (es : List Expr) (env : PySem.Env) : assignEach (a :: es) env = (false, assign a env) :: assignEach es env := by
  cases a <;> first | rfl | (simp [notStar] at h; done)
def plainIter : Expr → Bool
  | .Set .. => false
  | _ => true
theorem folded_ok {a : Expr} (h : plainIter a = true) (env : PySem.Env) (x : Value) : foldedSetIterable a env x = pure x := by
  cases a <;> first | rfl | (simp [plainIter] at h; done)
theorem behind_ok {op : CmpOp} {a : Expr} (h : plainIter a = true) : behindInMarks op a = false := by
  cases a <;> first | rfl | (simp [plainIter] at h; done)
theorem last_ok {o1 o2 : CmpOp} {a b : Expr} (h : plainIter b = true) : lastMarks [o1, o2] [a, b] = false := behind_ok h
def plainIx : Expr → Bool
  | .Slice .. => false
  | _ => true
theorem plainIx_ok {a : Expr} (h : plainIx a = true) : PlainIx a := fun o i => by
  cases a <;> first | rfl | (simp [plainIx] at h; done)
def notComp : Expr → Bool
  | .ListComp .. | .SetComp .. | .DictComp .. => false
  | _ => true
theorem swaps_ok {a : Expr} (h : notComp a = true) (t : Option Expr) (l : Nat) (env : PySem.Env) : swapsWith a t l env = pure false := by
  cases a <;> first | rfl | (simp [notComp] at h; done)
def notTup : Expr → Bool
  | .Tuple .. => false
  | _ => true
theorem swapped_ok {a : Expr} (h : notTup a = true) (t : Expr) (env : PySem.Env) : swappedStores [t] a env = pure none := by
  cases t <;> cases a <;> first | rfl | (simp [notTup] at h; done)
/-- its truth is asked of its value -/
def plainTest : Expr → Bool
  | .UnaryOp .Not _ _ | .BoolOp .. | .IfExp .. | .Compare .. => false
  | _ => true
theorem plainTest_ok {a : Expr} (h : plainTest a = true) (env : PySem.Env) (whole : Sem Value) : isTrue a env whole = (do let v ← whole; standAt a.pos; holding [v] (truthy v)) := by
  cases a <;> try (first | rfl | (simp [plainTest] at h; done))
  rename_i op a pos
  cases op <;> first | rfl | (simp [plainTest] at h; done)
def notVar : E → Bool
  | .var _ => false
  | _ => true
theorem notVar_ok {a : E} (h : notVar a = true) (env : Env) : lone env a = true := by
  cases a <;> first | rfl | (simp [notVar] at h; done)

def plainBase : Expr → Bool
  | .Call (.Name _ _) [] [] _ => false
  | _ => true
theorem base_ok {o : Expr} (h : plainBase o = true) (x : Str) (env : PySem.Env) (m : Sem Value) : attributeBase o x env m = m := by
  unfold attributeBase
  split
  · simp [plainBase] at h
  · rfl
/-- a new list times a number -/
def repE : Operator → E → Bool
  | .Mult, .lst _ => true
  | .Mult, .lc .. => true
  | _, _ => false
theorem repE_use {op : Operator} {a : E} (h : repE op a = true) : op = .Mult ∧ freshE a = true := by
  cases op <;> simp only [repE, Bool.false_eq_true] at h
  cases a <;> simp [repE] at h <;> exact ⟨rfl, rfl⟩
/-! ### constants -/
def charsOf (x : Str) : List Char := x.cps.toList.map Char.ofNat
def conOf : Const → Option PV
  | .none => some .non
  | .bool b => some (.bl b)
  | .int i => some (.int i)
  | .str x => if strV (charsOf x) == x then some (.str (charsOf x)) else none
  | _ => none

mutual
/-- a test is asked without its value -/
def tstOk : Nat → Expr → Bool
  | 0, _ => false
  | f + 1, e => match e with
    | .IfExp .. => false
    | .UnaryOp .Not a _ => tstOk f a
    | .BoolOp _ vs _ => tstOks f vs
    | _ => true
def tstOks : Nat → List Expr → Bool
  | 0, _ => false
  | _ + 1, [] => true
  | f + 1, e :: r => tstOk f e && tstOks f r
end
/-! ### the translator of expressions -/
section
variable (P : PInf)
def defIx (x : Str) : Option Nat := P.dnm.findIdx? (· == x)
def clsIx (x : Str) : Option Nat := P.cls.findIdx? (· == x)
def isLoc (s : SC) (x : Str) : Bool := s.sc.names.lookup x == some .local
def isLoc2 (s : SC) (x : Str) : Bool := s.sc.names.lookup x == some .local || s.sc.names.lookup x == some .cell
/-- the names that a block may store at, and a def -/
def blkN (scope : Scope) (x : Str) : Bool := scope.names.lookup x == some .local || scope.names.lookup x == some .cell
mutual
/-- a target; ok tells what names may be stored at -/
def trT (ok : Str → Bool) (s : SC) : Nat → Expr → Option T
  | 0, _ => none
  | _ + 1, .Name x _ => if ok x then (loc s x).map .one else none
  | f + 1, .Tuple es _ _ => if s.hot then none else (trTs ok s f es).map .many
  | _, _ => none
def trTs (ok : Str → Bool) (s : SC) : Nat → List Expr → Option (List T)
  | 0, _ => none
  | _ + 1, [] => some []
  | f + 1, e :: es => if notStar e then do let t ← trT ok s f e; let r ← trTs ok s f es; some (t :: r) else none
end
def ownOf (N : List Str) (sc : Scope) : List (Str × Nat) := sc.names.filterMap fun y => if y.2 == .local || y.2 == .cell then (N.findIdx? (· == y.1)).map fun i => (y.1, i) else none
def blkB (N : List Str) (sc scope : Scope) (own : List (Str × Nat)) : Bool :=
  scope.kind == .function && scope.names.all (fun y => scope.names.lookup y.1 == some y.2) && own.all (fun p => N[p.2]? == some p.1) &&
    scope.names.all (fun y => !(y.2 == .free) || (sc.names.lookup y.1 == some .cell || sc.names.lookup y.1 == some .free)) &&
    scope.names.all (fun y => !(y.2 == .local || y.2 == .cell) || ((own.map (·.1)).contains y.1 || !N.contains y.1))
def bl (s : SC) (x : Str) : Bool := glb s x && P.blt.contains x
def isTup : Expr → Bool
  | .Tuple .. => true
  | _ => false
def itTab : List (Str × Nat) := [("range", 0), ("enumerate", 1), ("zip", 2), ("reversed", 3)]
def itForm (s : SC) : Expr → Option (Nat × List Expr)
  | .Call (.Name x _) args [] _ => if args.all notStar && bl P s x && (defIx P x).isNone then (itTab.find? fun e => e.1 == x).map fun e => (e.2, args) else none
  | _ => none
def rgForm (s : SC) : Expr → Option (List Expr)
  | .Call (.Name x _) args [] _ => if x == ("range" : Str) && args.all notStar && bl P s "range" && (defIx P x).isNone then some args else none
  | _ => none
inductive CF where
  | cgcd | cdef (i : Nat) | cisx (i d : Nat) | cisi (a : Expr) (k : Nat) | cbi (o : Bi)
def isForm (s : SC) (a : Expr) (t : Str) : Option CF :=
  match if s.hot then clsIx P t else none with
  | some d => match a with
    | .Name y _ => if glb s t then (loc s y).map fun i => .cisx i d else none
    | _ => none
  | none => match tyOf t with
    | some k => if bl P s t then some (.cisi a k) else none
    | none => none
def biForm (s : SC) (x : Str) (args : List Expr) : Option CF :=
  match biOf s.hot x args.length with
  | some o => if bl P s x && !(x == ("__name__" : Str)) && decide (0 < args.length) then some (.cbi o) else none
  | none => none
def isArgs (s : SC) : List Expr → Option CF
  | [a, .Name t _] => isForm P s a t
  | _ => none
def callForm (s : SC) (x : Str) (args : List Expr) : Option CF :=
  if args.all notStar then
    match defIx P x with
    | some i => if glb s x && !s.hot then some (.cdef i) else none
    | none => if P.gcds.contains x && glb s x && decide (0 < args.length) then some .cgcd else if x == ("isinstance" : Str) then (if bl P s "isinstance" then isArgs P s args else none) else biForm P s x args
  else none
mutual
def trE : Nat → SC → Expr → Option E
  | 0, _, _ => none
  | f + 1, s, e => match e with
    | .Name x _ => match loc s x with
      | some i => some (.var i)
      | none => if glb s x then (P.cns.lookup x).map .con else none
    | .Constant c _ _ => (conOf c).map .con
    | .Tuple es _ _ => (trX f s es).map .tup
    | .List es _ => (trX f s es).map .lst
    | .Dict [] [] _ => some (.dct [] [])
    | .BinOp a op b _ => do let o ← trBO op; let a' ← trE f s a; let b' ← trE f s b; some (if repE op a' then .met .rep a' [b'] else .bin o a' b')
    | .UnaryOp .USub a _ => (trE f s a).map .neg
    | .UnaryOp .Not a _ => (trE f s a).map .not
    | .BoolOp op vs _ => trL f s op vs
    | .IfExp t a b _ => if tstOk f t then do let t' ← trE f s t; let a' ← trE f s a; let b' ← trE f s b; some (.ife t' a' b') else none
    | .Compare a [op] [b] _ => if plainIter b then do let a' ← trE f s a; let b' ← trE f s b; some (.cmp (trCO op) a' b') else none
    | .Compare a [o1, o2] [b, c] _ => if plainIter c then do let a' ← trE f s a; let b' ← trE f s b; let c' ← trE f s c; some (.chn (trCO o1) (trCO o2) a' b' c') else none
    | .Subscript a (.Slice none none (some (.UnaryOp .USub (.Constant (.int 1) _ _) _)) _) _ => (trE f s a).map fun a' => .met .rvs a' []
    | .Subscript a (.Slice lo hi none _) _ => do let a' ← trE f s a; let lo' ← trO f s lo; let hi' ← trO f s hi; some (.slc a' lo' hi')
    | .Subscript a i _ => if plainIx i then do let a' ← trE f s a; let i' ← trE f s i; some (.sub a' i') else none
    | .Call (.Name x _) args [] _ => trC f s x args
    | .Call (.Attribute o nm ap) [a] [] cp => if (nm == ("get" : Str) && notStar a) && (plainBase o && ap.endLine == cp.line) then do let o' ← trE f s o; let a' ← trE f s a; some (.met .get1 o' [a']) else none
    | .Call (.Attribute o nm ap) [a, b] [] cp => if (nm == ("get" : Str) && (notStar a && notStar b)) && (plainBase o && ap.endLine == cp.line) then do let o' ← trE f s o; let a' ← trE f s a; let b' ← trE f s b; some (.met .get2 o' [a', b']) else none
    | .Dict (k :: ks) vs _ => if decide ((k :: ks).length = vs.length) && decide ((k :: ks).length ≤ 15) then (trPs f s (k :: ks) vs).map fun r => .dct r.1 r.2 else none
    | .ListComp elt [⟨tg, iter, ifs, 0⟩] scope _ =>
      let s' : SC := ⟨s.N, relS scope s.sc, false⟩
      let own := ownOf s.N scope
      if !s.hot && blkB s.N s.sc scope own && plainIter iter then do
        let it ← trI f s [] tg iter
        let t ← trT (blkN scope) s' f tg
        let tst ← trF f s' ifs
        let e' ← trE f s' elt
        if (tvs t).all (fun i => (own.map (·.2)).contains i) then some (.lc (own.map (·.2)) t it tst e') else none
      else none
    | .DictComp kx elt [⟨tg, iter, ifs, 0⟩] scope _ =>
      let s' : SC := ⟨s.N, relS scope s.sc, false⟩
      let own := ownOf s.N scope
      if !s.hot && blkB s.N s.sc scope own && plainIter iter then do
        let it ← trI f s [] tg iter
        let t ← trT (blkN scope) s' f tg
        let tst ← trF f s' ifs
        let k' ← trE f s' kx
        let e' ← trE f s' elt
        if (tvs t).all (fun i => (own.map (·.2)).contains i) then some (.dc (own.map (·.2)) t it tst k' e') else none
      else none
    | _ => none
def trPs : Nat → SC → List (Option Expr) → List Expr → Option (List E × List E)
  | 0, _, _, _ => none
  | _ + 1, _, [], [] => some ([], [])
  | f + 1, s, some k :: ks, v :: vs => do
    let a ← trE f s k
    let b ← trE f s v
    let r ← trPs f s ks vs
    some (a :: r.1, b :: r.2)
  | _, _, _, _ => none
def trC : Nat → SC → Str → List Expr → Option E
  | 0, _, _, _ => none
  | f + 1, s, x, args => match callForm P s x args with
    | some (.cdef i) => (trB f s args).map (.call i)
    | some .cgcd => (trB f s args).map (.bi .gcd)
    | some (.cisx i d) => some (.isx i d)
    | some (.cisi a k) => (trE f s a).map fun e => .isi e k
    | some (.cbi o) => (trB f s args).map (.bi o)
    | none => none
def trB : Nat → SC → List Expr → Option (List E)
  | 0, _, _ => none
  | _ + 1, _, [] => some []
  | f + 1, s, e :: es => if notStar e then do let a ← trE f s e; let r ← trB f s es; some (a :: r) else none
def trX : Nat → SC → List Expr → Option (List E)
  | 0, _, _ => none
  | _ + 1, _, [] => some []
  | f + 1, s, e :: es => if notStar e then do let a ← trE f s e; let r ← trX f s es; some (a :: r) else none
def trL : Nat → SC → BoolOp → List Expr → Option E
  | 0, _, _, _ => none
  | _ + 1, _, _, [] => none
  | f + 1, s, _, [a] => trE f s a
  | f + 1, s, op, a :: b :: r => do
    let a' ← trE f s a
    let r' ← trL f s op (b :: r)
    some (match op with
      | .And => .and a' r'
      | .Or => .or a' r')
def trO : Nat → SC → Option Expr → Option (Option E)
  | 0, _, _ => none
  | _ + 1, _, none => some none
  | f + 1, s, some e => (trE f s e).map some
/-- what is walked: it stands still where M is stored at -/
def trS : Nat → SC → List Nat → Expr → Option E
  | 0, _, _, _ => none
  | f + 1, s, M, e => match e with
    | .Name x _ => match loc s x with
      | some i => if M.contains i then none else some (.var i)
      | none => if glb s x then (P.cns.lookup x).map .con else none
    | e => do let a ← trE f s e; if notVar a then some a else none
def trI : Nat → SC → List Nat → Expr → Expr → Option I
  | 0, _, _, _, _ => none
  | f + 1, s, M, tg, e => match itForm P s e with
    | some (k, args) => trK f s M (isTup tg) k args
    | none => (trS f s M e).map .seq
def trK : Nat → SC → List Nat → Bool → Nat → List Expr → Option I
  | 0, _, _, _, _, _ => none
  | f + 1, s, _, _, 0, [a] => (trE f s a).map fun a' => .rng [a']
  | f + 1, s, _, _, 0, [a, b] => do let a' ← trE f s a; let b' ← trE f s b; some (.rng [a', b'])
  | f + 1, s, M, true, 1, [a] => (trS f s M a).map .enm
  | f + 1, s, M, true, 2, [a, b] => do let a' ← trS f s M a; let b' ← trS f s M b; some (.zip a' b')
  | f + 1, s, M, _, 3, [a] => match rgForm P s a with
    | some [b] => (trE f s b).map fun b' => .rrg [b']
    | some [b, c] => do let b' ← trE f s b; let c' ← trE f s c; some (.rrg [b', c'])
    | some _ => none
    | none => (trS f s M a).map .rev
  | _, _, _, _, _, _ => none
def trF : Nat → SC → List Expr → Option (Option E)
  | 0, _, _ => none
  | _ + 1, _, [] => some none
  | f + 1, s, [c] => if tstOk f c then (trE f s c).map some else none
  | _, _, _ => none
end
end
end G
namespace G
open PySem PySem.Spec PyProof.Rows L2
section
variable {P : PInf} {w n : Nat} {X : Cx} {s : SC} {g : Gs} {M : List Nat} {a b : Expr} {a' b' : E} {pos : Pos}
theorem ixN_in {m : Nat} {j : Int} (h0 : 0 ≤ j) (h1 : j < m) : ixN m j = some j.toNat := by
  unfold ixN
  simp [h0, h1]
theorem assign_sub {o i : Expr} (h : plainIx i = true) (p : Pos) (env : PySem.Env) (v : Value) : assign (.Subscript o i p) env v = (do
      let ov ← holding [v] (eval o env)
      let iv ← holding [v, ov] (eval i env)
      standAt p
      holding [v, ov, iv] (setItem ov iv v)
      release [v, ov, iv] []) := by
  cases i <;> first | rfl | (simp [plainIx] at h; done)
end
end G
namespace G
open PySem PySem.Spec PyProof.Rows L2
/-- a[k] = p in a dict -/
def rSetD (X : Cx) : V → V → V → Hp → (Hp → Prop) → Prop := fun o i v H Q => ∃ (S : List Addr) (l : List (PV × PV)) (a : Addr) (es : DS) (k p : PV), o = .ref a ∧ H a = some (DO a es) ∧ KeysOk l ∧ RepD (zOf X) (hide H S) l es.1.toList ∧ keyB 8 k = true ∧ Rep (zOf X) (hide H S) k i ∧ Rep (zOf X) (hide H S) p v ∧ l.length ≤ lineMax ∧
  ∀ es' : DS, RepD (zOf X) (hide H S) (dset l k p) es'.1.toList → Q (upd H a (DO a es'))
theorem set_dict {X : Cx} (hu : X.A.units + 65 < cLine) : PSet X (rSetD X) := by
  intro pins s σ H o i v ov iv u Q I ro ri rv h
  obtain ⟨S, l, a, es, k, p, rfl, h1, h2, h3, hk, h4, h5, h6, q⟩ := h
  cases ro
  have hn := nest_ok I 8 k i iv hk (Rep.mono (hide_le H S) _ _ h4) ri
  have hD := dat_of I (hide_le H S) h1 h2 h3
  have hsm := (do_at I h1).1
  refine store_key (by show X.A.units + 1 + 8 < cLine; omega) hD hn (depth_le 8 k hk) (by rw [List.length_map, ← line_eq]; exact h6) fun h' o' ep' e1 e2 e3 e4 => ?_
  have hlen : es.1.toList.length = (l.map fun e => nk e.1).length := by rw [List.length_map]; exact h3.len
  have el : (putD X.w es.1 (l.map fun e => nk e.1) (nk k) iv u).toList = putL X.w (nk k) iv u es.1.toList (l.map fun e => nk e.1) := by
    have := putD_list X.w (nk k) iv u es.1.toList (l.map fun e => nk e.1) hlen
    simpa using this
  have hr : RepD (zOf X) (hide H S) (dset l k p) (putD X.w es.1 (l.map fun e => nk e.1) (nk k) iv u).toList := by
    rw [el]
    exact repD_put hk ri h4 rv h5 h2.1 h3
  exact ⟨_, I.write (t' := s.toks + (nk k).draws) (x := a) (e := a) (o := DO a (putD X.w es.1 (l.map fun e => nk e.1) (nk k) iv u, ep')) (by rw [h1]; exact True.intro) (.inl rfl) (fun b ob hb he => (e4.2 b hb).trans he) ⟨_, e1⟩ (do_ok hsm e1 e2 e3), q _ hr⟩
/-- a[k] = p, a list or dict -/
def rSetA (X : Cx) : V → V → V → Hp → (Hp → Prop) → Prop := fun o i v H Q => rSetL o i v H Q ∨ rSetD X o i v H Q
theorem set_any {X : Cx} (hu : X.A.units + 65 < cLine) : PSet X (rSetA X) := by
  intro pins s σ H o i v ov iv u Q I ro ri rv h
  rcases h with h | h
  · exact set_list pins s σ H o i v ov iv u Q I ro ri rv h
  · exact set_dict hu pins s σ H o i v ov iv u Q I ro ri rv h
theorem RepB.key {Z : Zd} {H : Hp} {S : List Addr} {k : PV} {v : V} {n : Nat} (hk : keyB n k = true) (h : RepB Z H S k v) : Rep Z (hide H S) k v := by
  cases k with
  | lst l => cases n <;> simp [keyB] at hk
  | dct l => cases n <;> simp [keyB] at hk
  | _ => exact h
/-- {} -/
theorem do_empty {P : Program} {w : World} {H : Hp} (h : Heap) (hb : sysModules < h.objs.size) : ObjOk P w H (h.push { cls := .type "dict", data := .dict #[] }) h.objs.size (DO h.objs.size (#[], 0)) :=
  do_ok (beq_eq_false_iff_ne.mpr (Ne.symm (Nat.ne_of_lt hb))) (Heap.get?_push_size _ rfl) ⟨rfl, rfl, rfl⟩ rfl
def tDNewO : TE := fun _ H Q => ∀ p, H p = none → Q (.ref p) (upd H p (DO p (#[], 0)))
theorem pe_dnewO {X : Cx} {pos : Pos} : PE X (.Dict [] [] pos) tDNewO := ⟨fun pins s σ H Q I h =>
  wpAny_Dict_empty ⟨.ref s.heap.objs.size, _, I.laid (a := s.heap.objs.size) (o := DO s.heap.objs.size (#[], 0)) (t' := s.toks) (fun _ _ q => Heap.get?_push_of_some _ q) (Nat.le_refl _) (do_empty s.heap I.big), rfl, h _ (I.hok.fresh (Nat.le_refl _))⟩⟩
section
variable {P : PInf} {w n : Nat} {X : Cx} {s : SC} {g : Gs} {M : List Nat} {a b : Expr} {a' b' : E} {pos : Pos}
theorem sd_dct0 : PE X (.Dict [] [] pos) (tE g (.dct [] [])) := by
  refine pe_of pe_dnewO fun σ H Q h => ?_
  obtain ⟨env, O, he, h⟩ := h
  intro p hp
  have hn : KeysOk [] := ⟨fun e he => by simp at he, by simp⟩
  have hr : ∀ G, RepD g.Z G [] ((#[], 0) : DS).1.toList := fun G => by unfold RepD; rfl
  have hl := he.live
  have nin : p ∉ g.B ++ O := fun z => hl p z hp
  have hR : Rep g.Z (hide (upd H p (DO p (#[], 0))) (g.B ++ O)) (.dct []) (.ref p) := by
    unfold Rep
    exact ⟨p, (#[], 0), rfl, hide_some.mpr ⟨nin, upd_same⟩, hn, hr _⟩
  exact h _ _ ⟨same_upd hp, hR.b, fun _ => hR, fun _ => ⟨p, (#[], 0), rfl, hp, upd_same, hn, hr _⟩⟩
/-- x[k] = v, x a list of the frame's own -/
theorem st_put {x : Str} {i : Nat} {p1 p2 : Pos} (G : GT P w n X s g) (hM : i ∈ M) (hx : loc s x = some i) (ha : PE X a (tE g a')) (hb : PE X b (tE g b')) (hpx : plainIx b = true)
    (hs : swapsWithSole [.Subscript (.Name x p1) b p2] a pos.line X.env = pure false) (hw : swappedStores [.Subscript (.Name x p1) b p2] a X.env = pure none) :
    PS X (.Assign [.Subscript (.Name x p1) b p2] a pos) (tSt g M fun env => if owned env i then ofR env (guardX (lone env a') (denE g.c g.anc a' env)) fun p => ofR env (denE g.c g.anc b' env) fun q => putV env i q p else .bad) := by
  obtain ⟨h1, h2, h3, h4⟩ := loc_use hx
  have hv : PE X (.Name x p1) (tVar i) := pe_var (by rw [G.hN]; exact h1) (G.vis h2) h3 h4
  refine ps_of (ps_asg ha (pg_sub hv hb (set_any (by have := G.un; omega)) (assign_sub hpx _ _)) hs hw (by rfl)) fun D σ H h => ?_
  obtain ⟨env, O, he, h⟩ := h
  replace h : OutS g M env σ H O (if owned env i = true then ofR env (guardX (lone env a') (denE g.c g.anc a' env)) fun p => ofR env (denE g.c g.anc b' env) fun q => putV env i q p else .bad) D := h
  by_cases ho : owned env i = true
  · rw [if_pos ho] at h
    rcases owned_kind ho with ⟨l, q1⟩ | ⟨l, q1⟩
    rotate_left
    · obtain ⟨ad, es, q2, q3, q4, q5, q6⟩ := owned_dict he q1
      have hz : g.Z = zOf X := G.hz
      have h' : Out g σ H O (guardX (lone env a') (denE g.c g.anc a' env)) (ResP g H O env a') (fun v H1 => gSub (tVar i) (tE g b') (rSetA X) v σ H1 D.nx) := OutS.val he h fun p ep h v H1 r => by
        obtain ⟨hl, ep⟩ := guardX_ok ep
        have he1 := he.mono r.sm
        replace h := h.later (Kp.same he r.sm)
        refine ⟨.ref ad, q2, env, O, he1, ?_⟩
        refine OutS.val he1 h fun q eq h ix H2 r2 => ?_
        have he2 := he1.mono r2.sm
        simp only [putV, q1] at h
        split at h
        · rename_i hj
          rw [Bool.and_eq_true, decide_eq_true_iff] at hj
          have q4' : H2 ad = some (DO ad es) := r2.sm _ _ (r.sm _ _ q4)
          have s2 := hide_same (g.B ++ O) (r.sm.trans r2.sm)
          refine .inr ⟨g.B ++ O, l, ad, es, q, p, rfl, q4', q5, hz ▸ RepD.mono s2 _ _ q6, hj.1, hz ▸ r2.brw.key hj.1, hz ▸ (r.str hl).mono (hide_same _ r2.sm), Nat.le_of_lt hj.2, fun es' hr => ?_⟩
          rw [← hz] at hr
          obtain ⟨k1, k2⟩ := he2.upd (sl := .od (dset l q p)) (nb := DO ad es') ho q2 fun hin => ⟨ad, _, rfl, hin, upd_same, keysOk_put hj.1 q5, by rw [hide_upd (List.mem_append_right _ hin)]; exact hr⟩
          exact h _ _ _ k1 ((Kp.same he1 r2.sm).trans (k2.mono fun z hz => (show z = i by simpa using hz) ▸ hM))
        · exact h.elim
      refine ⟨env, O, he, ?_⟩
      unfold guardX at h'
      split at h'
      · exact h'
      · exact h'.elim
    obtain ⟨ad, vs, q2, q3, q4, q5⟩ := owned_list he q1
    have h' : Out g σ H O (guardX (lone env a') (denE g.c g.anc a' env)) (ResP g H O env a') (fun v H1 => gSub (tVar i) (tE g b') (rSetA X) v σ H1 D.nx) := OutS.val he h fun p ep h v H1 r => by
      obtain ⟨hl, ep⟩ := guardX_ok ep
      have he1 := he.mono r.sm
      replace h := h.later (Kp.same he r.sm)
      refine ⟨.ref ad, q2, env, O, he1, ?_⟩
      refine OutS.val he1 h fun q eq h ix H2 r2 => ?_
      have he2 := he1.mono r2.sm
      simp only [putV, q1] at h
      cases q <;> simp only at h <;> try exact h.elim
      rename_i j
      split at h
      · rename_i hj
        have ej : ix = .int j := eq_int r2.brw
        have q4' : H2 ad = some (.lst vs) := r2.sm _ _ (r.sm _ _ q4)
        refine .inl ⟨ad, vs, j, j.toNat, rfl, ej, q4', ixN_in hj.1 (by rw [q5.length]; exact hj.2), ?_⟩
        have hr : RepL g.Z (hide H2 (g.B ++ O)) (l.set j.toNat p) (vs.set j.toNat v) := (q5.mono (hide_same _ (r.sm.trans r2.sm))).set ((r.str hl).mono (hide_same _ r2.sm)) _
        obtain ⟨k1, k2⟩ := he2.upd (sl := .ol (l.set j.toNat p)) (nb := .lst (vs.set j.toNat v)) ho q2 fun hin => ⟨ad, _, rfl, hin, upd_same, by rw [hide_upd (List.mem_append_right _ hin)]; exact hr⟩
        exact h _ _ _ k1 ((Kp.same he1 r2.sm).trans (k2.mono fun z hz => (show z = i by simpa using hz) ▸ hM))
      · exact h.elim
    refine ⟨env, O, he, ?_⟩
    unfold guardX at h'
    split at h'
    · exact h'
    · exact h'.elim
  · rw [if_neg ho] at h; exact h.elim
end
end G
namespace G
open PySem PySem.Spec PyProof.Rows L2
/-! ### a, b = x, y -/
def swS (sc : Scope) (ts vs : List Expr) : Option (Option (List Str)) :=
  if (!(ts.length == 2 || ts.length == 3) || vs.length != ts.length || (if sc.kind.isAnnotationScope then ScopeKind.function else sc.kind) != .function) = true then some none
  else if (vs.any fun | .Starred .. => true | _ => false) = true then some none
  else if ((ts.filterMap fun | .Name id pos => if (sc.names.lookup id == some .local && pos.line == (ts.head?.map (·.pos.line)).getD 0) = true then some id else none | _ => none).length != ts.length
    || (ts.filterMap fun | .Name id pos => if (sc.names.lookup id == some .local && pos.line == (ts.head?.map (·.pos.line)).getD 0) = true then some id else none | _ => none).eraseDups.length
      != (ts.filterMap fun | .Name id pos => if (sc.names.lookup id == some .local && pos.line == (ts.head?.map (·.pos.line)).getD 0) = true then some id else none | _ => none).length) = true then some none
  else if vs.all (foldedForSure 8) = true then some none
  else if vs.all (constantsAlone 8) = true then none
  else some (some (ts.filterMap fun | .Name id pos => if (sc.names.lookup id == some .local && pos.line == (ts.head?.map (·.pos.line)).getD 0) = true then some id else none | _ => none))
theorem ife_some' {α : Type} {c : Bool} {a : Option α} {b : α} (h : (if c = true then a else none) = some b) : c = true ∧ a = some b := by
  cases c with
  | true => exact ⟨rfl, h⟩
  | false => cases h
theorem ife3 {α : Type} {c : Prop} [Decidable c] {a b r : α} (h : (if c then a else b) = r) : (c ∧ a = r) ∨ (¬ c ∧ b = r) := by
  by_cases hc : c
  · rw [if_pos hc] at h; exact .inl ⟨hc, h⟩
  · rw [if_neg hc] at h; exact .inr ⟨hc, h⟩
theorem swS_ok {sc : Scope} {env : PySem.Env} (he : env.scope = sc) (ts vs : List Expr) {k k2 : _} {p p2 : Pos} {r : Option (List Str)} (h : swS sc ts vs = some r) : swappedStores [.Tuple ts k p] (.Tuple vs k2 p2) env = pure r := by
  unfold swS at h
  unfold swappedStores
  simp only [PySem.Env.blockKind, PySem.Env.kindOf, he]
  rcases ife3 h with ⟨c1, h⟩ | ⟨c1, h⟩
  · cases h; exact if_pos c1
  refine (if_neg c1).trans ?_
  rcases ife3 h with ⟨c2, h⟩ | ⟨c2, h⟩
  · cases h; exact if_pos c2
  refine (if_neg c2).trans ?_
  rcases ife3 h with ⟨c3, h⟩ | ⟨c3, h⟩
  · cases h; exact if_pos c3
  refine (if_neg c3).trans ?_
  rcases ife3 h with ⟨c4, h⟩ | ⟨c4, h⟩
  · cases h; exact if_pos c4
  refine (if_neg c4).trans ?_
  rcases ife3 h with ⟨c5, h⟩ | ⟨c5, h⟩
  · cases h
  cases h
  refine (if_neg c5).trans ?_
  rfl
section
variable {P : PInf} {w n : Nat} {X : Cx} {s : SC} {g : Gs} {M : List Nat} {a b c : Expr} {a' b' c' : E} {pos : Pos}
theorem par_swap {X : Cx} {xs vs : List Expr} {k k2 : _} {pt pt2 : Pos} : swapsWithSole [.Tuple xs k pt] (.Tuple vs k2 pt2) pos.line X.env = pure false := rfl
theorem tupX {es : List E} {env : Env} : denE g.c g.anc (.tup es) env = (denX g.c g.anc es env).bind fun l => tupOk l .tup := rfl
/-- several values, then a statement -/
theorem par_in {es : List E} {t : T} {σ : L2.St} {H : Hp} {D : Ends} {K : List V → Hp → Prop} (hM : ∀ i ∈ tvs t, i ∈ M)
    (k : ∀ (ps : List PV) (vs : List V) (env e1 : Env) (O : List Addr) (H1 : Hp), g.env σ H1 O env → RepL g.Z (hide H1 (g.B ++ O)) ps vs → asg t (.tup ps) env = some e1 → (∀ σ', g.env σ' H1 O e1 → Kp (tvs t) g.B env σ H1 O e1 σ' H1 O → D.nx σ' H1) → K vs H1)
    (h : tSt g M (fun env => ofR env (guardX (lone env (.tup es)) (denE g.c g.anc (.tup es) env)) fun p => optF (asg t p env)) D σ H) : tXs g es σ H K := by
  obtain ⟨env, O, he, h⟩ := h
  replace h : OutS g M env σ H O (ofR env ((denX g.c g.anc es env).bind fun l => tupOk l .tup) fun p => optF (asg t p env)) D := h
  refine ⟨env, O, he, ?_⟩
  cases q : denX g.c g.anc es env with
  | ok ps =>
    rw [q] at h
    intro vs H1 r
    have he1 := he.mono r.1
    replace h : OutS g M env σ H O (ofR env (tupOk ps PV.tup) fun p => optF (asg t p env)) D := h
    unfold tupOk at h
    split at h
    · replace h : OutS g M env σ H O (optF (asg t (.tup ps) env)) D := h
      cases qa : asg t (.tup ps) env with
      | none => rw [qa] at h; exact h.elim
      | some e1 =>
        rw [qa] at h
        exact k ps vs env e1 O H1 he1 r.2 qa fun σ' he' k' => h σ' H1 O he' ((Kp.same he r.1).trans (k'.mono hM))
    · exact h.elim
  | ex x =>
    rw [q] at h
    exact fun C d H' e rx => h C d σ H' O (he.mono e) (.same he e) rx
  | bad => rw [q] at h; exact h.elim
theorem asg_one_use {i : Nat} {p : PV} {env e1 : Env} (h : asg (.one i) p env = some e1) : i < env.length ∧ e1 = env.set i (.sh p) := by
  simp only [asg] at h
  split at h
  · cases h; exact ⟨by assumption, rfl⟩
  · cases h
theorem asgL_use {t : T} {ts : List T} {ps : List PV} {env e2 : Env} (h : asgL (t :: ts) ps env = some e2) : ∃ p r e1, ps = p :: r ∧ asg t p env = some e1 ∧ asgL ts r e1 = some e2 := by
  cases ps with
  | nil => simp [asgL] at h
  | cons p r =>
    simp only [asgL] at h
    split at h
    · exact ⟨p, r, _, rfl, by assumption, h⟩
    · cases h
theorem asgL_use0 {ps : List PV} {env e2 : Env} (h : asgL [] ps env = some e2) : ps = [] ∧ e2 = env := by
  cases ps with
  | nil => simp only [asgL, Option.some.injEq] at h; exact ⟨rfl, h.symm⟩
  | cons p r => simp [asgL] at h
theorem st_par {x y : Str} {i j : Nat} {px py pt pt2 : Pos} {kt k2 : _} (G : GT P w n X s g) (hh : s.hot = false) (hM : i ∈ M ∧ j ∈ M) (h1 : loc s x = some i) (h2 : loc s y = some j) (hij : i ≠ j) (hx : s.sc.names.lookup x = some .local) (hy : s.sc.names.lookup y = some .local)
    (hw : swS s.sc [.Name x px, .Name y py] [a, b] = some (some [x, y])) {es' : List E} (ha : PA X [a, b] (tXs g es')) :
    PS X (.Assign [.Tuple [.Name x px, .Name y py] kt pt] (.Tuple [a, b] k2 pt2) pos) (tSt g M fun env => ofR env (guardX (lone env (.tup es')) (denE g.c g.anc (.tup es') env)) fun p => optF (asg (.many [.one i, .one j]) p env)) := by
  obtain ⟨y1, _⟩ := loc_use h1
  obtain ⟨y2, _⟩ := loc_use h2
  refine ps_of (ps_par (G.calm hh) (G.hN ▸ G.nd) (by rw [G.hN]; exact y1) (by rw [G.hN]; exact y2) hij (by rw [G.hsc]; exact hx) (by rw [G.hsc]; exact hy) ha (swS_ok G.hsc _ _ hw) par_swap) fun D σ H h => ?_
  refine par_in (t := .many [.one i, .one j]) (fun z hz => ?_) (fun ps vs env e1 O H1 he hr qa fin => ?_) h
  · simp only [tvs, tvss, List.append_nil, List.cons_append, List.nil_append, List.mem_cons, List.not_mem_nil, or_false] at hz
    rcases hz with rfl | rfl
    · exact hM.1
    · exact hM.2
  · simp only [asg] at qa
    obtain ⟨p, r, e2, rfl, q1, q2⟩ := asgL_use qa
    obtain ⟨p2, r2, e3, rfl, q3, q4⟩ := asgL_use q2
    obtain ⟨rfl, rfl⟩ := asgL_use0 q4
    obtain ⟨l1, rfl⟩ := asg_one_use q1
    obtain ⟨l2, rfl⟩ := asg_one_use q3
    unfold RepL at hr
    obtain ⟨v, t1, rfl, r1, hr⟩ := hr
    unfold RepL at hr
    obtain ⟨v2, t2, rfl, r2, hr⟩ := hr
    unfold RepL at hr
    subst hr
    obtain ⟨k1, k2⟩ := he.put l1 r1
    obtain ⟨k3, k4⟩ := k1.put l2 r2
    refine ⟨v, v2, rfl, fin _ k3 ((k2.mono fun z hz => ?_).trans (k4.mono fun z hz => ?_))⟩ <;> simp only [List.mem_singleton] at hz <;> subst hz <;> simp [tvs, tvss]
theorem st_par3 {x y z : Str} {i j l : Nat} {px py pz pt pt2 : Pos} {kt k2 : _} (G : GT P w n X s g) (hh : s.hot = false) (hM : i ∈ M ∧ j ∈ M ∧ l ∈ M) (h1 : loc s x = some i) (h2 : loc s y = some j) (h3 : loc s z = some l) (hij : i ≠ j) (hil : i ≠ l) (hjl : j ≠ l) (hx : s.sc.names.lookup x = some .local) (hy : s.sc.names.lookup y = some .local) (hz : s.sc.names.lookup z = some .local)
    (hw : swS s.sc [.Name x px, .Name y py, .Name z pz] [a, b, c] = some (some [x, y, z])) {es' : List E} (ha : PA X [a, b, c] (tXs g es')) :
    PS X (.Assign [.Tuple [.Name x px, .Name y py, .Name z pz] kt pt] (.Tuple [a, b, c] k2 pt2) pos) (tSt g M fun env => ofR env (guardX (lone env (.tup es')) (denE g.c g.anc (.tup es') env)) fun p => optF (asg (.many [.one i, .one j, .one l]) p env)) := by
  obtain ⟨y1, _⟩ := loc_use h1
  obtain ⟨y2, _⟩ := loc_use h2
  obtain ⟨y3, _⟩ := loc_use h3
  refine ps_of (ps_par3 (G.calm hh) (G.hN ▸ G.nd) (by rw [G.hN]; exact y1) (by rw [G.hN]; exact y2) (by rw [G.hN]; exact y3) hij hil hjl (by rw [G.hsc]; exact hx) (by rw [G.hsc]; exact hy) (by rw [G.hsc]; exact hz) ha (swS_ok G.hsc _ _ hw) par_swap) fun D σ H h => ?_
  refine par_in (t := .many [.one i, .one j, .one l]) (fun z hz => ?_) (fun ps vs env e1 O H1 he hr qa fin => ?_) h
  · simp only [tvs, tvss, List.append_nil, List.cons_append, List.nil_append, List.mem_cons, List.not_mem_nil, or_false] at hz
    rcases hz with rfl | rfl | rfl
    · exact hM.1
    · exact hM.2.1
    · exact hM.2.2
  · simp only [asg] at qa
    obtain ⟨p, r, e2, rfl, q1, q2⟩ := asgL_use qa
    obtain ⟨p2, r2, e3, rfl, q3, q4⟩ := asgL_use q2
    obtain ⟨p3, r3, e4, rfl, q5, q6⟩ := asgL_use q4
    obtain ⟨rfl, rfl⟩ := asgL_use0 q6
    obtain ⟨l1, rfl⟩ := asg_one_use q1
    obtain ⟨l2, rfl⟩ := asg_one_use q3
    obtain ⟨l3, rfl⟩ := asg_one_use q5
    unfold RepL at hr
    obtain ⟨v, t1, rfl, r1, hr⟩ := hr
    unfold RepL at hr
    obtain ⟨v2, t2, rfl, r2, hr⟩ := hr
    unfold RepL at hr
    obtain ⟨v3, t3, rfl, r3, hr⟩ := hr
    unfold RepL at hr
    subst hr
    obtain ⟨k1, k2⟩ := he.put l1 r1
    obtain ⟨k3, k4⟩ := k1.put l2 r2
    obtain ⟨k5, k6⟩ := k3.put l3 r3
    refine ⟨v, v2, v3, rfl, fin _ k5 (((k2.mono fun z hz => ?_).trans (k4.mono fun z hz => ?_)).trans (k6.mono fun z hz => ?_))⟩ <;> simp only [List.mem_singleton] at hz <;> subst hz <;> simp [tvs, tvss]
end
def parIx (s : SC) (ts vs : List Expr) : Option (List Nat) := match ts, vs with
  | [.Name x px, .Name y py], [a, b] => if isLoc s x && isLoc s y && decide (swS s.sc [.Name x px, .Name y py] [a, b] = some (some [x, y])) then
      (match loc s x, loc s y with
        | some i, some j => if i != j then some [i, j] else none
        | _, _ => none) else none
  | [.Name x px, .Name y py, .Name z pz], [a, b, c] => if isLoc s x && isLoc s y && isLoc s z && decide (swS s.sc [.Name x px, .Name y py, .Name z pz] [a, b, c] = some (some [x, y, z])) then
      (match loc s x, loc s y, loc s z with
        | some i, some j, some l => if i != j && i != l && j != l then some [i, j, l] else none
        | _, _, _ => none) else none
  | _, _ => none
def onesT (l : List Nat) : T := .many (l.map .one)
theorem onesT_in {i : Nat} : ∀ {l : List Nat}, i ∈ l → i ∈ tvs (onesT l)
  | a :: r, h => by
    simp only [onesT, tvs, List.map_cons, tvss]
    rcases List.mem_cons.mp h with rfl | h
    · simp
    · have := onesT_in h
      simp only [onesT, tvs] at this
      exact List.mem_append_right _ this
section
variable {P : PInf} {w n : Nat} {X : Cx} {s : SC} {g : Gs} {M : List Nat} {pos : Pos}
theorem st_pars {ts vs : List Expr} {l : List Nat} {pt pt2 : Pos} {kt k2 : _} {es' : List E} (G : GT P w n X s g) (hh : s.hot = false) (hM : ∀ i ∈ l, i ∈ M) (h : parIx s ts vs = some l) (ha : PA X vs (tXs g es')) :
    PS X (.Assign [.Tuple ts kt pt] (.Tuple vs k2 pt2) pos) (tSt g M fun env => ofR env (guardX (lone env (.tup es')) (denE g.c g.anc (.tup es') env)) fun p => optF (asg (onesT l) p env)) := by
  unfold parIx at h
  split at h
  · obtain ⟨c, h⟩ := ife_some' h
    simp only [Bool.and_eq_true, isLoc, beq_iff_eq, decide_eq_true_eq] at c
    split at h
    · rename_i i j q1 q2
      obtain ⟨c2, h⟩ := ife_some' h
      cases h
      exact st_par G hh ⟨hM i (by simp), hM j (by simp)⟩ q1 q2 (by simpa using c2) c.1.1 c.1.2 c.2 ha
    · cases h
  · obtain ⟨c, h⟩ := ife_some' h
    simp only [Bool.and_eq_true, isLoc, beq_iff_eq, decide_eq_true_eq] at c
    split at h
    · rename_i i j k q1 q2 q3
      obtain ⟨c2, h⟩ := ife_some' h
      cases h
      simp only [Bool.and_eq_true, bne_iff_ne, ne_eq] at c2
      exact st_par3 G hh ⟨hM i (by simp), hM j (by simp), hM k (by simp)⟩ q1 q2 q3 c2.1.1 c2.1.2 c2.2 c.1.1.1 c.1.1.2 c.1.2 c.2 ha
    · cases h
  · cases h
end
end G
namespace G
open PySem PySem.Spec PyProof.Rows L2
/-! ### dict comprehensions, keys of any kind -/
/-- a store in a dict that a comprehension makes -/
theorem d_setG {X : Cx} {pins : List (Addr × Obj)} {σ : L2.St} {H : Hp} {s : Shared} {E : Value → Shared → Prop} {Q : Unit → Shared → Prop} {S : List Addr} {l : List (PV × PV)} {D : Addr} {es : DS} {k p : PV} {i v : V} {iv u : Value} (hu : X.A.units + 65 < cLine)
    (I : Inv X pins σ H s) (h1 : H D = some (DO D es)) (h2 : KeysOk l) (h3 : RepD (zOf X) (hide H S) l es.1.toList) (hk : keyB 8 k = true) (h4 : Rep (zOf X) (hide H S) k i) (h5 : Rep (zOf X) (hide H S) p v) (ri : RelV i iv) (rv : RelV v u) (h6 : l.length ≤ lineMax)
    (q : ∀ (es' : DS) (s' : Shared), RepD (zOf X) (hide H S) (dset l k p) es'.1.toList → Inv X pins σ (upd H D (DO D es')) s' → Q () s') : wpAny (model X.prog X.w) X.A (dictSet D iv u) Q E s := by
  have hn := nest_ok I 8 k i iv hk (Rep.mono (hide_le H S) _ _ h4) ri
  have hD := dat_of I (hide_le H S) h1 h2 h3
  have hsm := (do_at I h1).1
  obtain ⟨ob, epo, ho, hc, hd⟩ := hD.obj
  have hz : (l.map fun e => nk e.1).length ≤ sizeLine := by rw [List.length_map, ← line_eq]; exact h6
  refine put_key hD.ents hn (depth_le 8 k hk) (by omega) ho hc hd hz fun h' o' ep' e1 e2 e3 e4 => ?_
  have hlen : es.1.toList.length = (l.map fun e => nk e.1).length := by rw [List.length_map]; exact h3.len
  have el : (putD X.w es.1 (l.map fun e => nk e.1) (nk k) iv u).toList = putL X.w (nk k) iv u es.1.toList (l.map fun e => nk e.1) := by
    have := putD_list X.w (nk k) iv u es.1.toList (l.map fun e => nk e.1) hlen
    simpa using this
  refine q (putD X.w es.1 (l.map fun e => nk e.1) (nk k) iv u, ep') _ ?_ (I.write (t' := s.toks + (nk k).draws) (x := D) (e := D) (by rw [h1]; exact True.intro) (.inl rfl) (fun b ob hb he => (e4.2 b hb).trans he) ⟨_, e1⟩ (do_ok hsm e1 e2 e3))
  show RepD _ _ _ (putD X.w es.1 (l.map fun e => nk e.1) (nk k) iv u).toList
  rw [el]
  exact repD_put hk ri h4 rv h5 h2.1 h3
/-- what a turn stores: the pair y, z in the dict at D, and on with Nx -/
def StoreG (Z : Zd) (D : Addr) (y z : V) (H : Hp) (Nx : Hp → Prop) : Prop := ∃ (S : List Addr) (l : List (PV × PV)) (es : DS) (k p : PV), H D = some (DO D es) ∧ KeysOk l ∧ RepD Z (hide H S) l es.1.toList ∧ keyB 8 k = true ∧ Rep Z (hide H S) k y ∧ Rep Z (hide H S) p z ∧ l.length ≤ lineMax ∧
  ∀ es' : DS, RepD Z (hide H S) (dset l k p) es'.1.toList → Nx (upd H D (DO D es'))
abbrev nilG (H : Hp) (D : Addr) : Hp := upd H D (DO D (#[], 0))
def TurnG (Z : Zd) (g : TG) (tt : TT) (tk tv : TE) (vs : List Nat) (σ : L2.St) (D : Addr) (x : V) (H : Hp) (Nx : Hp → Prop) : Prop :=
  g x (wipe σ vs) H fun σ2 H2 => wipe σ2 vs = wipe σ vs ∧ tt σ2 H2 fun b H3 => if b = true then tk σ2 H3 fun y H4 => tv σ2 H4 fun z H5 => StoreG Z D y z H5 Nx else Nx H3
def RunG (Z : Zd) (J : It) (g : TG) (tt : TT) (tk tv : TE) (vs : List Nat) (σ : L2.St) (D : Addr) (H1 : Hp) (Qd : Hp → Prop) : Prop :=
  ∃ W : Nat → Nat → Hp → Prop, (∃ m, W 0 m (nilG H1 D)) ∧ ∀ i m H, W i m H → (J.stop i H ∧ Qd H) ∨ (J.go i H ∧ ∃ Nx : Hp → Prop, (∀ H', Nx H' → ∃ m', m' < m ∧ W (i + 1) m' H') ∧ ∀ x H', J.yld i H x H' → TurnG Z g tt tk tv vs σ D x H' Nx)
def tDcG (Z : Zd) (wi : TI) (g : TG) (tt : TT) (tk tv : TE) (vs : List Nat) : TE := fun σ H Q => wi σ H fun J H1 => ∀ D, H1 D = none → RunG Z J g tt tk tv vs σ D H1 (Q (.ref D))
theorem dc_itG {J : It} {n : Nat} {Gd : Hp → Prop} {Y : Nat → Hp → V → Hp → Prop} (w : Walk J n Gd Y) {Z : Zd} {g : TG} {tt : TT} {tk tv : TE} {vs : List Nat} {σ : L2.St} {H1 : Hp} {D : Addr} {Qd : Hp → Prop} (Pv : Nat → Hp → Prop) (h0 : Pv 0 (nilG H1 D)) (hG : ∀ i H, i ≤ n → Pv i H → Gd H)
    (hs : ∀ i x H H', i < n → Pv i H → Y i H x H' → TurnG Z g tt tk tv vs σ D x H' (Pv (i + 1))) (hd : ∀ H, Pv n H → Qd H) : RunG Z J g tt tk tv vs σ D H1 Qd := by
  refine ⟨fun i m H => m = n - i ∧ i ≤ n ∧ Pv i H, ⟨n, by simp, Nat.zero_le _, h0⟩, fun i m H hW => ?_⟩
  obtain ⟨em, hi, hp⟩ := hW
  rcases Nat.lt_or_ge i n with hlt | hge
  · exact .inr ⟨w.goes i H hlt (hG i H hi hp), Pv (i + 1), fun H' p' => ⟨n - (i + 1), by omega, rfl, hlt, p'⟩, fun x H' y => hs i x H H' hlt hp (w.yields i H x H' hlt (hG i H hi hp) y)⟩
  · have e : i = n := by omega
    rw [e] at hp ⊢
    exact .inl ⟨w.stops H (hG n H (Nat.le_refl _) hp), hd H hp⟩
section
variable {X : Cx}
theorem dcG_core {pins : List (Addr × Obj)} {s : Shared} {σ : L2.St} {H : Hp} {Q : VK} {kx vx tg iter : Expr} {ifs : List Expr} {scope : Scope} {own : List (Str × Nat)} {pos pos' : Pos} {wi : TI} {g : TG} {tt : TT} {tk tv : TE} {use : Option (Value → Sem Unit)} {Qf : Value → Shared → Prop} (I : Inv X pins σ H s) (hu : X.A.units + 65 < cLine) (hc : X.calm = true) (hN : X.N.Nodup) (hi : PI X tg iter wi) (ok : BlkOk X.N X.env.scope scope own)
    (hg : ∀ (s : Shared) (H : Hp) (C : Addr) (cl : List (Str × Addr)) (fp : List Addr), PG (X.blk s H scope (compEnvC scope cl C X.env) fp) tg g)
    (ht : ∀ (s : Shared) (H : Hp) (C : Addr) (cl : List (Str × Addr)) (fp : List Addr), PTs (X.blk s H scope (compEnvC scope cl C X.env) fp) ifs tt)
    (hk : ∀ (s : Shared) (H : Hp) (C : Addr) (cl : List (Str × Addr)) (fp : List Addr), PE (X.blk s H scope (compEnvC scope cl C X.env) fp) kx tk)
    (he : ∀ (s : Shared) (H : Hp) (C : Addr) (cl : List (Str × Addr)) (fp : List Addr), PE (X.blk s H scope (compEnvC scope cl C X.env) fp) vx tv) (hs : ∀ x, foldedSetIterable iter X.env x = pure x)
    (h : tDcG (zOf X) wi g tt tk tv (own.map (·.2)) σ H Q)
    (hRR : ∀ D C s' m H', Inv X pins σ H' s' → Q (.ref D) H' → s'.heap.Ns C m → FpOk X pins H' C → compPost (model X.prog X.w) X.A X.xe use Qf (.ref D) C (.ok .next) s') :
    wpAny (model X.prog X.w) X.A (comprehension (.DictComp kx vx [⟨tg, iter, ifs, 0⟩] scope pos) scope X.env pos' newDict false (eval iter X.env) use) Qf X.xe s := by
  have cells : ∀ y ∈ scope.names, y.2 = .free → ∃ c, X.env.cells.lookup y.1 = some c := by
    intro y hy e
    rcases ok.free y hy e with k | k
    · exact I.ok.has _ (.inl k)
    · exact I.ok.has _ (.inr k)
  refine wpAny_comprehension_free (use := use) rfl hs (closure_ok cells) ok.kind (fun y hy e => by rw [ok.uniq y hy, e]) (thn (hi.run pins s σ H _ I h) fun _ s1 hx => thn hx fun _ s2 h2 => ?_)
  obtain ⟨it, fp, tn, J, H2, rfl, I2, T, st2, f2, q⟩ := h2
  refine wpAny_newObj_type (newEnv_comp ?_)
  obtain ⟨D, hD⟩ : ∃ D, s2.heap.objs.size = D := ⟨_, rfl⟩
  have hDn : H2 D = none := I2.hok.fresh (Nat.le_of_eq hD)
  obtain ⟨W, ⟨m0, w0⟩, turn⟩ := q D hDn
  -- the new dict
  obtain ⟨s3, hs3⟩ : ∃ s3 : Shared, s3 = { s2 with heap := s2.heap.push { cls := .type "dict", data := .dict #[] } } := ⟨_, rfl⟩
  have h3 : s3.heap = s2.heap.push { cls := .type "dict", data := .dict #[] } := by rw [hs3]
  have kp3 : ∀ b o, s2.heap.get? b = some o → s3.heap.get? b = some o := fun b o e => by rw [h3]; exact Heap.get?_push_of_some _ e
  have I3 : Inv X pins σ (nilG H2 D) s3 := by
    rw [hs3]
    refine I2.laid (t' := s2.toks) (fun b o e => Heap.get?_push_of_some _ e) (Nat.le_of_eq hD) ?_
    have := do_empty (P := X.prog) (w := X.w) (H := H2) s2.heap I2.big
    rw [hD] at this
    exact hD ▸ do_empty s2.heap I2.big
  have sz : ∀ b ∈ fp, b < s2.heap.objs.size := fun b hb => by
    obtain ⟨o, e, _⟩ := T.obj _ _ st2 b hb
    exact Heap.lt_size e
  have f3 : ∀ b ∈ fp, FpOk X pins (nilG H2 D) b ∧ b < s3.heap.objs.size := fun b hb => by
    have hlt := sz b hb
    have hne : b ≠ D := fun e => by rw [e, ← hD] at hlt; exact Nat.lt_irrefl _ hlt
    refine ⟨⟨by rw [nilG, upd_ne hne]; exact (f2 b hb).1, (f2 b hb).2⟩, ?_⟩
    rw [h3, Heap.size_push]
    exact Nat.lt_succ_of_lt hlt
  have I4 := block_start I3 ok hN f3
  obtain ⟨cl, hcl⟩ : ∃ cl, cl = cellsFrom (s3.heap.objs.size + 1) scope.names (cloFrom X.env.cells scope.names []) := ⟨_, rfl⟩
  rw [← hcl] at I4
  obtain ⟨H3, hH3⟩ : ∃ H3, nilG H2 D = H3 := ⟨_, rfl⟩
  rw [hH3] at I3 I4 w0 f3
  obtain ⟨ce, hce⟩ : ∃ ce, compEnvC scope cl s3.heap.objs.size X.env = ce := ⟨_, rfl⟩
  have cL : ce.locals = s3.heap.objs.size := by rw [← hce]; rfl
  have pg := hg s3 H3 s3.heap.objs.size cl fp
  have pt := ht s3 H3 s3.heap.objs.size cl fp
  have pk := hk s3 H3 s3.heap.objs.size cl fp
  have pe := he s3 H3 s3.heap.objs.size cl fp
  rw [hce] at I4 pg pt pk pe
  rw [hs3] at hcl
  have goal3 : codeAny (model X.prog X.w) X.A (.compStart (.DictComp kx vx [⟨tg, iter, ifs, 0⟩] scope pos) 0 (.ref it) (.ref D) ce) (compPost (model X.prog X.w) X.A X.xe use Qf (.ref D) s3.heap.objs.size) { s3 with heap := pushCells (s3.heap.push { cls := .type "dict", data := .dict #[] }) scope.names } := by
    obtain ⟨s4, hs4⟩ : ∃ s4 : Shared, ({ s3 with heap := pushCells (s3.heap.push { cls := .type "dict", data := .dict #[] }) scope.names } : Shared) = s4 := ⟨_, rfl⟩
    rw [hs4] at I4 ⊢
    have nfp : ∀ b ∈ fp, H3 b = none := fun b hb => (f3 b hb).1.1
    have st4 : tn 0 s4.heap := T.keep _ _ _ st2 fun b _ o e => by rw [← hs4]; exact pushCells_keeps _ _ _ _ (Heap.get?_push_of_some _ (kp3 b o e))
    have stat : ∀ {σ' : L2.St} {H' : Hp} {s' : Shared}, Inv (X.blk s3 H3 scope ce fp) [] σ' H' s' → (∀ b ∈ fp, H' b = none) → ∀ b ∈ fp, FpOk (X.blk s3 H3 scope ce fp) [] H' b := fun I' hn b hb =>
      ⟨hn b hb, (I'.ok.exf b hb).1, I'.ok.exfs b hb, .inl hb, fun x c e => (I'.ok.exf b hb).2 x c e, fun p hp => absurd (show p ∈ ([] : List (Addr × Obj)) ++ [] from hp) (by simp)⟩
    have loop : codeAny (model X.prog X.w) X.A (.compLoop (.DictComp kx vx [⟨tg, iter, ifs, 0⟩] scope pos) 0 (.ref it) (.ref D) ce) (compPost (model X.prog X.w) X.A X.xe use Qf (.ref D) s3.heap.objs.size) s4 := by
      refine compLoop_anyD (fun n s' => ∃ i H', Inv (X.blk s3 H3 scope ce fp) [] (wipe σ (own.map (·.2))) H' s' ∧ tn i s'.heap ∧ (∀ b ∈ fp, H' b = none) ∧ W i n H') (fun n s5 hI => ?_) m0 ⟨0, H3, I4, st4, nfp, w0⟩
      obtain ⟨i, H5, I5, st5, n5, w5⟩ := hI
      rcases turn i n H5 w5 with ⟨stop, qq⟩ | ⟨go, Nx, hNx, step⟩
      · refine thnF (T.done (X.blk s3 H3 scope ce fp) rfl rfl rfl hc i [] s5 _ H5 (fun _ _ => False) I5 (stat I5 n5) st5 stop) fun r s6 hr => ?_
        obtain ⟨rfl, I6⟩ := hr
        have I7 : Inv X pins σ H5 s6 := I3.call' (ch := fp) I6.os I6.base I6.hok I6.bare fun b hb => ⟨(f3 b hb).1.2.2.2.1, (f3 b hb).1.2.1, (f3 b hb).1.2.2.2.2.1, (f3 b hb).1.2.2.2.2.2⟩
        have nC : H5 s3.heap.objs.size = none := cL ▸ I6.free
        obtain ⟨m, hn, _⟩ := I6.loc
        have hn : s6.heap.Ns s3.heap.objs.size m := cL ▸ hn
        exact hRR D s3.heap.objs.size s6 m H5 I7 qq hn (I3.fpOk (Nat.le_refl _) nC)
      · refine thnF (T.item (X.blk s3 H3 scope ce fp) rfl rfl rfl hc i [] s5 _ H5 (fun _ _ => False) I5 (stat I5 n5) st5 go) fun r s6 hr => ?_
        obtain ⟨u, rfl, h6⟩ := hr
        refine thnF h6 fun _ s7 hx7 => ?_
        obtain ⟨x, H7, I7, r7, y7, st7, n7⟩ := hx7
        refine thnF (pg.run _ s7 _ H7 x u _ (I7.pinned (stat I7 n7) (T.obj _ _ st7)) r7 (step x H7 y7)) fun _ s8 hx8 => ?_
        obtain ⟨σ8, H8, I8, hw8, q8⟩ := hx8
        refine thnF (pt.run _ s8 σ8 H8 _ I8 q8) fun b s9 hx9 => ?_
        obtain ⟨H9, I9, q9⟩ := hx9
        have onw : ∀ {s' : Shared} {H' : Hp}, Inv (X.blk s3 H3 scope ce fp) ([] ++ pinsAt fp s7.heap) σ8 H' s' → Nx H' →
            ∃ m, m < n ∧ ∃ i H', Inv (X.blk s3 H3 scope ce fp) [] (wipe σ (own.map (·.2))) H' s' ∧ tn i s'.heap ∧ (∀ b ∈ fp, H' b = none) ∧ W i m H' := by
          intro s' H' I' nx
          obtain ⟨m', hm, w'⟩ := hNx H' nx
          have pin' : ∀ b ∈ fp, ∀ o, s7.heap.get? b = some o → s'.heap.get? b = some o ∧ H' b = none := fun b hb o e =>
            have z := I'.pin (b, o) (List.mem_append_right _ (List.mem_append_right _ (mem_pinsAt hb e)))
            ⟨z.1, z.2.1⟩
          have hl : (wipe σ (own.map (·.2))).length = σ8.length := by rw [← hw8, wipe_length]
          refine ⟨m', hm, i + 1, H', (I'.unpinned (pins := [])).weak hl (fun j v e => ?_), T.keep _ _ _ st7 fun b hb o e => (pin' b hb o e).1, fun b hb => ?_, w'⟩
          · rw [← hw8] at e
            exact (wipe_some e).1
          · obtain ⟨o, e, _⟩ := T.obj _ _ st7 b hb
            exact (pin' b hb o e).2
        cases b with
        | false => exact onw I9 q9
        | true =>
          refine thnF (pk.run _ s9 σ8 H9 _ I9 q9) fun z s10 hx10 => ?_
          obtain ⟨yk, H10, I10, r10, q10⟩ := hx10
          refine thnF (pe.run _ s10 σ8 H10 _ I10 q10) fun z2 s11 hx11 => ?_
          obtain ⟨yv, H11, I11, r11, S, l, es, k, p, c1, c2, c3, c4, c5, c6, c7, nx⟩ := hx11
          exact d_setG (X := X.blk s3 H3 scope ce fp) hu I11 c1 c2 c3 c4 c5 c6 r10 r11 c7 fun es' s12 hr I12 => onw I12 (nx es' hr)
    exact codeAny_compStart_dict loop (T.self X.A 0 _ _ _ st4 loop)
  subst hce hcl hD hs3
  exact goal3
theorem pe_dcG {kx vx tg iter : Expr} {ifs : List Expr} {scope : Scope} {own : List (Str × Nat)} {pos : Pos} {wi : TI} {g : TG} {tt : TT} {tk tv : TE} (hu : X.A.units + 65 < cLine) (hc : X.calm = true) (hN : X.N.Nodup) (hi : PI X tg iter wi) (ok : BlkOk X.N X.env.scope scope own)
    (hg : ∀ (s : Shared) (H : Hp) (C : Addr) (cl : List (Str × Addr)) (fp : List Addr), PG (X.blk s H scope (compEnvC scope cl C X.env) fp) tg g)
    (ht : ∀ (s : Shared) (H : Hp) (C : Addr) (cl : List (Str × Addr)) (fp : List Addr), PTs (X.blk s H scope (compEnvC scope cl C X.env) fp) ifs tt)
    (hk : ∀ (s : Shared) (H : Hp) (C : Addr) (cl : List (Str × Addr)) (fp : List Addr), PE (X.blk s H scope (compEnvC scope cl C X.env) fp) kx tk)
    (he : ∀ (s : Shared) (H : Hp) (C : Addr) (cl : List (Str × Addr)) (fp : List Addr), PE (X.blk s H scope (compEnvC scope cl C X.env) fp) vx tv) (hs : ∀ x, foldedSetIterable iter X.env x = pure x) :
    PE X (.DictComp kx vx [⟨tg, iter, ifs, 0⟩] scope pos) (tDcG (zOf X) wi g tt tk tv (own.map (·.2))) := by
  constructor
  intro pins s σ H Q I h
  rw [arm_eval_DictComp]
  refine dcG_core I hu hc hN hi ok hg ht hk he hs h fun D C s' m H' I' q hn f => ⟨m, hn, fun h'' sb => ?_⟩
  obtain ⟨f0, f1, f2, f3, f4, f5⟩ := f
  exact ⟨.ref D, H', I'.turned (t' := s'.toks) (fun b o hb e => (sb.2 b hb).trans e) f0 f1 f3 f4 f5, rfl, q⟩
/-- the store that goes right to a name -/
theorem ps_setDcG {i : Nat} {y : Str} {py : Pos} {kx vx tg iter : Expr} {ifs : List Expr} {scope : Scope} {own : List (Str × Nat)} {pos spos : Pos} {wi : TI} {g : TG} {tt : TT} {tk tv : TE} (hu : X.A.units + 65 < cLine) (hc : X.calm = true) (hN : X.N.Nodup) (hy : X.N[i]? = some y) (hyl : X.env.scope.names.lookup y = some .local)
    (hsw : swapsWith (.DictComp kx vx [⟨tg, iter, ifs, 0⟩] scope pos) (some (.Name y py)) spos.line X.env = pure true) (hi : PI X tg iter wi) (ok : BlkOk X.N X.env.scope scope own)
    (hg : ∀ (s : Shared) (H : Hp) (C : Addr) (cl : List (Str × Addr)) (fp : List Addr), PG (X.blk s H scope (compEnvC scope cl C X.env) fp) tg g)
    (ht : ∀ (s : Shared) (H : Hp) (C : Addr) (cl : List (Str × Addr)) (fp : List Addr), PTs (X.blk s H scope (compEnvC scope cl C X.env) fp) ifs tt)
    (hk : ∀ (s : Shared) (H : Hp) (C : Addr) (cl : List (Str × Addr)) (fp : List Addr), PE (X.blk s H scope (compEnvC scope cl C X.env) fp) kx tk)
    (he : ∀ (s : Shared) (H : Hp) (C : Addr) (cl : List (Str × Addr)) (fp : List Addr), PE (X.blk s H scope (compEnvC scope cl C X.env) fp) vx tv) (hs : ∀ x, foldedSetIterable iter X.env x = pure x) :
    PS X (.Assign [.Name y py] (.DictComp kx vx [⟨tg, iter, ifs, 0⟩] scope pos) spos) (tAsg (tDcG (zOf X) wi g tt tk tv (own.map (·.2))) (gName i)) := by
  constructor
  intro pins s σ H D I h
  rw [exec_Assign_Name_used _ _ _ _ hsw]
  refine wpAny_bind (wpAny_standAt (wpAny_bind ?_))
  have h' : tDcG (zOf X) wi g tt tk tv (own.map (·.2)) σ H (fun x H1 => gName i x σ H1 D.nx) := h
  refine wpAny_bind (thn (dcG_core (Qf := fun _ s' => SP X pins D .next s') (use := some (assign (.Name y py) X.env)) I hu hc hN hi ok hg ht hk he hs h' fun L C s' m H' I' q hn f => ?_) fun _ s' hq => wpAny_pure (wpAny_pure hq))
  show wpAny _ _ (assign (.Name y py) X.env (.ref L)) _ _ _
  obtain ⟨f0, f1, f2, f3, f4, f5⟩ := f
  refine wpAny_assign_Name (store_ok2 (v := V.ref L) I' hN hy (.inl hyl) rfl (fun s2 I2 hx => ?_) (.inr hyl))
  obtain ⟨a, sb, ha⟩ := hx
  have haC : C ≠ a := ha.elim (fun z => z ▸ f1) fun z e => f4 y a z e.symm
  exact ⟨m, hn.sameBut sb haC, fun h3 sb3 => ⟨_, H', I2.turned (t' := s2.toks) (fun b o hb e => (sb3.2 b hb).trans e) f0 f1 f3 f4 f5, q⟩⟩
end
/-! the rule -/
section
variable {P : PInf} {w n : Nat} {X : Cx} {s : SC} {g : Gs} {tg iter kx elt : Expr} {ifs : List Expr} {scope : Scope} {own : List (Str × Nat)} {t : T} {it : I} {tst : Option E} {k' e' : E} {pos : Pos}
theorem dcL_nex {asn : PV → Env → Option Env} {tst : Env → G.R Bool} {kf vf : Env → G.R PV} {env : Env} : ∀ (l : List PV) (d : List (PV × PV)) (z : Exn), dcL asn tst kf vf env l d ≠ .ex z
  | [], d, z, h => by cases h
  | p :: ps, d, z, h => by
    have ne : ∀ {α : Type} (r : G.R α) (z : Exn), noEx r ≠ .ex z := fun r z h => by cases r <;> cases h
    unfold dcL at h
    split at h
    · cases h
    · refine bindx (ne _) (fun b z h => ?_) z h
      split at h
      · refine bindx (ne _) (fun k z h => bindx (ne _) (fun v z h => ?_) z h) z h
        split at h
        · exact dcL_nex ps _ z h
        · cases h
      · exact dcL_nex ps d z h
theorem dc_step {asn : PV → Env → Option Env} {f : Env → G.R Bool} {kf vf : Env → G.R PV} {env : Env} {p : PV} {ps : List PV} {d r : List (PV × PV)} (h : dcL asn f kf vf env (p :: ps) d = .ok r) :
    ∃ e1 b, asn p env = some e1 ∧ f e1 = .ok b ∧ ((b = true ∧ ∃ k v, kf e1 = .ok k ∧ vf e1 = .ok v ∧ keyB 8 k = true ∧ d.length < lineMax ∧ dcL asn f kf vf env ps (dset d k v) = .ok r) ∨ (b = false ∧ dcL asn f kf vf env ps d = .ok r)) := by
  unfold dcL at h
  split at h
  · cases h
  · rename_i e1 q
    obtain ⟨b, h1, h2⟩ := bind_eq h
    refine ⟨e1, b, q, noEx_ok h1, ?_⟩
    cases b with
    | true =>
      rw [if_pos rfl] at h2
      obtain ⟨k, h3, h4⟩ := bind_eq h2
      obtain ⟨v, h5, h6⟩ := bind_eq h4
      split at h6
      · rename_i hh
        rw [Bool.and_eq_true, decide_eq_true_iff] at hh
        exact .inl ⟨rfl, k, v, noEx_ok h3, noEx_ok h5, hh.1, hh.2, h6⟩
      · cases h6
    | false =>
      rw [if_neg (by decide)] at h2
      exact .inr ⟨rfl, h2⟩
/-- behind some turns: D the new dict -/
structure DcSt (g : Gs) (O : List Addr) (H1 : Hp) (D : Addr) (rest : List (PV × PV) → G.R (List (PV × PV))) (r : List (PV × PV)) (H : Hp) : Prop where
  sm : Same H1 H
  fin : ∃ acc es, rest acc = .ok r ∧ H D = some (DO D es) ∧ KeysOk acc ∧ RepD g.Z (hide H (g.B ++ (D :: O))) acc es.1.toList
theorem dc_in (hv : ∀ i ∈ tvs t, i ∈ own.map (·.2)) (K : PySem.W.Frag) (hK : g.Z.K = K) {σ : L2.St} {H : Hp} {Q : VK} (h : tE g (.dc (own.map (·.2)) t it tst k' e') σ H Q) :
    tDcG g.Z (tI g [] it) (tgt K t) (tT g.cold tst) (tE g.cold k') (tE g.cold e') (own.map (·.2)) σ H Q := by
  subst hK
  obtain ⟨env, O, he, h⟩ := h
  simp only [denE] at h
  refine ⟨env, O, he, Out.bind h fun l el h => ?_⟩
  intro J H1 r1 D hD
  obtain ⟨sm1, Gd, Y, wk, hGd, hY⟩ := r1
  generalize hvs : own.map (·.2) = vs at *
  replace h : Out g σ H O ((dcL (asg t) (tstF g.c g.anc tst) (eltF g.c g.anc k') (eltF g.c g.anc e') (wipeE env vs) l []).bind fun d => G.R.ok (PV.dct d)) (ResP g H O env (.dc vs t it tst k' e')) Q := h
  have he1 := he.mono sm1
  cases eo : dcL (asg t) (tstF g.c g.anc tst) (eltF g.c g.anc k') (eltF g.c g.anc e') (wipeE env vs) l [] with
  | bad => rw [eo] at h; exact h.elim
  | ex x => exact absurd eo (dcL_nex _ _ _)
  | ok r =>
    rw [eo] at h
    replace h : Out g σ H O (G.R.ok (PV.dct r)) (ResP g H O env (.dc vs t it tst k' e')) Q := h
    have live1 := he1.live
    have nD : D ∉ g.B ++ O := fun z => live1 D z hD
    have h0D : g.H0 D = none := he1.sm.free hD
    have pubAt : ∀ {H2 : Hp}, Same H1 H2 → Same (hide H1 (g.B ++ O)) (hide H2 (g.B ++ (D :: O))) := fun {H2} e b o q => by
      obtain ⟨q1, q2⟩ := hide_some.mp q
      refine hide_some.mpr ⟨?_, e _ _ q2⟩
      simp only [List.mem_append, List.mem_cons, not_or] at q1 ⊢
      exact ⟨q1.1, ne_of_none q2 hD, q1.2⟩
    have slotsAt : ∀ {H2 : Hp}, Same H1 H2 → H2 D ≠ none → EnvRep g.Z g.H0 g.B g.EX (L2.wipe σ vs) H2 (D :: O) (wipeE env vs) := fun {H2} e ne => by
      have hb : EnvRep g.Z g.H0 g.B g.EX (L2.wipe σ vs) H1 O (wipeE env vs) := he1.wipe vs
      have key := pubAt e
      refine ⟨hb.len, fun j sl q => ?_, hb.dis, fun a ha => ?_, fun a ha => ?_, hb.b0, hb.sm.trans e⟩
      · have rr := hb.slot j sl q
        cases sl with
        | un => exact rr
        | sh q => obtain ⟨v, h1, h2⟩ := rr; exact ⟨v, h1, h2.mono key⟩
        | ol l => obtain ⟨a, us, h1, h2, h3, h4⟩ := rr; exact ⟨a, us, h1, List.mem_cons_of_mem _ h2, e _ _ h3, h4.mono key⟩
        | od l => obtain ⟨a, es, h1, h2, h3, h4, h5⟩ := rr; exact ⟨a, es, h1, List.mem_cons_of_mem _ h2, e _ _ h3, h4, RepD.mono key _ _ h5⟩
        | exn x => obtain ⟨a, h1, h2⟩ := rr; exact ⟨a, h1, g.EX.mono _ _ _ _ key h2⟩
      · rcases List.mem_cons.mp ha with rfl | ha
        · exact h0D
        · exact hb.o0 a ha
      · rcases List.mem_cons.mp ha with rfl | ha
        · exact ne
        · exact fun z => hb.od a ha (e.free z)
    let rst := fun i acc => dcL (asg t) (tstF g.c g.anc tst) (eltF g.c g.anc k') (eltF g.c g.anc e') (wipeE env vs) (l.drop i) acc
    refine dc_itG wk (Qd := Q (.ref D)) (fun i H2 => DcSt g O H1 D (rst i) r H2) ?_ (fun i H2 hi st => ?_) (fun i x H2 H3 hi st y => ?_) (fun H2 st => ?_)
    · exact ⟨same_upd hD, [], (#[], 0), eo, upd_same, ⟨fun e he => by simp at he, by simp⟩, by unfold RepD; rfl⟩
    · refine hGd env σ H2 (D :: O) ⟨pubAt st.sm, fun _ _ => rfl, fun _ _ => rfl, fun j a _ ho e => ?_⟩
      obtain ⟨a', ob, q2, q3, q4⟩ := owned_addr he1 ho
      rw [q2] at e; cases e
      exact ⟨List.mem_cons_of_mem _ q3, by rw [q4, st.sm _ _ q4]⟩
    · obtain ⟨sm2, acc, es, e1, e3, e4, e5⟩ := st
      have ne2 : H2 D ≠ none := by rw [e3]; exact fun z => nomatch z
      have se2 := slotsAt sm2 ne2
      obtain ⟨p, p1, p2, p3⟩ := hY i H2 x H3 (D :: O) hi (pubAt sm2) se2.live y
      have hd : l.drop i = p :: l.drop (i + 1) := by
        obtain ⟨hi', ep⟩ := List.getElem?_eq_some_iff.mp p1
        rw [List.drop_eq_getElem_cons hi', ep]
      have e1' : dcL (asg t) (tstF g.c g.anc tst) (eltF g.c g.anc k') (eltF g.c g.anc e') (wipeE env vs) (p :: l.drop (i + 1)) acc = .ok r := by rw [← hd]; exact e1
      obtain ⟨en1, b, q1, q2, q3⟩ := dc_step e1'
      have ne3 : H3 D ≠ none := by rw [p2 _ _ e3]; exact fun z => nomatch z
      have se3 := slotsAt (sm2.trans p2) ne3
      refine asg_ok t p x (L2.wipe σ vs) (wipeE env vs) en1 se3 p3 q1 _ fun σ2 he2 k2 => ?_
      refine ⟨wipe_eq (by rw [he2.len]; have := se3.len; rw [wipe_length] at this; rw [this]; exact (asg_len _ _ _ _ q1)) fun j hj => k2.slots j fun z => hj (hv j z), ?_⟩
      have hb : ∀ (c : Bool) (H4 : Hp), (Same H3 H4 ∧ c = b) → (if c = true then tE g.cold k' σ2 H4 fun y H5 => tE g.cold e' σ2 H5 fun z H6 => StoreG g.Z D y z H6 (DcSt g O H1 D (rst (i + 1)) r) else DcSt g O H1 D (rst (i + 1)) r H4) := by
        rintro c H4 ⟨s4, rfl⟩
        cases c with
        | false =>
          rw [if_neg (by decide)]
          rcases q3 with ⟨z, _⟩ | ⟨_, q3⟩
          · cases z
          · exact ⟨(sm2.trans p2).trans s4, acc, es, q3, s4 _ _ (p2 _ _ e3), e4, RepD.mono (hide_same _ (p2.trans s4)) _ _ e5⟩
        | true =>
          rw [if_pos rfl]
          rcases q3 with ⟨_, kv, v, q4, q5, q6, q7, q8⟩ | ⟨z, _⟩
          · unfold eltF guardX at q4 q5
            split at q4
            · rename_i hl1
              split at q5
              · rename_i hl2
                refine ⟨en1, D :: O, he2.mono s4, Out.mk q4 fun y' H5 r5 => ?_⟩
                have he5 := (he2.mono s4).mono r5.sm
                refine ⟨en1, D :: O, he5, Out.mk q5 fun z' H6 r6 => ?_⟩
                have s6 := ((p2.trans s4).trans r5.sm).trans r6.sm
                refine ⟨g.B ++ (D :: O), acc, es, kv, v, s6 _ _ e3, e4, RepD.mono (hide_same _ s6) _ _ e5, q6, (r5.str hl1).mono (hide_same _ r6.sm), r6.str hl2, Nat.le_of_lt q7, fun es' hr => ?_⟩
                refine ⟨fun bb o q => ?_, dset acc kv v, es', q8, upd_same, keysOk_put q6 e4, by rw [hide_upd (by simp)]; exact hr⟩
                rw [upd_ne (ne_of_none q hD)]
                exact (sm2.trans s6) _ _ q
              · cases q5
            · cases q4
          · cases z
      cases tst with
      | none => exact hb true H3 ⟨.refl _, by cases q2; rfl⟩
      | some q => exact ⟨en1, D :: O, he2, Out.mk q2 fun c H4 r4 => hb c H4 r4⟩
    · obtain ⟨sm2, acc, es, e1, e3, e4, e5⟩ := st
      have e1' : dcL (asg t) (tstF g.c g.anc tst) (eltF g.c g.anc k') (eltF g.c g.anc e') (wipeE env vs) (l.drop l.length) acc = .ok r := e1
      rw [List.drop_length] at e1'
      cases e1'
      have sub : Same (hide H2 (g.B ++ (D :: O))) (hide H2 (g.B ++ O)) := hide_sub fun a ha => by simp only [List.mem_append, List.mem_cons] at ha ⊢; rcases ha with z | z <;> simp [z]
      have rp : Rep g.Z (hide H2 (g.B ++ O)) (.dct r) (.ref D) := by
        unfold Rep
        exact ⟨D, es, rfl, hide_some.mpr ⟨nD, e3⟩, e4, RepD.mono sub _ _ e5⟩
      exact h _ H2 ⟨sm1.trans sm2, rp.b, fun _ => rp, fun _ => ⟨D, es, rfl, sm1.free hD, e3, e4, RepD.mono (hide_sub fun a ha => by simp only [List.mem_append, List.mem_cons] at ha ⊢; rcases ha with z | z | z <;> simp [z]) _ _ e5⟩⟩
theorem sd_dc (G : GX P w n X s g) (hh : s.hot = false) (ok : BlkOk s.N s.sc scope own) (hv : ∀ i ∈ tvs t, i ∈ own.map (·.2)) (hi : PI X tg iter (tI g [] it))
    (hg : ∀ (s0 : Shared) (H : Hp) (C : Addr) (cl : List (Str × Addr)) (fp : List Addr), PG (X.blk s0 H scope (compEnvC scope cl C X.env) fp) tg (tgt X.K t))
    (ht : ∀ (s0 : Shared) (H : Hp) (C : Addr) (cl : List (Str × Addr)) (fp : List Addr), PTs (X.blk s0 H scope (compEnvC scope cl C X.env) fp) ifs (tT g.cold tst))
    (hk : ∀ (s0 : Shared) (H : Hp) (C : Addr) (cl : List (Str × Addr)) (fp : List Addr), PE (X.blk s0 H scope (compEnvC scope cl C X.env) fp) kx (tE g.cold k'))
    (he : ∀ (s0 : Shared) (H : Hp) (C : Addr) (cl : List (Str × Addr)) (fp : List Addr), PE (X.blk s0 H scope (compEnvC scope cl C X.env) fp) elt (tE g.cold e'))
    (hs : ∀ x, foldedSetIterable iter X.env x = pure x) : PE X (.DictComp kx elt [⟨tg, iter, ifs, 0⟩] scope pos) (tE g (.dc (own.map (·.2)) t it tst k' e')) := by
  have ok' : BlkOk X.N X.env.scope scope own := by rw [G.hN, G.hsc]; exact ok
  exact pe_of (pe_dcG (by have := G.un; omega) (G.calm hh) (G.hN ▸ G.nd) hi ok' hg ht hk he hs) fun σ H Q h => by
    have := dc_in hv X.K (by rw [G.hz]) h
    rwa [G.hz] at this
end
end G
namespace G
open PySem PySem.Spec PyProof.Rows L2
section
variable {P : PInf} {w n : Nat} {X : Cx} {s : SC} {g : Gs} {a b d : Expr} {a' b' d' : E} {pos apos cpos : Pos}
/-! ### d.get(k), d.get(k, x) -/
theorem rbO {α β : Type} (a : α) (f : α → G.R β) : G.R.bind (.ok a) f = f a := rfl
theorem meets_get1 {prog : Program} {w : World} {D : Addr} {u : Value} (hd : (D == sysModules) = false) :
    MeetsIn prog w (Builtin.«dict.get» ⟨[.ref D, u], []⟩) (fun A R s => A.in1.units + 8 < cLine ∧ ∃ (k : NestedKey) (es : Array DictEntry) (ks : List NestedKey), NestedIs s.heap k u ∧ k.depth ≤ 8 ∧ DAt w s.heap D es ks ∧
      R (.ok (.ret ((valD es ks k).getD .none))) { s with toks := s.toks + k.draws }) :=
  .of_wp fun A R s h => by
    obtain ⟨hr, k, es, ks, hu, h8, T, h⟩ := h
    obtain ⟨o, ep, ho, _, hdt⟩ := T.obj
    show wpAny _ _ (dictGet D u >>= _) _ _ s
    refine wpAny_bind (get_key T.ents hu h8 hr ho hdt ?_)
    cases hf : valD es ks k with
    | some v =>
      rw [hf] at h
      exact wpAny_pure ⟨v, rfl, h⟩
    | none =>
      rw [hf] at h
      show wpAny _ _ (Builtin.Dict.missed D u >>= _) _ _ _
      exact wpAny_bind (wpAny_missed_other hd (wpAny_pure ⟨.none, rfl, h⟩))
theorem meets_get2 {prog : Program} {w : World} {D : Addr} {u x : Value} (hd : (D == sysModules) = false) :
    MeetsIn prog w (Builtin.«dict.get» ⟨[.ref D, u, x], []⟩) (fun A R s => A.in1.units + 8 < cLine ∧ ∃ (k : NestedKey) (es : Array DictEntry) (ks : List NestedKey), NestedIs s.heap k u ∧ k.depth ≤ 8 ∧ DAt w s.heap D es ks ∧
      R (.ok (.ret ((valD es ks k).getD x))) { s with toks := s.toks + k.draws }) :=
  .of_wp fun A R s h => by
    obtain ⟨hr, k, es, ks, hu, h8, T, h⟩ := h
    obtain ⟨o, ep, ho, _, hdt⟩ := T.obj
    show wpAny _ _ (dictGet D u >>= _) _ _ s
    refine wpAny_bind (get_key T.ents hu h8 hr ho hdt ?_)
    cases hf : valD es ks k with
    | some v =>
      rw [hf] at h
      exact wpAny_pure ⟨v, rfl, h⟩
    | none =>
      rw [hf] at h
      show wpAny _ _ (Builtin.Dict.missed D u >>= _) _ _ _
      exact wpAny_bind (wpAny_missed_other hd (wpAny_pure ⟨x, rfl, h⟩))
theorem do_plain {pins : List (Addr × Obj)} {σ : L2.St} {H : Hp} {s : Shared} {D : Addr} {es : DS} (I : Inv X pins σ H s) (h : H D = some (DO D es)) :
    s.TypeIs (.ref D) "dict" ∧ ∀ b, Value.ref D = .ref b → ∃ ob, s.heap.get? b = some ob ∧ ob.dict = none := by
  obtain ⟨_, o, e1, e2, e3⟩ := do_at I h
  refine ⟨⟨o, e1, e2.1⟩, fun b z => ?_⟩
  cases z
  exact ⟨o, e1, e2.2.1⟩
theorem get_val {S : List Addr} {H : Hp} {l : List (PV × PV)} {es : DS} {k : PV} (hk : keyB 8 k = true) (h2 : KeysOk l) (h3 : RepD g.Z (hide H S) l es.1.toList) (dflt : PV) (du : Value) (dv : V) (hdv : RelV dv du) (hdr : Rep g.Z (hide H S) dflt dv) :
    ∃ v, RelV v ((valD es.1 (l.map fun e => nk e.1) (nk k)).getD du) ∧ Rep g.Z (hide H S) ((dget l k).getD dflt) v := by
  have := dget_D hk h2 h3
  cases q : dget l k with
  | none =>
    rw [q] at this
    rw [show valD es.1 (l.map fun e => nk e.1) (nk k) = none from this]
    exact ⟨dv, hdv, hdr⟩
  | some p =>
    rw [q] at this
    obtain ⟨u, v, h1, h4, h5⟩ := this
    rw [h1]
    exact ⟨v, h4, h5⟩
theorem m1_ok {nm : Str} (h1 : attributeBase a nm X.env (eval a X.env) = eval a X.env) (h2 : starEach [b] X.env = [(false, eval b X.env)]) (h3 : (apos.endLine == cpos.line) = true) : M1 X a nm apos b cpos :=
  ⟨h1, by rw [h2]; rfl, h3, by rw [h2]; rfl⟩
theorem m2_ok {nm : Str} (h1 : attributeBase a nm X.env (eval a X.env) = eval a X.env) (h2 : starEach [b, d] X.env = [(false, eval b X.env), (false, eval d X.env)]) (h3 : (apos.endLine == cpos.line) = true) : M2 X a nm apos b d cpos :=
  ⟨h1, by rw [h2]; rfl, h3, by rw [h2]; rfl⟩
/-- the dict, and what is left to be asked -/
def GotD (g : Gs) (σ : L2.St) (H : Hp) (env : Env) (O : List Addr) (m : Me) (e : E) (es : List E) (Q : VK) : VK := fun x H1 => ∃ D l es', x = .ref D ∧ H1 D = some (DO D es') ∧ KeysOk l ∧ RepD g.Z (hide H1 (g.B ++ O)) l es'.1.toList ∧ Same H H1 ∧
  Out g σ H O ((denX g.c g.anc es env).bind (pvMe m (.dct l))) (ResP g H O env (.met m e es)) Q
theorem got_dct {m : Me} {es : List E} (hm : ∀ p, meOk m p = true → ∃ l, p = .dct l) {σ : L2.St} {H : Hp} {Q : VK} {env : Env} {O : List Addr} (he : g.env σ H O env) (h : Out g σ H O (denE g.c g.anc (.met m a' es) env) (ResP g H O env (.met m a' es)) Q) : tE g a' σ H (GotD g σ H env O m a' es Q) := by
  simp only [denE] at h
  refine ⟨env, O, he, Out.bind (ok' := ResP g H O env a') h fun p ep h => ?_⟩
  intro x H1 r1
  cases q : meOk m p with
  | false => rw [q] at h; exact h.elim
  | true =>
    rw [q] at h
    obtain ⟨l, rfl⟩ := hm p q
    obtain ⟨D, es', rfl, h1, h2, h3⟩ := r1.brw
    exact ⟨D, l, es', rfl, h1, h2, h3, r1.sm, h⟩
theorem sd_get1 (G : GX P w n X s g) (m : M1 X a "get" apos b cpos) (ha : PE X a (tE g a')) (hb : PE X b (tE g b')) : PE X (.Call (.Attribute a "get" apos) [b] [] cpos) (tE g (.met .get1 a' [b'])) := by
  refine ⟨fun pins sh σ H Q I h => ?_⟩
  obtain ⟨env, O, he, h⟩ := h
  have h1 := got_dct (m := .get1) (fun p hp => by cases p <;> simp [meOk] at hp; exact ⟨_, rfl⟩) he h
  refine wpAny_Call_method m.base m.few m.line PySem.F.plainAttrs_dict PySem.F.slot_dict_get PySem.F.type_dict_get (thn (ha.run pins sh σ H _ I h1) fun u s1 hx => ?_)
  obtain ⟨x, H1, I1, rx, D, l, es, rfl, e1, e2, e3, sm1, h⟩ := hx
  obtain rfl : u = Value.ref D := rx
  obtain ⟨t1, t2⟩ := do_plain I1 e1
  refine ⟨t1, t2, ?_⟩
  rw [m.trees]
  have he1 := he.mono sm1
  have h2 : tE g b' σ H1 (fun y H2 => ∃ k, Same H1 H2 ∧ Rep g.Z (hide H2 (g.B ++ O)) k y ∧ Out g σ H O (pvMe .get1 (.dct l) [k]) (ResP g H O env (.met .get1 a' [b'])) Q) := by
    refine ⟨env, O, he1, ?_⟩
    simp only [denX] at h
    unfold guardX at h
    split at h
    · rename_i hl
      cases q : denE g.c g.anc b' env with
      | bad => rw [q] at h; exact h.elim
      | ex z => rw [q] at h; exact fun C d H' sm k => h C d H' (sm1.trans sm) k
      | ok k =>
        rw [q] at h
        exact fun y H2 r2 => ⟨k, r2.sm, r2.str hl, h⟩
    · exact h.elim
  refine Calls.callWith_builtin rfl (Calls.evalArgs_plain (Calls.spliced_cons (thn (hb.run pins s1 σ H1 _ I1 h2) fun iv s2 hy => Calls.spliced_nil ?_)))
  obtain ⟨y, H2, I2, ry, k, sm2, rk, h⟩ := hy
  simp only [pvMe] at h
  split at h
  · rename_i hk
    have e1' := sm2 _ _ e1
    have e3' := RepD.mono (hide_same (g.B ++ O) sm2) _ _ e3
    have hz : g.Z = zOf X := G.hz
    have rkz : Rep (zOf X) (hide H2 (g.B ++ O)) k y := by rw [← hz]; exact rk
    have e3z : RepD (zOf X) (hide H2 (g.B ++ O)) l es.1.toList := by rw [← hz]; exact e3'
    have hn := nest_ok I2 8 k y iv hk (Rep.mono (hide_le H2 (g.B ++ O)) _ _ rkz) ry
    have hD := dat_of I2 (hide_le H2 (g.B ++ O)) e1' e2 e3z
    have hsm := (do_at I2 e1').1
    obtain ⟨v, v1, v2⟩ := get_val (g := g) hk e2 e3' .non .none .non rfl (by simp [Rep])
    refine call_meetsIn PySem.F.slot_dict_get hD.ty PySem.F.entry_dict_get (PySem.F.args_dict_get_2 _ _) (meets_get1 hsm) ⟨by have := G.un; show X.A.units + 1 + 8 < cLine; omega, nk k, es.1, _, hn, depth_le 8 k hk, hD, ?_⟩
    exact ⟨v, H2, I2.tok _, v1, h v H2 ⟨sm1.trans sm2, v2.b, fun _ => v2, fun z => by simp [freshE] at z⟩⟩
  · exact h.elim
theorem sd_get2 (G : GX P w n X s g) (m : M2 X a "get" apos b d cpos) (ha : PE X a (tE g a')) (hb : PE X b (tE g b')) (hd : PE X d (tE g d')) : PE X (.Call (.Attribute a "get" apos) [b, d] [] cpos) (tE g (.met .get2 a' [b', d'])) := by
  refine ⟨fun pins sh σ H Q I h => ?_⟩
  obtain ⟨env, O, he, h⟩ := h
  have h1 := got_dct (m := .get2) (fun p hp => by cases p <;> simp [meOk] at hp; exact ⟨_, rfl⟩) he h
  refine wpAny_Call_method m.base m.few m.line PySem.F.plainAttrs_dict PySem.F.slot_dict_get PySem.F.type_dict_get (thn (ha.run pins sh σ H _ I h1) fun u s1 hx => ?_)
  obtain ⟨x, H1, I1, rx, D, l, es, rfl, e1, e2, e3, sm1, h⟩ := hx
  obtain rfl : u = Value.ref D := rx
  obtain ⟨t1, t2⟩ := do_plain I1 e1
  refine ⟨t1, t2, ?_⟩
  rw [m.trees]
  have he1 := he.mono sm1
  have h2 : tE g b' σ H1 (fun y H2 => ∃ k, Same H1 H2 ∧ Rep g.Z (hide H2 (g.B ++ O)) k y ∧ Out g σ H O ((denX g.c g.anc [d'] env).bind fun r => pvMe .get2 (.dct l) (k :: r)) (ResP g H O env (.met .get2 a' [b', d'])) Q) := by
    refine ⟨env, O, he1, ?_⟩
    have eX : denX g.c g.anc [b', d'] env = (guardX (lone env b') (denE g.c g.anc b' env)).bind fun x => (denX g.c g.anc [d'] env).bind fun r => .ok (x :: r) := by rw [denX]; rfl
    rw [eX] at h
    unfold guardX at h
    split at h
    · rename_i hl
      cases q : denE g.c g.anc b' env with
      | bad => rw [q] at h; exact h.elim
      | ex z => rw [q] at h; exact fun C d H' sm k => h C d H' (sm1.trans sm) k
      | ok k =>
        rw [q] at h
        intro y H2 r2
        refine ⟨k, r2.sm, r2.str hl, ?_⟩
        simp only [rbO] at h
        cases q2 : denX g.c g.anc [d'] env with
        | bad => rw [q2] at h; exact h
        | ex z => rw [q2] at h; exact h
        | ok r => rw [q2] at h; exact h
    · exact h.elim
  refine Calls.callWith_builtin rfl (Calls.evalArgs_plain (Calls.spliced_cons (thn (hb.run pins s1 σ H1 _ I1 h2) fun iv s2 hy => ?_)))
  obtain ⟨y, H2, I2, ry, k, sm2, rk, h⟩ := hy
  have he2 := he1.mono sm2
  have sm12 := sm1.trans sm2
  have h3 : tE g d' σ H2 (fun z H3 => ∃ q, Same H2 H3 ∧ Rep g.Z (hide H3 (g.B ++ O)) q z ∧ Out g σ H O (pvMe .get2 (.dct l) [k, q]) (ResP g H O env (.met .get2 a' [b', d'])) Q) := by
    refine ⟨env, O, he2, ?_⟩
    simp only [denX] at h
    unfold guardX at h
    split at h
    · rename_i hl
      cases q : denE g.c g.anc d' env with
      | bad => rw [q] at h; exact h.elim
      | ex z => rw [q] at h; exact fun C d H' sm k => h C d H' (sm12.trans sm) k
      | ok q1 =>
        rw [q] at h
        exact fun y H2 r2 => ⟨q1, r2.sm, r2.str hl, h⟩
    · exact h.elim
  refine Calls.spliced_cons (thn (hd.run pins s2 σ H2 _ I2 h3) fun jv s3 hz3 => Calls.spliced_nil ?_)
  obtain ⟨z, H3, I3, rz, q, sm3, rq, h⟩ := hz3
  simp only [pvMe] at h
  split at h
  · rename_i hk
    have e1' := sm3 _ _ (sm2 _ _ e1)
    have e3' := RepD.mono (hide_same (g.B ++ O) (sm2.trans sm3)) _ _ e3
    have rk' := rk.mono (hide_same (g.B ++ O) sm3)
    have hz : g.Z = zOf X := G.hz
    have rkz : Rep (zOf X) (hide H3 (g.B ++ O)) k y := by rw [← hz]; exact rk'
    have e3z : RepD (zOf X) (hide H3 (g.B ++ O)) l es.1.toList := by rw [← hz]; exact e3'
    have hn := nest_ok I3 8 k y iv hk (Rep.mono (hide_le H3 (g.B ++ O)) _ _ rkz) ry
    have hD := dat_of I3 (hide_le H3 (g.B ++ O)) e1' e2 e3z
    have hsm := (do_at I3 e1').1
    obtain ⟨v, v1, v2⟩ := get_val (g := g) hk e2 e3' q jv z rz rq
    refine call_meetsIn PySem.F.slot_dict_get hD.ty PySem.F.entry_dict_get (PySem.F.args_dict_get_3 _ _ _) (meets_get2 hsm) ⟨by have := G.un; show X.A.units + 1 + 8 < cLine; omega, nk k, es.1, _, hn, depth_le 8 k hk, hD, ?_⟩
    exact ⟨v, H3, I3.tok _, v1, h v H3 ⟨sm12.trans sm3, v2.b, fun _ => v2, fun z => by simp [freshE] at z⟩⟩
  · exact h.elim
/-! ### xs[::-1] -/
theorem repL_rev {Z : Zd} {H : Hp} : ∀ {l : List PV} {vs : List V}, RepL Z H l vs → RepL Z H l.reverse vs.reverse
  | [], _, h => by unfold RepL at h; subst h; exact .nil
  | p :: ps, _, h => by
    unfold RepL at h
    obtain ⟨v, r, rfl, h1, h2⟩ := h
    rw [List.reverse_cons, List.reverse_cons]
    exact (repL_rev h2).app (.cons h1 .nil)
theorem sd_rvs {k : Nat} {p1 p2 p3 : Pos} (G : GX P w n X s g) (ha : PE X a (tE g a')) : PE X (.Subscript a (.Slice none none (some (.UnaryOp .USub (.Constant (.int 1) k p1) p2)) p3) pos) (tE g (.met .rvs a' [])) := by
  refine pe_of (pe_revL ha) fun σ H Q h => ?_
  obtain ⟨env, O, he, h⟩ := h
  simp only [denE] at h
  refine ⟨env, O, he, Out.bind (ok' := ResP g H O env a') h fun p ep h => ?_⟩
  intro x H1 r1
  cases p <;> simp only [meOk, guardL, if_true, denX, bind_ok, pvMe] at h <;> try exact h.elim
  rename_i l
  obtain ⟨D, vs, rfl, h1, h2⟩ := r1.brw
  have hK : g.Z.K = X.K := by rw [G.hz]
  refine ⟨D, vs, rfl, hK ▸ h1, fun p hp => ?_⟩
  have rr := repL_rev h2
  have gt := Got.lst (he.mono r1.sm).live hp rr
  obtain ⟨ga, gv, g1, g2, g3, g4⟩ := Frs.lst (S := g.B ++ O) hp rr
  exact h _ _ ⟨r1.sm.trans gt.sm, gt.rep.b, fun _ => gt.rep, fun z => ⟨ga, gv, g1, r1.sm.free g2, g3, g4⟩⟩
end
end G
namespace G
open PySem PySem.Spec PyProof.Rows L2
/-! ### {k: v, ..} -/
theorem newO_env {Z : Zd} {H0 : Hp} {B : List Addr} {EX : ExP} {σ : L2.St} {H : Hp} {O : List Addr} {env : Env} (he : EnvRep Z H0 B EX σ H O env) {p : Addr} {o : HO} (hp : H p = none) : EnvRep Z H0 B EX σ (upd H p o) (p :: O) env := by
  have key : Same (hide H (B ++ O)) (hide (upd H p o) (B ++ (p :: O))) := fun b x q => by
    obtain ⟨q1, q2⟩ := hide_some.mp q
    have hb := ne_of_none q2 hp
    refine hide_some.mpr ⟨?_, by rw [upd_ne hb]; exact q2⟩
    simp only [List.mem_append, List.mem_cons, not_or] at q1 ⊢
    exact ⟨q1.1, hb, q1.2⟩
  have sm := same_upd (o := o) hp
  refine ⟨he.len, fun j sl q => ?_, he.dis, fun a ha => ?_, fun a ha => ?_, he.b0, he.sm.trans sm⟩
  · have rr := he.slot j sl q
    cases sl with
    | un => exact rr
    | sh q => obtain ⟨v, h1, h2⟩ := rr; exact ⟨v, h1, h2.mono key⟩
    | ol l => obtain ⟨a, us, h1, h2, h3, h4⟩ := rr; exact ⟨a, us, h1, List.mem_cons_of_mem _ h2, sm _ _ h3, h4.mono key⟩
    | od l => obtain ⟨a, es, h1, h2, h3, h4, h5⟩ := rr; exact ⟨a, es, h1, List.mem_cons_of_mem _ h2, sm _ _ h3, h4, RepD.mono key _ _ h5⟩
    | exn x => obtain ⟨a, h1, h2⟩ := rr; exact ⟨a, h1, EX.mono _ _ _ _ key h2⟩
  · rcases List.mem_cons.mp ha with rfl | ha
    · exact he.sm.free hp
    · exact he.o0 a ha
  · rcases List.mem_cons.mp ha with rfl | ha
    · rw [upd_same]; exact fun z => nomatch z
    · exact fun z => he.od a ha (sm.free z)
inductive RepPs (Z : Zd) (H : Hp) : List PV → List PV → List (V × V) → Prop where
  | nil : RepPs Z H [] [] []
  | cons {k p : PV} {x y : V} {ks ps : List PV} {r : List (V × V)} : Rep Z H k x → Rep Z H p y → RepPs Z H ks ps r → RepPs Z H (k :: ks) (p :: ps) ((x, y) :: r)
theorem RepPs.mono {Z : Zd} {H H' : Hp} (e : Same H H') {ks ps : List PV} {r : List (V × V)} (h : RepPs Z H ks ps r) : RepPs Z H' ks ps r := by
  induction h with
  | nil => exact .nil
  | cons h1 h2 _ ih => exact .cons (h1.mono e) (h2.mono e) ih
section
variable {P : PInf} {w n : Nat} {X : Cx} {s : SC} {g : Gs} {pos : Pos}
theorem denX_cons {c : Orc} {anc : List (List Nat)} {e : E} {es : List E} {env : Env} {l : List PV} (h : denX c anc (e :: es) env = .ok l) : ∃ x r, lone env e = true ∧ denE c anc e env = .ok x ∧ denX c anc es env = .ok r ∧ l = x :: r := by
  simp only [denX] at h
  obtain ⟨x, h1, h2⟩ := bind_eq h
  obtain ⟨r, h3, h4⟩ := bind_eq h2
  cases h4
  unfold guardX at h1
  split at h1
  · exact ⟨x, r, by assumption, h1, h3, rfl⟩
  · cases h1
theorem pairs_in {env : Env} {O : List Addr} : ∀ {ks' vs' : List E} {kps vps : List PV} {σ : L2.St} {H : Hp} {Q : List (V × V) → Hp → Prop}, ks'.length = vs'.length → denX g.c g.anc ks' env = .ok kps → denX g.c g.anc vs' env = .ok vps → g.env σ H O env →
    (∀ ps H', Same H H' → RepPs g.Z (hide H' (g.B ++ O)) kps vps ps → Q ps H') → tPairs ((ks'.zip vs').map fun e => (tE g e.1, tE g e.2)) σ H Q
  | [], [], kps, vps, σ, H, Q, _, h1, h2, he, hq => by
    simp only [denX] at h1 h2
    cases h1
    cases h2
    exact hq [] H (.refl H) .nil
  | k :: ks', v :: vs', kps, vps, σ, H, Q, hl, h1, h2, he, hq => by
    obtain ⟨x, r, l1, d1, d2, rfl⟩ := denX_cons h1
    obtain ⟨y, q, l2, d3, d4, rfl⟩ := denX_cons h2
    refine ⟨env, O, he, Out.mk d1 fun xv H1 r1 => ?_⟩
    have he1 := he.mono r1.sm
    refine ⟨env, O, he1, Out.mk d3 fun yv H2 r2 => ?_⟩
    refine pairs_in (by simpa using hl) d2 d4 (he1.mono r2.sm) fun ps H3 sm rp => ?_
    exact hq _ H3 ((r1.sm.trans r2.sm).trans sm) (.cons ((r1.str l1).mono (hide_same _ (r2.sm.trans sm))) ((r2.str l2).mono (hide_same _ sm)) rp)
  | [], _ :: _, kps, vps, σ, H, Q, hl, h1, h2, he, hq => by simp at hl
  | _ :: _, [], kps, vps, σ, H, Q, hl, h1, h2, he, hq => by simp at hl
theorem dset_len (k p : PV) : ∀ l : List (PV × PV), (dset l k p).length ≤ l.length + 1
  | [] => by simp [dset]
  | e :: r => by
    simp only [dset]
    split
    · simp
    · have := dset_len k p r
      simp; omega
theorem storeG {pins : List (Addr × Obj)} {σ : L2.St} {S : List Addr} {D : Addr} (hu : X.A.units + 65 < cLine) (hD : D ∈ S) {E : Value → Shared → Prop} : ∀ (kps vps : List PV) (ps : List (V × V)) (ws : List (Value × Value)) (acc : List (PV × PV)) (es : DS) (H : Hp) (sh : Shared) (R : Shared → Prop),
    Inv X pins σ H sh → H D = some (DO D es) → KeysOk acc → RepD (zOf X) (hide H S) acc es.1.toList → VV ps ws → RepPs (zOf X) (hide H S) kps vps ps → keyBs 8 kps = true → acc.length + kps.length ≤ 1000 →
    (∀ es' s', Inv X pins σ (upd H D (DO D es')) s' → KeysOk ((kps.zip vps).foldl (fun d e => dset d e.1 e.2) acc) → RepD (zOf X) (hide H S) ((kps.zip vps).foldl (fun d e => dset d e.1 e.2) acc) es'.1.toList → R s') →
    wpAny (model X.prog X.w) X.A (storeAll D ws) (fun _ s' => R s') E sh := by
  intro kps
  induction kps with
  | nil =>
    intro vps ps ws acc es H sh R I h1 h2 h3 rel rr hk hl q
    cases rr
    cases rel
    unfold storeAll
    rw [List.forIn_nil]
    have e : upd H D (DO D es) = H := by
      funext b
      by_cases hb : b = D
      · rw [hb, upd_same, h1]
      · rw [upd_ne hb]
    exact wpAny_pure (q es sh (by rw [e]; exact I) h2 h3)
  | cons k ks ih =>
    intro vps ps ws acc es H sh R I h1 h2 h3 rel rr hk hl q
    cases rr with
    | @cons _ p x y _ vps' r r1 r2 rr =>
      cases rel with
      | @cons _ wv _ ws' rh rt =>
        simp only [keyBs, Bool.and_eq_true] at hk
        unfold storeAll
        rw [List.forIn_cons]
        have hlen : acc.length ≤ lineMax := by unfold lineMax; omega
        refine wpAny_bind (wpAny_bind (d_setG hu I h1 h2 h3 hk.1 r1 r2 rh.1 rh.2 hlen fun es' s' hr I' => wpAny_pure ?_))
        have hh : hide (upd H D (DO D es')) S = hide H S := hide_upd hD
        have hl2 : (dset acc k p).length + ks.length ≤ 1000 := by
          have := dset_len k p acc
          simp at hl
          omega
        refine ih vps' r ws' (dset acc k p) es' (upd H D (DO D es')) s' R I' upd_same (keysOk_put hk.1 h2) (by rw [hh]; exact hr) rt (by rw [hh]; exact rr) hk.2 hl2 fun es2 s2 I2 k2 rd => ?_
        rw [hh] at rd
        have e2 : upd (upd H D (DO D es')) D (DO D es2) = upd H D (DO D es2) := by
          funext b
          by_cases hb : b = D
          · rw [hb, upd_same, upd_same]
          · rw [upd_ne hb, upd_ne hb, upd_ne hb]
        rw [e2] at I2
        exact q es2 s2 I2 k2 rd
theorem sd_dct {keys : List (Option Expr)} {values : List Expr} {ks' vs' : List E} (G : GX P w n X s g) (hl : ks'.length = vs'.length) (hp : PPs X pos keys values ((ks'.zip vs').map fun e => (tE g e.1, tE g e.2))) (hall : keys.all (·.isSome) = true) (hlen : keys.length = values.length) (h0 : keys ≠ []) (h15 : keys.length ≤ 15) :
    PE X (.Dict keys values pos) (tE g (.dct ks' vs')) := by
  refine ⟨fun pins sh σ H Q I h => ?_⟩
  obtain ⟨env, O, he, h⟩ := h
  simp only [denE] at h
  cases q1 : denX g.c g.anc ks' env with
  | bad => rw [q1] at h; exact h.elim
  | ex z => rw [q1] at h; exact h.elim
  | ok kps =>
    cases q2 : denX g.c g.anc vs' env with
    | bad => rw [q1, q2] at h; exact h.elim
    | ex z => rw [q1, q2] at h; exact h.elim
    | ok vps =>
      rw [q1, q2] at h
      simp only [noEx, bind_ok] at h
      split at h
      rotate_left
      · exact h.elim
      rename_i hk
      rw [Bool.and_eq_true, decide_eq_true_iff] at hk
      obtain ⟨p, hp'⟩ : ∃ p, sh.heap.objs.size = p := ⟨_, rfl⟩
      have hn : H p = none := I.hok.fresh (Nat.le_of_eq hp')
      have I1 : Inv X pins σ (nilG H p) { sh with heap := sh.heap.push { cls := .type "dict", data := .dict #[] } } :=
        I.laid (t' := sh.toks) (fun _ _ q => Heap.get?_push_of_some _ q) (Nat.le_of_eq hp') (hp' ▸ do_empty sh.heap I.big)
      have he1 : g.env σ (nilG H p) (p :: O) env := newO_env he hn
      have hz : g.Z = zOf X := G.hz
      refine wpAny_Dict_any hall hlen h0 h15 ?_
      rw [hp']
      refine thn (hp.run pins _ σ _ _ I1 (pairs_in (Q := fun ps H2 => Same (nilG H p) H2 ∧ RepPs g.Z (hide H2 (g.B ++ (p :: O))) kps vps ps) hl q1 q2 he1 fun ps H2 sm rp => ⟨sm, rp⟩)) fun ws s2 hx => ?_
      obtain ⟨ps, H2, I2, rel, sm2, rp⟩ := hx
      have e0 : H2 p = some (DO p (#[], 0)) := sm2 _ _ upd_same
      rw [hz] at rp
      refine storeG (S := g.B ++ (p :: O)) (by have := G.un; omega) (by simp) kps vps ps ws [] (#[], 0) H2 s2 _ I2 e0 ⟨fun e he => by simp at he, by simp⟩ (by unfold RepD; rfl) rel rp hk.1 (by simp; omega) fun es' s3 I3 k3 r3 => ?_
      have nD : p ∉ g.B ++ O := fun z => he.live p z hn
      have smH : Same H (upd H2 p (DO p es')) := fun b o e => by
        have hb := ne_of_none e hn
        rw [upd_ne hb]
        exact sm2 _ _ (by rw [nilG, upd_ne hb]; exact e)
      rw [← hz] at r3
      have r4 : RepD g.Z (hide (upd H2 p (DO p es')) (g.B ++ (p :: O))) ((kps.zip vps).foldl (fun d e => dset d e.1 e.2) []) es'.1.toList := by
        rw [hide_upd (by simp)]
        exact r3
      have sub : Same (hide (upd H2 p (DO p es')) (g.B ++ (p :: O))) (hide (upd H2 p (DO p es')) (g.B ++ O)) := hide_sub fun a ha => by simp only [List.mem_append, List.mem_cons] at ha ⊢; rcases ha with z | z <;> simp [z]
      have rpD : Rep g.Z (hide (upd H2 p (DO p es')) (g.B ++ O)) (.dct ((kps.zip vps).foldl (fun d e => dset d e.1 e.2) [])) (.ref p) := by
        unfold Rep
        exact ⟨p, es', rfl, hide_some.mpr ⟨nD, upd_same⟩, k3, RepD.mono sub _ _ r4⟩
      exact ⟨.ref p, _, I3, rfl, h _ _ ⟨smH, rpD.b, fun _ => rpD, fun _ => ⟨p, es', rfl, hn, upd_same, k3, RepD.mono (hide_sub fun a ha => by simp only [List.mem_append, List.mem_cons] at ha ⊢; rcases ha with z | z | z <;> simp [z]) _ _ r4⟩⟩⟩
end
end G
namespace G
open PySem PySem.Spec PyProof.Rows L2

theorem obind {α β : Type} {o : Option α} {f : α → Option β} {b : β} (h : (o >>= f) = some b) : ∃ a, o = some a ∧ f a = some b := Option.bind_eq_some_iff.mp h
theorem omap {α β : Type} {o : Option α} {f : α → β} {b : β} (h : o.map f = some b) : ∃ a, o = some a ∧ f a = b := Option.map_eq_some_iff.mp h
theorem ife_some {α : Type} {c : Bool} {a : Option α} {b : α} (h : (if c = true then a else none) = some b) : c = true ∧ a = some b := by
  cases c with
  | true => exact ⟨rfl, h⟩
  | false => cases h
theorem ix_get {l : List Str} {x : Str} {i : Nat} (h : l.findIdx? (· == x) = some i) : l[i]? = some x := by
  obtain ⟨h1, h2, _⟩ := List.findIdx?_eq_some_iff_getElem.mp h
  rw [List.getElem?_eq_getElem h1]
  simpa using h2
section
variable {P : PInf} {w n : Nat}
theorem GX.dfn {X : Cx} {s : SC} {g : Gs} (G : GX P w n X s g) {x : Str} {i : Nat} (h : defIx P x = some i) : ∃ d, P.prog.defs[i]? = some d ∧ P.dnm[i]? = some x := by
  have h1 := ix_get h
  obtain ⟨h2, _⟩ := List.getElem?_eq_some_iff.mp h1
  rw [G.dl] at h2
  exact ⟨_, List.getElem?_eq_getElem h2, h1⟩
theorem bl_use {s : SC} {x : Str} (h : bl P s x = true) : glb s x = true ∧ x ∈ P.blt := by
  unfold bl at h
  rw [Bool.and_eq_true] at h
  exact ⟨h.1, List.contains_iff_mem.mp h.2⟩
theorem pg_of {X : Cx} {e : Expr} {t t' : TG} (h : PG X e t) (k : t' = t) : PG X e t' := k ▸ h

/-! ### targets -/
theorem blkN_ok {X : Cx} {scope : Scope} {s0 : Shared} {H : Hp} {cl : List (Str × Addr)} {C : Addr} {fp : List Addr} {x : Str} (h : blkN scope x = true) :
    L2.Loc (X.blk s0 H scope (compEnvC scope cl C X.env) fp).env.scope x ∧ ((X.blk s0 H scope (compEnvC scope cl C X.env) fp).fn x = true ∨ (X.blk s0 H scope (compEnvC scope cl C X.env) fp).env.scope.names.lookup x = some .local) := by
  unfold blkN at h
  rw [Bool.or_eq_true, beq_iff_eq, beq_iff_eq] at h
  rcases h with h | h
  · have k : (relS scope X.env.scope).names.lookup x = some .local := lookup_relS_keep (by decide) h
    exact ⟨.inl k, .inr k⟩
  · have k : (relS scope X.env.scope).names.lookup x = some .cell := lookup_relS_keep (by decide) h
    exact ⟨.inr k, .inl (by show (scope.names.lookup x == some .cell) = true; rw [h]; rfl)⟩
mutual
theorem trT_ok {X : Cx} {s : SC} {g : Gs} (G : GX P w n X s g) (ok : Str → Bool) (hb : ∀ x, ok x = true → L2.Loc X.env.scope x ∧ (X.fn x = true ∨ X.env.scope.names.lookup x = some .local)) : ∀ (f : Nat) (e : Expr) (t : T), trT ok s f e = some t → PG X e (tgt X.K t)
  | 0, e, t, h => by simp [trT] at h
  | f + 1, .Name x pos, t, h => by
    simp only [trT] at h
    obtain ⟨h1, h⟩ := ife_some h
    obtain ⟨i, hi, rfl⟩ := omap h
    obtain ⟨y1, y2, y3, y4⟩ := loc_use hi
    obtain ⟨k1, k2⟩ := hb x h1
    exact pg_name (G.hN ▸ G.nd) (by rw [G.hN]; exact y1) k1 k2
  | f + 1, .Tuple es k pos, t, h => by
    simp only [trT] at h
    split at h
    · cases h
    · rename_i hh
      obtain ⟨ts, h1, rfl⟩ := omap h
      obtain ⟨k1, k2, k3⟩ := trTs_ok G ok hb f es ts h1
      unfold tgt
      refine pg_tup (G.calm (by simpa using hh)) k1 k2 k3
  | f + 1, .BoolOp .., t, h | f + 1, .NamedExpr .., t, h | f + 1, .BinOp .., t, h | f + 1, .UnaryOp .., t, h | f + 1, .Lambda .., t, h | f + 1, .IfExp .., t, h | f + 1, .Dict .., t, h | f + 1, .Set .., t, h
  | f + 1, .ListComp .., t, h | f + 1, .SetComp .., t, h | f + 1, .DictComp .., t, h | f + 1, .GeneratorExp .., t, h | f + 1, .Await .., t, h | f + 1, .Yield .., t, h | f + 1, .YieldFrom .., t, h | f + 1, .Compare .., t, h
  | f + 1, .Call .., t, h | f + 1, .FormattedValue .., t, h | f + 1, .JoinedStr .., t, h | f + 1, .Constant .., t, h | f + 1, .Attribute .., t, h | f + 1, .Subscript .., t, h | f + 1, .Starred .., t, h | f + 1, .List .., t, h
  | f + 1, .Slice .., t, h => by simp [trT] at h
theorem trTs_ok {X : Cx} {s : SC} {g : Gs} (G : GX P w n X s g) (ok : Str → Bool) (hb : ∀ x, ok x = true → L2.Loc X.env.scope x ∧ (X.fn x = true ∨ X.env.scope.names.lookup x = some .local)) : ∀ (f : Nat) (es : List Expr) (ts : List T), trTs ok s f es = some ts →
    PGs X es (tgts X.K ts) ∧ (assignEach es X.env).length = ts.length ∧ (assignEach es X.env).findIdx? (·.1) = none
  | 0, es, ts, h => by simp [trTs] at h
  | f + 1, [], ts, h => by
    simp only [trTs, Option.some.injEq] at h
    subst h
    unfold tgts
    exact ⟨pgs_nil, rfl, rfl⟩
  | f + 1, e :: es, ts, h => by
    simp only [trTs] at h
    obtain ⟨h1, h⟩ := ife_some h
    obtain ⟨t, h2, h⟩ := obind h
    obtain ⟨r, h3, h⟩ := obind h
    cases h
    obtain ⟨k1, k2, k3⟩ := trTs_ok G ok hb f es r h3
    unfold tgts
    have ea := asg1 h1 es X.env
    refine ⟨pgs_cons (trT_ok G ok hb f e t h2) k1 (by rw [ea]; rfl), by rw [ea]; simp [k2], ?_⟩
    rw [ea, List.findIdx?_cons]
    simp [k3]
end

/-! ### expressions -/
theorem strV_beq {x : Str} {l : List Char} (h : (strV l == x) = true) : strV l = x := by simpa using h
theorem blkB_ok {N : List Str} {sc scope : Scope} {own : List (Str × Nat)} (h : blkB N sc scope own = true) : BlkOk N sc scope own := by
  unfold blkB at h
  simp only [Bool.and_eq_true, List.all_eq_true, beq_iff_eq, Bool.or_eq_true, Bool.not_eq_true', List.contains_iff_mem] at h
  obtain ⟨⟨⟨⟨h1, h2⟩, h3⟩, h4⟩, h5⟩ := h
  refine ⟨h1, h2, h3, fun y hy e => ?_, fun y hy e => ?_⟩
  · rcases h4 y hy with z | z
    · rw [e] at z; cases z
    · exact z
  · rcases h5 y hy with z | z
    · rcases e with e | e <;> rw [e] at z <;> cases z
    · rcases z with z | z
      · exact .inl z
      · refine .inr fun hm => ?_
        rw [List.contains_iff_mem.mpr hm] at z
        cases z
structure TrOk (P : PInf) (w n f : Nat) : Prop where
  e : ∀ (X : Cx) (s : SC) (g : Gs), GX P w n X s g → ∀ (e : Expr) (e' : E), trE P f s e = some e' → PE X e (tE g e') ∧ ∀ k, tstOk k e = true → PT X e (_root_.G.tB g e')
  c : ∀ (X : Cx) (s : SC) (g : Gs), GX P w n X s g → ∀ (x : Str) (args : List Expr) (e' : E) (p pos : Pos), trC P f s x args = some e' → PE X (.Call (.Name x p) args [] pos) (tE g e')
  b : ∀ (X : Cx) (s : SC) (g : Gs), GX P w n X s g → ∀ (es : List Expr) (es' : List E), trB P f s es = some es' → PA X es (tEs g es')
  x : ∀ (X : Cx) (s : SC) (g : Gs), GX P w n X s g → ∀ (es : List Expr) (es' : List E), trX P f s es = some es' → PA X es (tXs g es')
  l : ∀ (X : Cx) (s : SC) (g : Gs), GX P w n X s g → ∀ (op : BoolOp) (es : List Expr) (e' : E) (pos : Pos), trL P f s op es = some e' → PE X (.BoolOp op es pos) (tE g e') ∧ ∀ k, tstOks k es = true → PW X (.BoolOp op es pos) (_root_.G.tB g e')
  o : ∀ (X : Cx) (s : SC) (g : Gs), GX P w n X s g → ∀ (e : Option Expr) (e' : Option E), trO P f s e = some e' → PO X e (tO g e')
  s : ∀ (X : Cx) (s : SC) (g : Gs), GX P w n X s g → ∀ (M : List Nat) (e : Expr) (e' : E), trS P f s M e = some e' → PE X e (_root_.G.tS g M e')
  i : ∀ (X : Cx) (s : SC) (g : Gs), GX P w n X s g → ∀ (M : List Nat) (tg e : Expr) (it : I), trI P f s M tg e = some it → PI X tg e (tI g M it)
  k : ∀ (X : Cx) (s : SC) (g : Gs), GX P w n X s g → ∀ (M : List Nat) (tg : Expr) (k : Nat) (args : List Expr) (it : I) (x : Str) (p pos : Pos), trK P f s M (isTup tg) k args = some it → args.all notStar = true → bl P s x = true → (x, k) ∈ itTab → PI X tg (.Call (.Name x p) args [] pos) (tI g M it)
  d : ∀ (X : Cx) (s : SC) (g : Gs), GX P w n X s g → ∀ (pos : Pos) (ks : List (Option Expr)) (vs : List Expr) (r : List E × List E), trPs P f s ks vs = some r → r.1.length = r.2.length ∧ ks.all (·.isSome) = true ∧ PPs X pos ks vs ((r.1.zip r.2).map fun e => (tE g e.1, tE g e.2))
  f : ∀ (X : Cx) (s : SC) (g : Gs), GX P w n X s g → ∀ (es : List Expr) (t : Option E), trF P f s es = some t → PTs X es (tT g t)
theorem ps_ok {f : Nat} (ihe : ∀ (X : Cx) (s : SC) (g : Gs), GX P w n X s g → ∀ (e : Expr) (e' : E), trE P f s e = some e' → PE X e (tE g e')) (ihd : ∀ (X : Cx) (s : SC) (g : Gs), GX P w n X s g → ∀ (pos : Pos) (ks : List (Option Expr)) (vs : List Expr) (r : List E × List E), trPs P f s ks vs = some r → r.1.length = r.2.length ∧ ks.all (·.isSome) = true ∧ PPs X pos ks vs ((r.1.zip r.2).map fun e => (tE g e.1, tE g e.2)))
    (X : Cx) (s : SC) (g : Gs) (G : GX P w n X s g) (pos : Pos) (ks : List (Option Expr)) (vs : List Expr) (r : List E × List E) (h : trPs P (f + 1) s ks vs = some r) : r.1.length = r.2.length ∧ ks.all (·.isSome) = true ∧ PPs X pos ks vs ((r.1.zip r.2).map fun e => (tE g e.1, tE g e.2)) := by
  cases ks with
  | nil =>
    cases vs with
    | nil =>
      simp only [trPs, Option.some.injEq] at h
      subst h
      exact ⟨rfl, rfl, pps_nil⟩
    | cons v vs => simp [trPs] at h
  | cons k ks =>
    cases k with
    | none => simp [trPs] at h
    | some k =>
      cases vs with
      | nil => simp [trPs] at h
      | cons v vs =>
        simp only [trPs] at h
        obtain ⟨a, h1, h⟩ := obind h
        obtain ⟨b, h2, h⟩ := obind h
        obtain ⟨q, h3, h⟩ := obind h
        cases h
        obtain ⟨k1, k2, k3⟩ := ihd X s g G pos ks vs q h3
        refine ⟨by simp [k1], by simpa using k2, ?_⟩
        exact pps_cons (ihe X s g G k a h1) (ihe X s g G v b h2) k3
theorem trX_star {s : SC} : ∀ {f : Nat} {es : List Expr} {es' : List E}, trB P f s es = some es' → es.all notStar = true
  | 0, es, es', h => by simp [trB] at h
  | f + 1, [], es', h => rfl
  | f + 1, e :: es, es', h => by
    simp only [trB] at h
    obtain ⟨h1, h⟩ := ife_some h
    obtain ⟨t, h2, h⟩ := obind h
    obtain ⟨r, h3, h⟩ := obind h
    simp [h1, trX_star h3]
theorem b_ok {f : Nat} (ih : TrOk P w n f) (X : Cx) (s : SC) (g : Gs) (G : GX P w n X s g) (es : List Expr) (es' : List E) (h : trB P (f + 1) s es = some es') : PA X es (tEs g es') := by
  cases es with
  | nil => simp only [trB, Option.some.injEq] at h; subst h; exact sb_nil
  | cons e es =>
    simp only [trB] at h
    obtain ⟨h1, h⟩ := ife_some h
    obtain ⟨t, h2, h⟩ := obind h
    obtain ⟨r, h3, h⟩ := obind h
    cases h
    exact sb_cons (star1 h1 es) (ih.e X s g G e t h2).1 (ih.b X s g G es r h3)
theorem x_ok {f : Nat} (ih : TrOk P w n f) (X : Cx) (s : SC) (g : Gs) (G : GX P w n X s g) (es : List Expr) (es' : List E) (h : trX P (f + 1) s es = some es') : PA X es (tXs g es') := by
  cases es with
  | nil => simp only [trX, Option.some.injEq] at h; subst h; exact sa_nil
  | cons e es =>
    simp only [trX] at h
    obtain ⟨h1, h⟩ := ife_some h
    obtain ⟨t, h2, h⟩ := obind h
    obtain ⟨r, h3, h⟩ := obind h
    cases h
    exact sa_cons (star1 h1 es) (ih.e X s g G e t h2).1 (ih.x X s g G es r h3)
theorem l_ok {f : Nat} (ih : TrOk P w n f) (X : Cx) (s : SC) (g : Gs) (G : GX P w n X s g) (op : BoolOp) (es : List Expr) (e' : E) (pos : Pos) (h : trL P (f + 1) s op es = some e') :
    PE X (.BoolOp op es pos) (tE g e') ∧ ∀ k, tstOks k es = true → PW X (.BoolOp op es pos) (_root_.G.tB g e') := by
  match es with
  | [] => simp [trL] at h
  | [a] =>
    simp only [trL] at h
    obtain ⟨k1, k2⟩ := ih.e X s g G a e' h
    refine ⟨sd_one k1, fun k hk => ?_⟩
    cases k with
    | zero => simp [tstOks] at hk
    | succ k =>
      simp only [tstOks, Bool.and_eq_true] at hk
      exact sw_one (k2 k hk.1)
  | a :: b :: r =>
    simp only [trL] at h
    obtain ⟨a', h1, h⟩ := obind h
    obtain ⟨r', h2, h⟩ := obind h
    obtain ⟨k1, k2⟩ := ih.e X s g G a a' h1
    obtain ⟨k3, k4⟩ := ih.l X s g G op (b :: r) r' pos h2
    cases op with
    | And =>
      cases h
      refine ⟨sd_and G k1 k3, fun k hk => ?_⟩
      cases k with
      | zero => simp [tstOks] at hk
      | succ k =>
        simp only [tstOks, Bool.and_eq_true] at hk
        exact sw_and G (k2 k hk.1) (k4 k (by simpa only [tstOks, Bool.and_eq_true] using hk.2))
    | Or =>
      cases h
      refine ⟨sd_or G k1 k3, fun k hk => ?_⟩
      cases k with
      | zero => simp [tstOks] at hk
      | succ k =>
        simp only [tstOks, Bool.and_eq_true] at hk
        exact sw_or G (k2 k hk.1) (k4 k (by simpa only [tstOks, Bool.and_eq_true] using hk.2))
theorem o_ok {f : Nat} (ih : TrOk P w n f) (X : Cx) (s : SC) (g : Gs) (G : GX P w n X s g) (e : Option Expr) (e' : Option E) (h : trO P (f + 1) s e = some e') : PO X e (tO g e') := by
  cases e with
  | none => simp only [trO, Option.some.injEq] at h; subst h; exact so_none
  | some e =>
    simp only [trO] at h
    obtain ⟨a, h1, rfl⟩ := omap h
    exact so_some (ih.e X s g G e a h1).1
theorem con_name {X : Cx} {s : SC} {g : Gs} (G : GX P w n X s g) {x : Str} {pos : Pos} {e' : E} (h : (if glb s x = true then (P.cns.lookup x).map E.con else none) = some e') : PE X (.Name x pos) (tE g e') ∧ notVar e' = true := by
  obtain ⟨h1, h⟩ := ife_some h
  obtain ⟨p, h2, rfl⟩ := omap h
  exact ⟨sd_cns G h1 h2, rfl⟩
theorem s_ok {f : Nat} (ih : TrOk P w n f) (X : Cx) (s : SC) (g : Gs) (G : GX P w n X s g) (M : List Nat) (e : Expr) (e' : E) (h : trS P (f + 1) s M e = some e') : PE X e (_root_.G.tS g M e') := by
  have gen : ∀ {e : Expr} {e' : E}, (do let a ← trE P f s e; if notVar a then some a else none) = some e' → PE X e (_root_.G.tS g M e') := by
    intro e e' h
    obtain ⟨a, h1, h⟩ := obind h
    obtain ⟨h2, h⟩ := ife_some h
    cases h
    exact ss_lone (notVar_ok h2) (ih.e X s g G e _ h1).1
  cases e <;> simp only [trS] at h <;> try (exact gen h)
  rename_i x pos
  split at h
  · rename_i i hi
    split at h
    · cases h
    · rename_i hm
      cases h
      exact ss_var G hi (by simpa using hm)
  · obtain ⟨k1, k2⟩ := con_name (pos := pos) G h
    exact ss_lone (notVar_ok k2) k1
theorem f_ok {f : Nat} (ih : TrOk P w n f) (X : Cx) (s : SC) (g : Gs) (G : GX P w n X s g) (es : List Expr) (t : Option E) (h : trF P (f + 1) s es = some t) : PTs X es (tT g t) := by
  match es with
  | [] => simp only [trF, Option.some.injEq] at h; subst h; exact pts_nil
  | [c] =>
    simp only [trF] at h
    obtain ⟨h1, h⟩ := ife_some h
    obtain ⟨a, h2, rfl⟩ := omap h
    exact pts_one ((ih.e X s g G c a h2).2 f h1)
  | _ :: _ :: _ => simp [trF] at h
theorem isTup_use {tg : Expr} (h : isTup tg = true) : ∃ es k p, tg = .Tuple es k p := by
  cases tg <;> simp [isTup] at h
  exact ⟨_, _, _, rfl⟩
theorem rgForm_use {s : SC} {e : Expr} {l : List Expr} (h : rgForm P s e = some l) : ∃ q p, e = .Call (.Name "range" q) l [] p ∧ l.all notStar = true ∧ glb s "range" = true ∧ ("range" : Str) ∈ P.blt := by
  unfold rgForm at h
  split at h
  · obtain ⟨hc, h⟩ := ife_some h
    cases h
    simp only [Bool.and_eq_true, beq_iff_eq] at hc
    obtain ⟨⟨⟨rfl, c1⟩, c2⟩, -⟩ := hc
    exact ⟨_, _, rfl, c1, bl_use c2⟩
  · cases h
theorem k_ok {f : Nat} (ih : TrOk P w n f) (X : Cx) (s : SC) (g : Gs) (G : GX P w n X s g) (M : List Nat) (tg : Expr) (k : Nat) (args : List Expr) (it : I) (x : Str) (p pos : Pos) (h : trK P (f + 1) s M (isTup tg) k args = some it) (c1 : args.all notStar = true) (c2 : bl P s x = true) (hx : (x, k) ∈ itTab) :
    PI X tg (.Call (.Name x p) args [] pos) (tI g M it) := by
  obtain ⟨b1, b2⟩ := bl_use c2
  simp only [itTab, List.mem_cons, Prod.mk.injEq, List.not_mem_nil, or_false] at hx
  rcases hx with ⟨rfl, rfl⟩ | ⟨rfl, rfl⟩ | ⟨rfl, rfl⟩ | ⟨rfl, rfl⟩
  · match args with
    | [a] =>
      simp only [List.all_cons, List.all_nil, Bool.and_true] at c1
      simp only [trK] at h
      obtain ⟨a', h1, rfl⟩ := omap h
      exact si_rng1 G b2 b1 (sb_cons (star1 c1 []) (ih.e X s g G a a' h1).1 sb_nil) (star1 c1 [] _)
    | [a, b] =>
      simp only [List.all_cons, List.all_nil, Bool.and_true, Bool.and_eq_true] at c1
      simp only [trK] at h
      obtain ⟨a', h1, h⟩ := obind h
      obtain ⟨b', h2, h⟩ := obind h
      cases h
      refine si_rng2 G b2 b1 (sb_cons (star1 c1.1 _) (ih.e X s g G a a' h1).1 (sb_cons (star1 c1.2 _) (ih.e X s g G b b' h2).1 sb_nil)) ?_ (star1 c1.2 [] _)
      rw [star1 c1.1, star1 c1.2]
      rfl
    | [] => simp [trK] at h
    | _ :: _ :: _ :: _ => simp [trK] at h
  · cases ht : isTup tg with
    | false => rw [ht] at h; simp [trK] at h
    | true =>
      rw [ht] at h
      obtain ⟨es, kk, tp, rfl⟩ := isTup_use ht
      match args with
      | [a] =>
        simp only [List.all_cons, List.all_nil, Bool.and_true] at c1
        simp only [trK] at h
        obtain ⟨a', h1, rfl⟩ := omap h
        exact si_enm G b2 b1 (ih.s X s g G M a a' h1) (star1 c1 [] _)
      | [] => simp [trK] at h
      | _ :: _ :: _ => simp [trK] at h
  · cases ht : isTup tg with
    | false => rw [ht] at h; simp [trK] at h
    | true =>
      rw [ht] at h
      obtain ⟨es, kk, tp, rfl⟩ := isTup_use ht
      match args with
      | [a, b] =>
        simp only [List.all_cons, List.all_nil, Bool.and_true, Bool.and_eq_true] at c1
        simp only [trK] at h
        obtain ⟨a', h1, h⟩ := obind h
        obtain ⟨b', h2, h⟩ := obind h
        cases h
        exact si_zip G b2 b1 (ih.s X s g G M a a' h1) (ih.s X s g G M b b' h2) (star1 c1.1 _ _) (star1 c1.2 [] _) (stars_pl (by simp [c1.2]) _ _)
      | [] => simp [trK] at h
      | [_] => simp [trK] at h
      | _ :: _ :: _ :: _ => simp [trK] at h
  · match args with
    | [a] =>
      simp only [List.all_cons, List.all_nil, Bool.and_true] at c1
      simp only [trK] at h
      split at h
      · rename_i b0 hf
        obtain ⟨q, p2, rfl, r1, r2, r3⟩ := rgForm_use hf
        obtain ⟨a', h1, rfl⟩ := omap h
        simp only [List.all_cons, List.all_nil, Bool.and_true] at r1
        exact si_rrg1 G b2 b1 r3 r2 (ih.e X s g G b0 a' h1).1 (star1 r1 [] _)
      · rename_i b0 c0 hf
        obtain ⟨q, p2, rfl, r1, r2, r3⟩ := rgForm_use hf
        obtain ⟨a', h1, h⟩ := obind h
        obtain ⟨b', h2, h⟩ := obind h
        cases h
        simp only [List.all_cons, List.all_nil, Bool.and_true, Bool.and_eq_true] at r1
        exact si_rrg2 G b2 b1 r3 r2 (ih.e X s g G b0 a' h1).1 (ih.e X s g G c0 b' h2).1 (star1 r1.1 _ _) (star1 r1.2 [] _) (stars_pl (by simp [r1.2]) _ _)
      · cases h
      · obtain ⟨a', h1, rfl⟩ := omap h
        exact si_rev G b2 b1 (ih.s X s g G M a a' h1) (star1 c1 [] _)
    | [] => simp [trK] at h
    | _ :: _ :: _ => simp [trK] at h
theorem i_ok {f : Nat} (ih : TrOk P w n f) (X : Cx) (s : SC) (g : Gs) (G : GX P w n X s g) (M : List Nat) (tg e : Expr) (it : I) (h : trI P (f + 1) s M tg e = some it) : PI X tg e (tI g M it) := by
  simp only [trI] at h
  split at h
  · rename_i k args hf
    unfold itForm at hf
    split at hf
    · obtain ⟨hc, hf⟩ := ife_some hf
      simp only [Bool.and_eq_true] at hc
      obtain ⟨q, h1, h2⟩ := omap hf
      cases h2
      have h3 := List.find?_some h1
      rw [beq_iff_eq] at h3
      have h4 := List.mem_of_find?_eq_some h1
      exact ih.k X s g G M tg q.2 args it _ _ _ h hc.1.1 hc.1.2 (by rw [← h3]; exact h4)
    · cases hf
  · obtain ⟨a, h1, rfl⟩ := omap h
    exact si_seq G (ih.s X s g G M e a h1)
theorem isForm_ok {f : Nat} (ih : TrOk P w n f) (X : Cx) (s : SC) (g : Gs) (G : GX P w n X s g) {a : Expr} {t : Str} {pt p pos : Pos} (h1 : notStar a = true) (b1 : bl P s "isinstance" = true) {cf : CF} (h : isForm P s a t = some cf) :
    (∃ i d, cf = .cisx i d ∧ PE X (.Call (.Name "isinstance" p) [a, .Name t pt] [] pos) (tE g (.isx i d))) ∨ ∃ k, cf = .cisi a k ∧ ∀ e', PE X a (tE g e') → PE X (.Call (.Name "isinstance" p) [a, .Name t pt] [] pos) (tE g (.isi e' k)) := by
  obtain ⟨b2, b3⟩ := bl_use b1
  unfold isForm at h
  split at h
  · rename_i d hd
    have hd' : s.hot = true ∧ clsIx P t = some d := by
      cases hh : s.hot with
      | true => rw [hh] at hd; exact ⟨rfl, hd⟩
      | false => rw [hh] at hd; cases hd
    split at h
    · rename_i y py
      obtain ⟨g1, h⟩ := ife_some h
      obtain ⟨i, h2, rfl⟩ := omap h
      exact .inl ⟨i, d, rfl, sd_isx G hd'.1 (ix_get hd'.2) g1 h2 b3 b2 (star1 rfl _ _) (star1 rfl _ _) (stars_pl (by simp [notStar]) _ _)⟩
    · cases h
  · split at h
    · rename_i k hk
      obtain ⟨hb2, h⟩ := ife_some h
      cases h
      obtain ⟨b4, b5⟩ := bl_use hb2
      exact .inr ⟨k, rfl, fun e' he => sd_isi G hk b5 b4 b3 b2 he (star1 h1 _)⟩
    · cases h
theorem c_ok {f : Nat} (ih : TrOk P w n f) (X : Cx) (s : SC) (g : Gs) (G : GX P w n X s g) (x : Str) (args : List Expr) (e' : E) (p pos : Pos) (h : trC P (f + 1) s x args = some e') : PE X (.Call (.Name x p) args [] pos) (tE g e') := by
  simp only [trC] at h
  cases hc : callForm P s x args with
  | none => rw [hc] at h; cases h
  | some cf =>
    rw [hc] at h
    unfold callForm at hc
    obtain ⟨hst, hc⟩ := ife_some hc
    cases hi : defIx P x with
    | some i =>
      rw [hi] at hc
      obtain ⟨hg, hc⟩ := ife_some hc
      cases hc
      simp only [Bool.and_eq_true, Bool.not_eq_true'] at hg
      obtain ⟨d, d1, d2⟩ := G.dfn hi
      obtain ⟨es', h1, rfl⟩ := omap h
      cases args with
      | nil =>
        cases f with
        | zero => simp [trB] at h1
        | succ f =>
          simp only [trB, Option.some.injEq] at h1
          subst h1
          exact sd_call0 G hg.2 d1 d2 hg.1
      | cons a r =>
        simp only [List.all_cons, Bool.and_eq_true] at hst
        exact sd_call G hg.2 d1 d2 hg.1 (ih.b X s g G _ _ h1) (star1 hst.1 r) (stars_pl hst.2 pos)
    | none =>
      rw [hi] at hc
      by_cases hg : (P.gcds.contains x && glb s x && decide (0 < args.length)) = true
      · replace hc : some CF.cgcd = some cf := by rw [if_pos hg] at hc; exact hc
        cases hc
        simp only [Bool.and_eq_true, decide_eq_true_eq] at hg
        obtain ⟨⟨g1, g2⟩, g3⟩ := hg
        obtain ⟨es', h1, rfl⟩ := omap h
        cases args with
        | nil => cases g3
        | cons a r =>
          simp only [List.all_cons, Bool.and_eq_true] at hst
          exact sd_gcd G (List.contains_iff_mem.mp g1) g2 (ih.b X s g G _ _ h1) (star1 hst.1 r) (stars_pl hst.2 pos)
      replace hc : (if (x == ("isinstance" : Str)) = true then (if bl P s "isinstance" = true then isArgs P s args else none) else biForm P s x args) = some cf := by rw [if_neg hg] at hc; exact hc
      by_cases hx : (x == ("isinstance" : Str)) = true
      · have hx2 : x = ("isinstance" : Str) := by simpa using hx
        subst hx2
        have hc1 : (if bl P s "isinstance" = true then isArgs P s args else none) = some cf := by rw [if_pos hx] at hc; exact hc
        obtain ⟨b1, hc2⟩ := ife_some hc1
        clear hc1 hc
        unfold isArgs at hc2
        split at hc2
        · rename_i a t pt
          simp only [List.all_cons, List.all_nil, Bool.and_true, Bool.and_eq_true] at hst
          rcases isForm_ok (p := p) (pos := pos) (pt := pt) ih X s g G hst.1 b1 hc2 with ⟨i, d, rfl, k⟩ | ⟨k, rfl, k2⟩
          · cases h; exact k
          · obtain ⟨e0, h1, rfl⟩ := omap h
            exact k2 e0 (ih.e X s g G a e0 h1).1
        · cases hc2
      · replace hc : biForm P s x args = some cf := by rw [if_neg hx] at hc; exact hc
        unfold biForm at hc
        split at hc
        · rename_i o ho
          obtain ⟨hb, hc⟩ := ife_some hc
          cases hc
          simp only [Bool.and_eq_true, Bool.not_eq_true', beq_eq_false_iff_ne, ne_eq, decide_eq_true_eq] at hb
          obtain ⟨⟨hb, hn⟩, hl⟩ := hb
          obtain ⟨b1, b2⟩ := bl_use hb
          obtain ⟨es', h1, rfl⟩ := omap h
          cases args with
          | nil => cases hl
          | cons a r =>
            simp only [List.all_cons, Bool.and_eq_true] at hst
            exact sd_bi G ho b2 hn b1 (ih.b X s g G _ _ h1) (star1 hst.1 r) (stars_pl hst.2 pos)
        · cases hc
theorem e_ok {f : Nat} (ih : TrOk P w n f) (X : Cx) (s : SC) (g : Gs) (G : GX P w n X s g) (e : Expr) (e' : E) (h : trE P (f + 1) s e = some e') : PE X e (tE g e') ∧ ∀ k, tstOk k e = true → PT X e (_root_.G.tB g e') := by
  have val : ∀ {e : Expr} {e' : E}, plainTest e = true → PE X e (tE g e') → PE X e (tE g e') ∧ ∀ k, tstOk k e = true → PT X e (_root_.G.tB g e') := fun hp hv =>
    ⟨hv, fun _ _ => pt_of (pt_val hv (plainTest_ok hp _)) fun σ H Q q => tB_in q⟩
  simp only [trE] at h
  split at h
  · -- a name
    rename_i x pos
    split at h
    · rename_i i hi
      cases h
      exact val rfl (sd_var G hi)
    · exact val rfl (con_name G h).1
  · rename_i c j pos
    obtain ⟨p, h1, rfl⟩ := omap h
    refine val rfl ?_
    cases c <;> simp only [conOf, Option.some.injEq, reduceCtorEq] at h1
    · subst h1; exact de_con pe_non fun H => by simp [Rep]
    · subst h1; exact de_con pe_bl fun H => by simp [Rep]
    · subst h1; exact de_con pe_int fun H => by simp [Rep]
    · rename_i x
      obtain ⟨h2, h1⟩ := ife_some h1
      cases h1
      exact de_con pe_str fun H => by simp [Rep, strV_beq h2]
  · rename_i es k pos
    obtain ⟨es', h1, rfl⟩ := omap h
    exact val rfl (sd_tup (ih.x X s g G es es' h1))
  · rename_i es pos
    obtain ⟨es', h1, rfl⟩ := omap h
    exact val rfl (sd_lst (ih.x X s g G es es' h1))
  · cases h
    exact val rfl sd_dct0
  · rename_i a op b pos
    obtain ⟨o, h1, h⟩ := obind h
    obtain ⟨a', h2, h⟩ := obind h
    obtain ⟨b', h3, h⟩ := obind h
    cases h
    cases hr : repE op a' with
    | true =>
      obtain ⟨rfl, hf⟩ := repE_use hr
      exact val rfl (sd_rep (ih.e X s g G a a' h2).1 (ih.e X s g G b b' h3).1 hf)
    | false => exact val rfl (sd_bin G (G.bo h1) (pvBin_nex _) (ih.e X s g G a a' h2).1 (ih.e X s g G b b' h3).1)
  · rename_i a pos
    obtain ⟨a', h1, rfl⟩ := omap h
    exact val rfl (sd_neg G (ih.e X s g G a a' h1).1)
  · rename_i a pos
    obtain ⟨a', h1, rfl⟩ := omap h
    obtain ⟨k1, k2⟩ := ih.e X s g G a a' h1
    refine ⟨sd_not G k1, fun k hk => ?_⟩
    cases k with
    | zero => simp [tstOk] at hk
    | succ k => exact st_not G (k2 k (by simpa only [tstOk] using hk))
  · rename_i op vs pos
    obtain ⟨k1, k2⟩ := ih.l X s g G op vs e' pos h
    refine ⟨k1, fun k hk => ?_⟩
    cases k with
    | zero => simp [tstOk] at hk
    | succ k => exact (k2 k (by simpa only [tstOk] using hk)).pt
  · rename_i t a b pos
    obtain ⟨h0, h⟩ := ife_some h
    obtain ⟨t', h1, h⟩ := obind h
    obtain ⟨a', h2, h⟩ := obind h
    obtain ⟨b', h3, h⟩ := obind h
    cases h
    refine ⟨sd_ife G ((ih.e X s g G t t' h1).2 f h0) (ih.e X s g G a a' h2).1 (ih.e X s g G b b' h3).1, fun k hk => ?_⟩
    cases k with
    | zero => simp [tstOk] at hk
    | succ k => simp [tstOk] at hk
  · rename_i a op b pos
    obtain ⟨h0, h⟩ := ife_some h
    obtain ⟨a', h2, h⟩ := obind h
    obtain ⟨b', h3, h⟩ := obind h
    cases h
    exact ⟨sd_cmp G op (behind_ok h0) (ih.e X s g G a a' h2).1 (ih.e X s g G b b' h3).1, fun _ _ => st_cmp G op (behind_ok h0) (ih.e X s g G a a' h2).1 (ih.e X s g G b b' h3).1⟩
  · rename_i a o1 o2 b c pos
    obtain ⟨h0, h⟩ := ife_some h
    obtain ⟨a', h2, h⟩ := obind h
    obtain ⟨b', h3, h⟩ := obind h
    obtain ⟨c', h4, h⟩ := obind h
    cases h
    exact ⟨sd_chn G o1 o2 (last_ok h0) (ih.e X s g G a a' h2).1 (ih.e X s g G b b' h3).1 (ih.e X s g G c c' h4).1, fun _ _ => st_chn G o1 o2 (last_ok h0) (ih.e X s g G a a' h2).1 (ih.e X s g G b b' h3).1 (ih.e X s g G c c' h4).1⟩
  · rename_i a k p1 p2 p3 pos
    obtain ⟨a', h2, rfl⟩ := omap h
    exact val rfl (sd_rvs G (ih.e X s g G a a' h2).1)
  · rename_i a lo hi p2 pos
    obtain ⟨a', h2, h⟩ := obind h
    obtain ⟨lo', h3, h⟩ := obind h
    obtain ⟨hi', h4, h⟩ := obind h
    cases h
    exact val rfl (sd_slc G (ih.e X s g G a a' h2).1 (ih.o X s g G lo lo' h3) (ih.o X s g G hi hi' h4))
  · rename_i a i pos _ _
    obtain ⟨h0, h⟩ := ife_some h
    obtain ⟨a', h2, h⟩ := obind h
    obtain ⟨i', h3, h⟩ := obind h
    cases h
    exact val rfl (sd_sub G (plainIx_ok h0) (ih.e X s g G a a' h2).1 (ih.e X s g G i i' h3).1)
  · rename_i x pn args pos
    exact val rfl (ih.c X s g G x args e' pn pos h)
  · rename_i o nm ap a cp
    obtain ⟨hc, hh⟩ := ife_some h
    simp only [Bool.and_eq_true, beq_iff_eq] at hc
    obtain ⟨⟨rfl, c1⟩, c2, c3⟩ := hc
    obtain ⟨o', h1, hh⟩ := obind hh
    obtain ⟨a', h2, hh⟩ := obind hh
    cases hh
    exact val rfl (sd_get1 G (m1_ok (base_ok c2 _ _ _) (star1 c1 _ _) (by simpa using c3)) (ih.e X s g G o o' h1).1 (ih.e X s g G a a' h2).1)
  · rename_i o nm ap a b cp
    obtain ⟨hc, hh⟩ := ife_some h
    simp only [Bool.and_eq_true, beq_iff_eq] at hc
    obtain ⟨⟨rfl, c1, c1'⟩, c2, c3⟩ := hc
    obtain ⟨o', h1, hh⟩ := obind hh
    obtain ⟨a', h2, hh⟩ := obind hh
    obtain ⟨b', h3, hh⟩ := obind hh
    cases hh
    exact val rfl (sd_get2 G (m2_ok (base_ok c2 _ _ _) (by rw [star1 c1, star1 c1']; rfl) (by simpa using c3)) (ih.e X s g G o o' h1).1 (ih.e X s g G a a' h2).1 (ih.e X s g G b b' h3).1)
  · rename_i k ks vs pos
    obtain ⟨hc, h⟩ := ife_some h
    simp only [Bool.and_eq_true, decide_eq_true_eq] at hc
    obtain ⟨r, h1, rfl⟩ := omap h
    obtain ⟨k1, k2, k3⟩ := ih.d X s g G pos _ _ r h1
    exact val rfl (sd_dct G k1 k3 k2 hc.1 (by simp) hc.2)
  · rename_i elt tg iter ifs scope pos
    obtain ⟨hc, h⟩ := ife_some h
    simp only [Bool.and_eq_true, Bool.not_eq_true'] at hc
    obtain ⟨⟨hh, hb⟩, hp⟩ := hc
    obtain ⟨it, h1, h⟩ := obind h
    obtain ⟨t, h2, h⟩ := obind h
    obtain ⟨tst, h3, h⟩ := obind h
    obtain ⟨e0, h4, h⟩ := obind h
    obtain ⟨h5, h⟩ := ife_some h
    cases h
    refine val rfl (sd_lc G hh (blkB_ok hb) (fun i hi => List.contains_iff_mem.mp (List.all_eq_true.mp h5 i hi)) (ih.i X s g G [] tg iter it h1) (fun s0 H C cl fp => ?_) (fun s0 H C cl fp => ?_) (fun s0 H C cl fp => ?_) (folded_ok hp _))
    · exact trT_ok (G.blk hh) (blkN scope) (fun x hx => blkN_ok hx) f tg t h2
    · exact ih.f _ _ _ (G.blk hh) ifs tst h3
    · exact (ih.e _ _ _ (G.blk hh) elt e0 h4).1
  · rename_i kx elt tg iter ifs scope pos
    obtain ⟨hc, h⟩ := ife_some h
    simp only [Bool.and_eq_true, Bool.not_eq_true'] at hc
    obtain ⟨⟨hh, hb⟩, hp⟩ := hc
    obtain ⟨it, h1, h⟩ := obind h
    obtain ⟨t, h2, h⟩ := obind h
    obtain ⟨tst, h3, h⟩ := obind h
    obtain ⟨k0, h4, h⟩ := obind h
    obtain ⟨e0, h5, h⟩ := obind h
    obtain ⟨h6, h⟩ := ife_some h
    cases h
    refine val rfl (sd_dc G hh (blkB_ok hb) (fun i hi => List.contains_iff_mem.mp (List.all_eq_true.mp h6 i hi)) (ih.i X s g G [] tg iter it h1) (fun s0 H C cl fp => ?_) (fun s0 H C cl fp => ?_) (fun s0 H C cl fp => ?_) (fun s0 H C cl fp => ?_) (folded_ok hp _))
    · exact trT_ok (G.blk hh) (blkN scope) (fun x hx => blkN_ok hx) f tg t h2
    · exact ih.f _ _ _ (G.blk hh) ifs tst h3
    · exact (ih.e _ _ _ (G.blk hh) kx k0 h4).1
    · exact (ih.e _ _ _ (G.blk hh) elt e0 h5).1
  · cases h
theorem tr_ok : ∀ f : Nat, TrOk P w n f
  | 0 => ⟨fun X s g G e e' h => by simp [trE] at h, fun X s g G x a e' p q h => by simp [trC] at h, fun X s g G e e' h => by simp [trB] at h, fun X s g G e e' h => by simp [trX] at h, fun X s g G op e e' p h => by simp [trL] at h, fun X s g G e e' h => by simp [trO] at h,
    fun X s g G M e e' h => by simp [trS] at h, fun X s g G M t e e' h => by simp [trI] at h, fun X s g G M t k a i x p q h => by simp [trK] at h, fun X s g G p k v r h => by simp [trPs] at h, fun X s g G e e' h => by simp [trF] at h⟩
  | f + 1 => have ih := tr_ok f; ⟨e_ok ih, c_ok ih, b_ok ih, x_ok ih, l_ok ih, o_ok ih, s_ok ih, i_ok ih, k_ok ih, ps_ok (fun X s g G e e' h => (ih.e X s g G e e' h).1) ih.d, f_ok ih⟩
end
end G
namespace G
open PySem PySem.Spec PyProof.Rows L2

/-! ### what a statement stores at -/
mutual
def modS : S → List Nat
  | .set t _ => tvs t
  | .own i _ | .app i _ | .put i _ _ | .frz i => [i]
  | .ite _ a b => modSs a ++ modSs b
  | .loop t _ b => tvs t ++ modSs b
  | .whl _ b => modSs b
  | .tri b hs => modSs b ++ modHs hs
  | _ => []
def modSs : List S → List Nat
  | [] => []
  | a :: r => modS a ++ modSs r
def modHs : List H → List Nat
  | [] => []
  | .mk _ i b :: r => i.toList ++ modSs b ++ modHs r
end
structure Hn where
  frz : List (Nat × Nat)
  own : List Nat
def swB (s : SC) (t : Str) (p : Pos) : Expr → Bool
  | .ListComp _ _ sc vp | .SetComp _ _ sc vp | .DictComp _ _ _ sc vp =>
    (if s.sc.kind.isAnnotationScope then .function else s.sc.kind) == .function && s.sc.names.lookup t == some .local && p.line == vp.line && !(sc.names.any fun y => y.1 == t && (y.2 == .local || y.2 == .cell))
  | _ => false
theorem swB_ok {s : SC} {env : PySem.Env} (he : env.scope = s.sc) (t : Str) (p : Pos) (l : Nat) (e : Expr) : swapsWith e (some (.Name t p)) l env = pure (swB s t p e) := by
  cases e <;> first | rfl | (simp only [swapsWith, swB, ← he, PySem.Env.blockKind, PySem.Env.kindOf]; rfl)
def frzL : List Nat → List S → List S
  | [], r => r
  | i :: is, r => .frz i :: frzL is r
def frzAt (h : Hn) (l : Nat) (r : List S) : List S := frzL ((h.frz.filter fun e => e.1 == l).map (·.2)) r
def exForm (P : PInf) (s : SC) : Expr → Option (Nat × Expr)
  | .Call (.Attribute (.Name x _) n p2) [a] [] p3 => if n == ("append" : Str) && notStar a && p2.endLine == p3.line then (loc s x).map fun i => (i, a) else none
  | _ => none
section
variable (P : PInf) (h : Hn)
def rseForm (s : SC) : Expr → Option Nat
  | .Call (.Name x _) [.Constant (.str _) _ _] [] _ => match clsIx P x with
    | some k => if glb s x && P.prog.nf[k]? == some 0 && !s.hot then some k else none
    | none => none
  | _ => none
mutual
def trSt : Nat → SC → Stmt → Option S
  | 0, _, _ => none
  | f + 1, s, st => match st with
    | .Pass _ => some .pas
    | .Break _ => some .brk
    | .Continue _ => some .cnt
    | .Return none _ => some .retN
    | .Return (some e) _ => trR f s e
    | .Expr e _ => match exForm P s e with
      | some (i, a) => (trE P f s a).map (.app i)
      | none => if notComp e then (trE P f s e).map .exp else none
    | .Assign [.Name x p] e _ => trA f s x p e
    | .Assign [.Subscript (.Name x _) k _] e _ => if plainIx k && isLoc2 s x then do let i ← loc s x; let a ← trE P f s e; let k' ← trE P f s k; some (.put i k' a) else none
    | .Assign [.Tuple ts kt pt] (.Tuple vs _ _) _ => if s.hot then none else do
        let a ← trX P f s vs
        match parIx s ts vs with
        | some l => some (.set (onesT l) (.tup a))
        | none => if decide (swS s.sc ts vs = some none) then do let t' ← trT (isLoc2 s) s f (.Tuple ts kt pt); some (.set t' (.tup a)) else none
    | .Assign [t] e _ => if notTup e && notStar t then do let a ← trE P f s e; let t' ← trT (isLoc2 s) s f t; some (.set t' a) else none
    | .If t a b _ => if tstOk f t then do let t' ← trE P f s t; let a' ← trSs f s a; let b' ← trSs f s b; some (.ite t' a' b') else none
    | .For tg iter body [] _ => if plainIter iter && !s.hot then do
        let b ← trSs f s body
        let t ← trT (isLoc2 s) s f tg
        let it ← trI P f s (tvs t ++ modSs b) tg iter
        some (.loop t it b) else none
    | .While t body [] _ => if tstOk f t then do let t' ← trE P f s t; let b ← trSs f s body; some (.whl t' b) else none
    | .Raise (some e) none _ => (rseForm P s e).map fun k => .rse k []
    | .Try body [.ExceptHandler (some (.Name x _)) (some y) suite _] [] [] _ => if s.hot then none else do
        let b ← trSs f s body
        let d ← clsIx P x
        let i ← loc s y
        let z ← trSs f s.toHot suite
        if glb s x && isLoc s y && !suite.isEmpty then some (.tri b [.mk d (some i) z]) else none
    | .Try body (h :: hs) [] [] _ => if s.hot then none else do
        let b ← trSs f s body
        let hs' ← trHs f s (h :: hs)
        some (.tri b hs')
    | _ => none
def trA : Nat → SC → Str → Pos → Expr → Option S
  | 0, _, _, _, _ => none
  | f + 1, s, x, p, e => if isLoc2 s x && !(s.hot && swB s x p e) then do
      let i ← loc s x
      let a ← trE P f s e
      if h.own.contains i && freshE a then some (.own i a) else some (.set (.one i) a)
    else none
def trR : Nat → SC → Expr → Option S
  | 0, _, _ => none
  | f + 1, s, e => match e with
    | .Name x _ => match loc s x with
      | some i => some (.ret (.var i))
      | none => if glb s x then (P.cns.lookup x).map fun p => .ret (.con p) else none
    | e => do let a ← trE P f s e; if notVar a then some (.ret a) else none
def trSs : Nat → SC → List Stmt → Option (List S)
  | 0, _, _ => none
  | _ + 1, _, [] => some []
  | f + 1, s, st :: r => do let a ← trSt f s st; let b ← trSs f s r; some (frzAt h st.pos.line (a :: b))
def trHs : Nat → SC → List ExceptHandler → Option (List H)
  | 0, _, _ => none
  | _ + 1, _, [] => some []
  | f + 1, s, .ExceptHandler (some (.Name x _)) none suite _ :: r => do
    let d ← clsIx P x
    let z ← trSs f s.toHot suite
    let q ← trHs f s r
    if glb s x && !suite.isEmpty then some (.mk d none z :: q) else none
  | _, _, _ => none
end
end
section
variable {P : PInf} {w n : Nat} {h : Hn}
/-- the assignment of a comprehension that goes right to a name -/
theorem ps_lc_asg {X : Cx} {s : SC} {g : Gs} {tg iter elt : Expr} {ifs : List Expr} {scope : Scope} {own : List (Str × Nat)} {t : T} {it : I} {tst : Option E} {e' : E} {pos spos py : Pos} {y : Str} {i : Nat} (G : GX P w n X s g) (hh : s.hot = false) (ok : BlkOk s.N s.sc scope own) (hv : ∀ i ∈ tvs t, i ∈ own.map (·.2)) (hi : PI X tg iter (tI g [] it))
    (hg : ∀ (s0 : Shared) (H : Hp) (C : Addr) (cl : List (Str × Addr)) (fp : List Addr), PG (X.blk s0 H scope (compEnvC scope cl C X.env) fp) tg (tgt X.K t))
    (ht : ∀ (s0 : Shared) (H : Hp) (C : Addr) (cl : List (Str × Addr)) (fp : List Addr), PTs (X.blk s0 H scope (compEnvC scope cl C X.env) fp) ifs (tT g.cold tst))
    (he : ∀ (s0 : Shared) (H : Hp) (C : Addr) (cl : List (Str × Addr)) (fp : List Addr), PE (X.blk s0 H scope (compEnvC scope cl C X.env) fp) elt (tE g.cold e'))
    (hs : ∀ x, foldedSetIterable iter X.env x = pure x) (hy : loc s y = some i) (hyl : s.sc.names.lookup y = some .local) (hsw : swapsWith (.ListComp elt [⟨tg, iter, ifs, 0⟩] scope pos) (some (.Name y py)) spos.line X.env = pure true) :
    PS X (.Assign [.Name y py] (.ListComp elt [⟨tg, iter, ifs, 0⟩] scope pos) spos) (tAsg (tE g (.lc (own.map (·.2)) t it tst e')) (gName i)) := by
  have ok' : BlkOk X.N X.env.scope scope own := by rw [G.hN, G.hsc]; exact ok
  obtain ⟨h1, h2, h3, h4⟩ := loc_use hy
  exact ps_of (ps_setLc (G.calm hh) (G.hN ▸ G.nd) (by rw [G.hN]; exact h1) (by rw [G.hsc]; exact hyl) hsw hi ok' hg ht he hs) fun D σ H q => lc_in hv X.K (by rw [G.hz]) q
theorem ps_dc_asg {X : Cx} {s : SC} {g : Gs} {tg iter kx elt : Expr} {ifs : List Expr} {scope : Scope} {own : List (Str × Nat)} {t : T} {it : I} {tst : Option E} {k' e' : E} {pos spos py : Pos} {y : Str} {i : Nat} (G : GX P w n X s g) (hh : s.hot = false) (ok : BlkOk s.N s.sc scope own) (hv : ∀ i ∈ tvs t, i ∈ own.map (·.2)) (hi : PI X tg iter (tI g [] it))
    (hg : ∀ (s0 : Shared) (H : Hp) (C : Addr) (cl : List (Str × Addr)) (fp : List Addr), PG (X.blk s0 H scope (compEnvC scope cl C X.env) fp) tg (tgt X.K t))
    (ht : ∀ (s0 : Shared) (H : Hp) (C : Addr) (cl : List (Str × Addr)) (fp : List Addr), PTs (X.blk s0 H scope (compEnvC scope cl C X.env) fp) ifs (tT g.cold tst))
    (hk : ∀ (s0 : Shared) (H : Hp) (C : Addr) (cl : List (Str × Addr)) (fp : List Addr), PE (X.blk s0 H scope (compEnvC scope cl C X.env) fp) kx (tE g.cold k'))
    (he : ∀ (s0 : Shared) (H : Hp) (C : Addr) (cl : List (Str × Addr)) (fp : List Addr), PE (X.blk s0 H scope (compEnvC scope cl C X.env) fp) elt (tE g.cold e'))
    (hs : ∀ x, foldedSetIterable iter X.env x = pure x) (hy : loc s y = some i) (hyl : s.sc.names.lookup y = some .local) (hsw : swapsWith (.DictComp kx elt [⟨tg, iter, ifs, 0⟩] scope pos) (some (.Name y py)) spos.line X.env = pure true) :
    PS X (.Assign [.Name y py] (.DictComp kx elt [⟨tg, iter, ifs, 0⟩] scope pos) spos) (tAsg (tE g (.dc (own.map (·.2)) t it tst k' e')) (gName i)) := by
  have ok' : BlkOk X.N X.env.scope scope own := by rw [G.hN, G.hsc]; exact ok
  obtain ⟨h1, h2, h3, h4⟩ := loc_use hy
  exact ps_of (ps_setDcG (by have := G.un; omega) (G.calm hh) (G.hN ▸ G.nd) (by rw [G.hN]; exact h1) (by rw [G.hsc]; exact hyl) hsw hi ok' hg ht hk he hs) fun D σ H q => by
    have := dc_in hv X.K (by rw [G.hz]) q
    rwa [G.hz] at this
theorem loc2_ok {X : Cx} {s : SC} {g : Gs} (G : GT P w n X s g) (x : Str) (h : isLoc2 s x = true) : L2.Loc X.env.scope x ∧ (X.fn x = true ∨ X.env.scope.names.lookup x = some .local) := by
  refine ⟨?_, .inl (G.fnl x)⟩
  unfold L2.Loc
  rw [G.hsc]
  simpa only [isLoc2, Bool.or_eq_true, beq_iff_eq] using h
/-- x = e: the two ways of a store -/
theorem asg_any {X : Cx} {s : SC} {g : Gs} (G : GT P w n X s g) {f : Nat} {x : Str} {i : Nat} {e : Expr} {e' : E} {p pos : Pos} (hx : loc s x = some i) (hk : s.sc.names.lookup x = some .local ∨ s.sc.names.lookup x = some .cell) (hh : s.hot = true → swB s x p e = false) (he : trE P f s e = some e') :
    PS X (.Assign [.Name x p] e pos) (tAsg (tE g e') (gName i)) := by
  obtain ⟨h1, h2⟩ := loc_nd G hx hk
  cases hs : swB s x p e with
  | false => exact ps_set (G.hN ▸ G.nd) h1 h2 ((tr_ok f).e X s g G.toGX e e' he).1 (by rw [swB_ok (s := s) G.hsc, hs]) (.inl (G.fnl x))
  | true =>
    have hot : s.hot = false := by
      cases q : s.hot with
      | false => rfl
      | true => rw [hh q] at hs; cases hs
    cases f with
    | zero => simp [trE] at he
    | succ f =>
      have ih := tr_ok (P := P) (w := w) (n := n) f
      cases e <;> simp only [swB, Bool.false_eq_true, reduceCtorEq] at hs
      · rename_i elt gens scope pos2
        have hsl : s.sc.names.lookup x = some .local := by
          simp only [Bool.and_eq_true, beq_iff_eq] at hs
          exact hs.1.1.2
        have key : ∃ tg iter ifs, gens = [⟨tg, iter, ifs, 0⟩] := by
          simp only [trE] at he
          split at he <;> rename_i heq <;> first | (cases heq; done) | (cases heq; exact ⟨_, _, _, rfl⟩) | cases he
        obtain ⟨tg, iter, ifs, rfl⟩ := key
        simp only [trE] at he
        obtain ⟨hc, he⟩ := ife_some he
        simp only [Bool.and_eq_true, Bool.not_eq_true'] at hc
        obtain ⟨⟨hh, hb⟩, hp⟩ := hc
        obtain ⟨it, h1, he⟩ := obind he
        obtain ⟨t, h2, he⟩ := obind he
        obtain ⟨tst, h3, he⟩ := obind he
        obtain ⟨e0, h4, he⟩ := obind he
        obtain ⟨h5, he⟩ := ife_some he
        cases he
        refine ps_lc_asg G.toGX hh (blkB_ok hb) (fun i hi => List.contains_iff_mem.mp (List.all_eq_true.mp h5 i hi)) (ih.i X s g G.toGX [] _ _ it h1) (fun s0 H C cl fp => ?_) (fun s0 H C cl fp => ?_) (fun s0 H C cl fp => ?_) (folded_ok hp _) hx hsl (by rw [swB_ok (s := s) G.hsc]; simp only [swB, hs])
        · exact trT_ok (G.toGX.blk hh) (blkN _) (fun x hx => blkN_ok hx) f _ t h2
        · exact ih.f _ _ _ (G.toGX.blk hh) _ tst h3
        · exact (ih.e _ _ _ (G.toGX.blk hh) _ e0 h4).1
      · simp [trE] at he
      · rename_i kx elt gens scope pos2
        have hsl : s.sc.names.lookup x = some .local := by
          simp only [Bool.and_eq_true, beq_iff_eq] at hs
          exact hs.1.1.2
        have key : ∃ tg iter ifs, gens = [⟨tg, iter, ifs, 0⟩] := by
          simp only [trE] at he
          split at he <;> rename_i heq <;> first | (cases heq; done) | (cases heq; exact ⟨_, _, _, rfl⟩) | cases he
        obtain ⟨tg, iter, ifs, rfl⟩ := key
        simp only [trE] at he
        obtain ⟨hc, he⟩ := ife_some he
        simp only [Bool.and_eq_true, Bool.not_eq_true'] at hc
        obtain ⟨⟨hh, hb⟩, hp⟩ := hc
        obtain ⟨it, h1, he⟩ := obind he
        obtain ⟨t, h2, he⟩ := obind he
        obtain ⟨tst, h3, he⟩ := obind he
        obtain ⟨k0, h4, he⟩ := obind he
        obtain ⟨e0, h5, he⟩ := obind he
        obtain ⟨h6, he⟩ := ife_some he
        cases he
        refine ps_dc_asg G.toGX hh (blkB_ok hb) (fun i hi => List.contains_iff_mem.mp (List.all_eq_true.mp h6 i hi)) (ih.i X s g G.toGX [] _ _ it h1) (fun s0 H C cl fp => ?_) (fun s0 H C cl fp => ?_) (fun s0 H C cl fp => ?_) (fun s0 H C cl fp => ?_) (folded_ok hp _) hx hsl (by rw [swB_ok (s := s) G.hsc]; simp only [swB, hs])
        · exact trT_ok (G.toGX.blk hh) (blkN _) (fun x hx => blkN_ok hx) f _ t h2
        · exact ih.f _ _ _ (G.toGX.blk hh) _ tst h3
        · exact (ih.e _ _ _ (G.toGX.blk hh) _ k0 h4).1
        · exact (ih.e _ _ _ (G.toGX.blk hh) _ e0 h5).1
abbrev den (P : PInf) (w : Nat) (c : Orc) (B : List S) : Env → F := fun env => denSs P.prog.anc P.prog.nf w c B env
structure TsOk (P : PInf) (w n : Nat) (h : Hn) (f : Nat) : Prop where
  st : ∀ (X : Cx) (s : SC) (g : Gs), GT P w n X s g → ∀ (st : Stmt) (S' : S) (M : List Nat), trSt P h f s st = some S' → (∀ i ∈ modS S', i ∈ M) → PS X st (tSt g M fun env => denS P.prog.anc P.prog.nf w g.c S' env)
  a : ∀ (X : Cx) (s : SC) (g : Gs), GT P w n X s g → ∀ (x : Str) (p pos : Pos) (e : Expr) (S' : S) (M : List Nat), trA P h f s x p e = some S' → (∀ i ∈ modS S', i ∈ M) → PS X (.Assign [.Name x p] e pos) (tSt g M fun env => denS P.prog.anc P.prog.nf w g.c S' env)
  r : ∀ (X : Cx) (s : SC) (g : Gs), GT P w n X s g → ∀ (e : Expr) (S' : S) (M : List Nat) (pos : Pos), trR P h f s e = some S' → PS X (.Return (some e) pos) (tSt g M fun env => denS P.prog.anc P.prog.nf w g.c S' env)
  ss : ∀ (X : Cx) (s : SC) (g : Gs), GT P w n X s g → ∀ (sts : List Stmt) (B : List S) (M : List Nat), trSs P h f s sts = some B → (∀ i ∈ modSs B, i ∈ M) → PSs X sts (tSt g M (den P w g.c B))
  hs : ∀ (s : SC) (hds : List ExceptHandler) (hs : List H) (M : List Nat), trHs P h f s hds = some hs → (∀ i ∈ modHs hs, i ∈ M) → HsR P w n s M hds hs
theorem ss_ok {f : Nat} (ih : TsOk P w n h f) (X : Cx) (s : SC) (g : Gs) (G : GT P w n X s g) (sts : List Stmt) (B : List S) (M : List Nat) (e : trSs P h (f + 1) s sts = some B) (hM : ∀ i ∈ modSs B, i ∈ M) : PSs X sts (tSt g M (den P w g.c B)) := by
  cases sts with
  | nil => simp only [trSs, Option.some.injEq] at e; subst e; exact ss_nil
  | cons st r =>
    simp only [trSs] at e
    obtain ⟨a, h1, e⟩ := obind e
    obtain ⟨b, h2, e⟩ := obind e
    cases e
    have main : (∀ i ∈ modSs (a :: b), i ∈ M) → PSs X (st :: r) (tSt g M (den P w g.c (a :: b))) := fun hM => by
      exact ss_cons (ih.st X s g G st a M h1 fun i hi => hM i (by simp [modSs, hi])) (ih.ss X s g G r b M h2 fun i hi => hM i (by simp [modSs, hi]))
    unfold frzAt at hM ⊢
    generalize (h.frz.filter fun e => e.1 == st.pos.line).map (·.2) = is at hM ⊢
    induction is with
    | nil => exact main hM
    | cons i is ih2 =>
      simp only [frzL] at hM ⊢
      exact ss_frz (ih2 fun j hj => hM j (by simp only [modSs, List.mem_append]; exact .inr hj)) (hM i (by simp [modSs, modS]))
theorem a_ok {f : Nat} (ih : TsOk P w n h f) (X : Cx) (s : SC) (g : Gs) (G : GT P w n X s g) (x : Str) (p pos : Pos) (e : Expr) (S' : S) (M : List Nat) (q : trA P h (f + 1) s x p e = some S') (hM : ∀ i ∈ modS S', i ∈ M) : PS X (.Assign [.Name x p] e pos) (tSt g M fun env => denS P.prog.anc P.prog.nf w g.c S' env) := by
  simp only [trA] at q
  obtain ⟨hc, q⟩ := ife_some q
  simp only [isLoc2, Bool.and_eq_true, Bool.or_eq_true, beq_iff_eq, Bool.not_eq_true', Bool.and_eq_false_imp] at hc
  obtain ⟨i, h1, q⟩ := obind q
  obtain ⟨a, h2, q⟩ := obind q
  have k := asg_any (pos := pos) G h1 hc.1 hc.2 h2
  split at q
  · cases q
    exact ps_of k fun D σ H z => own_in (hM i (by simp [modS])) (by simpa only [denS, G.ha] using z)
  · cases q
    exact ps_of k fun D σ H z => set_in (t := .one i) (fun j hj => hM j (by simpa [modS] using hj)) (K := X.K) (by rw [G.hz]) (by simpa only [denS, G.ha] using z)
theorem r_ok {f : Nat} (X : Cx) (s : SC) (g : Gs) (G : GT P w n X s g) (e : Expr) (S' : S) (M : List Nat) (pos : Pos) (q : trR P h (f + 1) s e = some S') : PS X (.Return (some e) pos) (tSt g M fun env => denS P.prog.anc P.prog.nf w g.c S' env) := by
  have gen : ∀ {e : Expr} {S' : S}, (do let a ← trE P f s e; if notVar a then some (S.ret a) else none) = some S' → PS X (.Return (some e) pos) (tSt g M fun env => denS P.prog.anc P.prog.nf w g.c S' env) := by
    intro e S' q
    obtain ⟨a, h1, q⟩ := obind q
    obtain ⟨h2, q⟩ := ife_some q
    cases q
    simp only [denS, ← G.ha]
    exact st_ret (notVar_ok h2) ((tr_ok f).e X s g G.toGX e _ h1).1
  cases e <;> simp only [trR] at q <;> try (exact gen q)
  rename_i x px
  split at q
  · rename_i i hi
    cases q
    simp only [denS, ← G.ha]
    exact st_retv G.toGX hi
  · obtain ⟨h1, q⟩ := ife_some q
    obtain ⟨pv, h2, rfl⟩ := omap q
    simp only [denS, ← G.ha]
    exact st_ret (fun _ => rfl) (sd_cns G.toGX h1 h2)
theorem hs_ok {f : Nat} (ih : TsOk P w n h f) (s : SC) (hds : List ExceptHandler) (hs : List H) (M : List Nat) (q : trHs P h (f + 1) s hds = some hs) (hM : ∀ i ∈ modHs hs, i ∈ M) : HsR P w n s M hds hs := by
  cases hds with
  | nil => simp only [trHs, Option.some.injEq] at q; subst q; exact .nil
  | cons hd r =>
    obtain ⟨ty, nm, suite, pos⟩ := hd
    cases nm with
    | some nm => simp [trHs] at q
    | none =>
      cases ty with
      | none => simp [trHs] at q
      | some ty =>
        cases ty <;> try (simp [trHs] at q; done)
        rename_i x np
        simp only [trHs] at q
        obtain ⟨d, h1, q⟩ := obind q
        obtain ⟨z, h2, q⟩ := obind q
        obtain ⟨r', h3, q⟩ := obind q
        obtain ⟨h4, q⟩ := ife_some q
        cases q
        simp only [Bool.and_eq_true, Bool.not_eq_true'] at h4
        cases suite with
        | nil => cases h4.2
        | cons b0 suite =>
          refine .cons (ix_get h1) h4.1 (fun X g G => ?_) (ih.hs s _ r' M h3 fun i hi => hM i (by simp [modHs, hi]))
          have := ih.ss X s.toHot g G (b0 :: suite) z M h2 fun i hi => hM i (by simp [modHs, hi])
          rw [G.hcH rfl] at this
          exact this
theorem exForm_use {s : SC} {e : Expr} {i : Nat} {a : Expr} (q : exForm P s e = some (i, a)) : ∃ x p1 p2 p3, e = .Call (.Attribute (.Name x p1) "append" p2) [a] [] p3 ∧ loc s x = some i ∧ notStar a = true ∧ (p2.endLine == p3.line) = true := by
  unfold exForm at q
  split at q
  · rename_i x p1 nm p2 a' p3
    obtain ⟨hc, q⟩ := ife_some q
    simp only [Bool.and_eq_true] at hc
    obtain ⟨j, h1, h2⟩ := omap q
    cases h2
    have : nm = ("append" : Str) := by simpa using hc.1.1
    subst this
    exact ⟨x, p1, p2, p3, rfl, h1, hc.1.2, hc.2⟩
  · cases q
theorem rseForm_use {s : SC} {e : Expr} {k : Nat} (q : rseForm P s e = some k) : ∃ x p m j p2 p3, e = .Call (.Name x p) [.Constant (.str m) j p2] [] p3 ∧ P.cls[k]? = some x ∧ glb s x = true ∧ P.prog.nf[k]? = some 0 ∧ s.hot = false := by
  unfold rseForm at q
  split at q
  · split at q
    · rename_i k' hk
      obtain ⟨hc, q⟩ := ife_some q
      cases q
      simp only [Bool.and_eq_true, beq_iff_eq, Bool.not_eq_true'] at hc
      exact ⟨_, _, _, _, _, _, rfl, ix_get hk, hc.1.1, hc.1.2, hc.2⟩
    · cases q
  · cases q
theorem st_ok {f : Nat} (ih : TsOk P w n h f) (X : Cx) (s : SC) (g : Gs) (G : GT P w n X s g) (st : Stmt) (S' : S) (M : List Nat) (q : trSt P h (f + 1) s st = some S') (hM : ∀ i ∈ modS S', i ∈ M) : PS X st (tSt g M fun env => denS P.prog.anc P.prog.nf w g.c S' env) := by
  simp only [trSt] at q
  split at q
  · cases q; exact st_pas
  · cases q; exact st_brk
  · cases q; exact st_cnt
  · cases q; exact st_retN
  · exact ih.r X s g G _ S' M _ q
  · -- an expression
    rename_i e pos
    split at q
    · rename_i i a hf
      obtain ⟨a', h1, rfl⟩ := omap q
      obtain ⟨x, p1, p2, p3, rfl, k1, k2, k3⟩ := exForm_use hf
      have := st_app (pos := pos) (p1 := p1) (p2 := p2) (p3 := p3) G (hM i (by simp [modS])) k1 ((tr_ok f).e X s g G.toGX a a' h1).1 (star1 k2 _ _) (by rw [star1 k2]; rfl) k3
      rw [G.ha] at this
      exact this
    · obtain ⟨h0, q⟩ := ife_some q
      obtain ⟨a', h1, rfl⟩ := omap q
      simp only [denS, ← G.ha]
      exact st_exp (swaps_ok h0 _ _ _) ((tr_ok f).e X s g G.toGX e a' h1).1
  · exact ih.a X s g G _ _ _ _ S' M q hM
  · rename_i x px k pk e pos
    obtain ⟨h0, q⟩ := ife_some q
    simp only [Bool.and_eq_true] at h0
    obtain ⟨i, h1, q⟩ := obind q
    obtain ⟨a, h2, q⟩ := obind q
    obtain ⟨k', h3, q⟩ := obind q
    cases q
    have sw1 : swapsWithSole [.Subscript (.Name x px) k pk] e pos.line X.env = pure false := by cases e <;> rfl
    have sw2 : swappedStores [.Subscript (.Name x px) k pk] e X.env = pure none := by cases e <;> rfl
    simp only [denS, ← G.ha]
    exact st_put G (hM i (by simp [modS])) h1 ((tr_ok f).e X s g G.toGX e a h2).1 ((tr_ok f).e X s g G.toGX k k' h3).1 h0.1 sw1 sw2
  · rename_i ts kt pt vs k2 pt2 pos
    split at q
    · cases q
    · rename_i hh
      obtain ⟨a, h1, q⟩ := obind q
      have ha := (tr_ok (P := P) (w := w) (n := n) f).x X s g G.toGX vs a h1
      split at q
      · rename_i l hl
        cases q
        simp only [denS, ← G.ha]
        refine st_pars G (by simpa using hh) (fun i hi => hM i ?_) hl ha
        simpa only [modS] using onesT_in hi
      · obtain ⟨c, q⟩ := ife_some q
        obtain ⟨t', h2, q⟩ := obind q
        cases q
        simp only [decide_eq_true_eq] at c
        simp only [denS, ← G.ha]
        exact st_set (fun i hi => hM i (by simpa [modS] using hi)) G.toGX (sd_tup ha) (trT_ok G.toGX (isLoc2 s) (loc2_ok G) f _ t' h2) rfl (swS_ok G.hsc _ _ c) rfl
  · rename_i t e pos hne hne2 hne3
    obtain ⟨h0, q⟩ := ife_some q
    simp only [Bool.and_eq_true] at h0
    obtain ⟨a, h1, q⟩ := obind q
    obtain ⟨t', h2, q⟩ := obind q
    cases q
    simp only [denS, ← G.ha]
    have e1 : swapsWith e (some t) pos.line X.env = pure false := by
      have hn : ∀ x p, t ≠ .Name x p := fun x p z => hne x p z
      cases e <;> try rfl
      all_goals (cases t <;> first | rfl | exact absurd rfl (hn _ _))
    refine st_set (fun i hi => hM i (by simpa [modS] using hi)) G.toGX ((tr_ok f).e X s g G.toGX e a h1).1 (trT_ok G.toGX (isLoc2 s) (loc2_ok G) f t t' h2) e1 (swapped_ok h0.1 _ _) ?_
    rw [asg1 h0.2]
    rfl
  · rename_i t a b pos
    obtain ⟨h0, q⟩ := ife_some q
    obtain ⟨t', h1, q⟩ := obind q
    obtain ⟨a', h2, q⟩ := obind q
    obtain ⟨b', h3, q⟩ := obind q
    cases q
    have := st_ite (pos := pos) (((tr_ok f).e X s g G.toGX t t' h1).2 f h0) (ih.ss X s g G a a' M h2 fun i hi => hM i (by simp [modS, hi])) (ih.ss X s g G b b' M h3 fun i hi => hM i (by simp [modS, hi]))
    rw [G.ha] at this
    simp only [denS]
    exact this
  · rename_i tg iter body pos
    obtain ⟨h0, q⟩ := ife_some q
    simp only [Bool.and_eq_true, Bool.not_eq_true'] at h0
    obtain ⟨b, h1, q⟩ := obind q
    obtain ⟨t, h2, q⟩ := obind q
    obtain ⟨it, h3, q⟩ := obind q
    cases q
    have := st_loop (pos := pos) (M := M) G h0.2 ((tr_ok f).i X s g G.toGX _ tg iter it h3) (trT_ok G.toGX (isLoc2 s) (loc2_ok G) f tg t h2) (ih.ss X s g G body b (tvs t ++ modSs b) h1 fun i hi => List.mem_append_right _ hi) (fun i hi => List.mem_append_left _ hi) (fun i hi => hM i (by simpa [modS] using hi)) (folded_ok h0.1 _)
    rw [G.ha] at this
    simp only [denS]
    exact this
  · rename_i t body pos
    obtain ⟨h0, q⟩ := ife_some q
    obtain ⟨t', h1, q⟩ := obind q
    obtain ⟨b, h2, q⟩ := obind q
    cases q
    have := st_whl (pos := pos) G (((tr_ok f).e X s g G.toGX t t' h1).2 f h0) (ih.ss X s g G body b M h2 fun i hi => hM i (by simpa [modS] using hi)) w
    rw [G.ha] at this
    simp only [denS]
    exact this
  · rename_i e pos
    obtain ⟨k, h1, rfl⟩ := omap q
    obtain ⟨x, p, m, j, p2, p3, rfl, k1, k2, k3, k4⟩ := rseForm_use h1
    have := st_rse (pos := pos) (p := p) (p2 := p2) (p3 := p3) (j := j) (m := m) (M := M) G k4 k3 k1 k2
    simp only [denS, denX, ofR, k3]
    exact this
  · rename_i body x np y suite pos' pos
    split at q
    · cases q
    · rename_i hh
      obtain ⟨b, h1, q⟩ := obind q
      obtain ⟨d, h2, q⟩ := obind q
      obtain ⟨i, h3, q⟩ := obind q
      obtain ⟨z, h4, q⟩ := obind q
      obtain ⟨h5, q⟩ := ife_some q
      cases q
      simp only [Bool.and_eq_true, Bool.not_eq_true', isLoc, beq_iff_eq] at h5
      cases suite with
      | nil => cases h5.2
      | cons b0 suite =>
        have := st_try_as (M := M) (np := np) (pos' := pos') (pos := pos) (B := b) (Bs := z) (body := body) G (by simpa using hh) (hM i (by simp [modS, modHs])) (ix_get h2) h5.1.1 h3 h5.1.2
          (fun X' g' G' _ => ih.ss X' s g' G' body b M h1 fun j hj => hM j (by simp [modS, hj]))
          (fun X' g' G' => by
            have t := ih.ss X' s.toHot g' G' (b0 :: suite) z M h4 fun j hj => hM j (by simp [modS, modHs, hj])
            rw [G'.hcH rfl] at t
            exact t)
        simp only [denS]
        exact this
  · rename_i body h0 hs pos _
    split at q
    · cases q
    · rename_i hh
      obtain ⟨b, h1, q⟩ := obind q
      obtain ⟨hs', h2, q⟩ := obind q
      cases q
      have := st_try (M := M) (pos := pos) (B := b) (body := body) G (by simpa using hh) (fun X' g' G' _ => ih.ss X' s g' G' body b M h1 fun j hj => hM j (by simp [modS, hj])) (ih.hs s _ hs' M h2 fun j hj => hM j (by simp [modS, hj]))
      simp only [denS]
      exact this
  · cases q
theorem ts_ok : ∀ f : Nat, TsOk P w n h f
  | 0 => ⟨fun X s g G st S' M q => by simp [trSt] at q, fun X s g G x p pos e S' M q => by simp [trA] at q, fun X s g G e S' M p q => by simp [trR] at q, fun X s g G sts B M q => by simp [trSs] at q, fun s hds hs M q => by simp [trHs] at q⟩
  | f + 1 => have ih := ts_ok f; ⟨st_ok ih, a_ok ih, r_ok, ss_ok ih, hs_ok ih⟩
end
end G
namespace G
open PySem PySem.Spec PyProof.Rows L2

/-! ### the defs -/
structure DefD where
  nm : Str
  st : Stmt
  N : List Str
  ps : List Str
  hn : Hn
structure DefOk (P : PInf) (i : Nat) (d : DefD) : Prop where
  nm : P.dnm[i]? = some d.nm
  sc : FnScope d.N d.ps (defScope d.st)
  df : ∃ (B : List S) (x : String), trSs P d.hn 200 ⟨d.N, defScope d.st, false⟩ (defBody d.st) = some B ∧ P.prog.defs[i]? = some ⟨x, d.ps.length, d.N.length, B⟩
structure ProgOk (P : PInf) (D : List DefD) (K : PySem.W.Frag) (wd : World) (mg : Str → Option Value) (CV : Nat → Option Value) : Prop where
  len : D.length = P.prog.defs.length
  dl : P.dnm.length = P.prog.defs.length
  tr : ∀ (i : Nat) (d : DefD), D[i]? = some d → DefOk P i d
  fn : ∀ (i : Nat) (d : DefD), D[i]? = some d → ∃ f fd, L2.Fun K d.nm d.nm d.st f fd ∧ mg d.nm = some (.ref f) ∧ Binds K fd d.ps []
  cns : ∀ (x : Str) (p : PV), P.cns.lookup x = some p → ∃ u v, mg x = some u ∧ RelV v u ∧ ∀ H, Rep ⟨K, wd⟩ H p v
  blt : ∀ x ∈ P.blt, mg x = none
  gcd : ∀ x ∈ P.gcds, mg x = some (.builtin "math.gcd")
  cls : ClsOk P K mg CV
theorem repL_start {Z : Zd} {H : Hp} : ∀ {ps : List PV} {vs : List V}, RepL Z H ps vs → ∀ (i : Nat) (p : PV), ps[i]? = some p → ∃ v, vs[i]? = some v ∧ Rep Z H p v := fun h i p e => h.get e
theorem env_start {Z : Zd} {H : Hp} {B : List Addr} {N : List Str} {ps : List PV} {vs : List V} (hB : live H B) (hr : RepL Z (hide H B) ps vs) (hl : ps.length ≤ N.length) : EnvRep Z H B ExP.no (L2.start N vs) H [] (env0 ps N.length) := by
  have hlen := hr.length
  have hB' : B ++ [] = B := List.append_nil B
  have own0 : ∀ i, owned (env0 ps N.length) i = false := fun i => by
    unfold owned env0
    by_cases hi : i < ps.length
    · rw [List.getElem?_append_left (by simpa using hi), List.getElem?_map, List.getElem?_eq_getElem hi]
      rfl
    · rw [List.getElem?_append_right (by simpa using hi), List.length_map]
      cases q : (List.replicate (N.length - ps.length) Slot.un)[i - ps.length]? with
      | none => rfl
      | some s =>
        have := List.mem_of_getElem? q
        rw [List.mem_replicate] at this
        rw [this.2]
  refine ⟨by simp [L2.start, env0, hlen], fun i s e => ?_, fun i j a _ h => ?_, fun a ha => ?_, fun a ha => ?_, hB, .refl H⟩
  · rw [hB']
    unfold env0 at e
    unfold L2.start
    by_cases hi : i < ps.length
    · rw [List.getElem?_append_left (by simpa using hi), List.getElem?_map, List.getElem?_eq_getElem hi] at e
      cases e
      obtain ⟨v, e1, e2⟩ := hr.get (List.getElem?_eq_getElem hi)
      refine ⟨v, ?_, e2⟩
      rw [List.getElem?_append_left (by simpa [hlen] using hi), List.getElem?_map, e1]
      rfl
    · rw [List.getElem?_append_right (by simpa using hi), List.length_map] at e
      have hm := List.mem_of_getElem? e
      rw [List.mem_replicate] at hm
      rw [hm.2]
      show _ = some none
      rw [List.getElem?_append_right (by simpa [hlen] using hi), List.length_map, hlen]
      obtain ⟨h1, _⟩ := List.getElem?_eq_some_iff.mp e
      rw [List.length_replicate] at h1
      rw [List.getElem?_eq_getElem (by simpa using h1)]
      simp
  · rw [own0] at h; cases h
  · cases ha
  · cases ha
section
variable {P : PInf} {w : Nat} {D : List DefD} {prog : Program} {K : PySem.W.Frag} {wd : World} {mg : Str → Option Value} {base : Heap} {CV : Nat → Option Value} {FN : Nat → List Str}
theorem all_ok (T : ProgOk P D K wd mg CV) : ∀ (n i : Nat) (d : DefD), D[i]? = some d → ∀ (f : Addr) (fd : FuncData), L2.Fun K d.nm d.nm d.st f fd → FnG prog wd K mg base (L2.CX prog wd) n f fd d.ps (spF P w ⟨K, wd⟩ CV FN n i d.ps.length)
  | 0, i, d, hd, f, fd, F => by
    refine ⟨fun vs H Q E h => ?_, fun A outer s H args us vs Q E _ _ _ _ _ h => ?_⟩
    · obtain ⟨ps, B, h1, _⟩ := h
      exact h1
    · obtain ⟨ps, B, _, _, _, h⟩ := h
      exact h.elim
  | n + 1, i, d, hd, f, fd, F => by
    obtain ⟨k1, k2, B, x, k3, k4⟩ := T.tr i d hd
    obtain ⟨oc, od, kV, doc, pm, an, cdv, ct, osl, rfl, lk, hcd⟩ := F.ex
    refine fnG_of lk hcd k2 (fun vs H Q E h => ?_) fun A outer s H vs Q E hq hr h => ?_
    · obtain ⟨ps, B, h1, _⟩ := h
      exact h1
    obtain ⟨ps, Bs, h1, h2, h3, h4⟩ := h
    have hcl : ClsOk P K mg CV := T.cls
    let g : Gs := { Z := ⟨K, wd⟩, H0 := H, B := Bs, EX := ExP.no, CV := CV, FN := FN, W := fun cls dd _ H' => E cls dd H', c := P.prog.call w n, anc := P.prog.anc }
    have hun : (A.deeper (envOfC d.nm (defScope d.st) s.heap.objs.size f cdv)).units + 200 < cLine := by
      have := hr.un
      omega
    have GT0 : GT P w n (cxOf (L2.CX prog wd) prog wd K mg base d.N d.nm (defScope d.st) f cdv A outer s H E) ⟨d.N, defScope d.st, false⟩ g := {
      hN := rfl
      nd := k2.nd
      hsc := rfl
      calm := fun _ => rfl
      room := fun _ => hr
      un := hun
      gd := hq
      hz := rfl
      hc := fun _ => rfl
      hcH := fun z => by cases z
      ha := rfl
      tk := takes_of rfl rfl rfl rfl
      fns := fun _ j dj x e1 e2 => by
        have hj : j < D.length := by rw [T.len]; exact (List.getElem?_eq_some_iff.mp e1).1
        have ej : D[j]? = some D[j] := List.getElem?_eq_getElem hj
        obtain ⟨m1, m2, B', x', m3, m4⟩ := T.tr j D[j] ej
        obtain ⟨f', fd', F', m5, m6⟩ := T.fn j D[j] ej
        rw [e2] at m1
        have m1' := Option.some.inj m1
        rw [e1] at m4
        have m4' := Option.some.inj m4
        refine ⟨f', fd', (D[j]).ps, by rw [m1']; exact m5, F'.kp, m6, ?_⟩
        rw [m4']
        exact all_ok T n j D[j] ej f' fd' F'
      cns := T.cns
      blt := T.blt
      dl := T.dl
      gcd := T.gcd
      cls := hcl
      exx := fun _ => rfl
      exh := fun z => by cases z
      po := passes_of rfl
      fnl := fun _ => rfl
      stk := rfl
      frm := rfl }
    have hss := (ts_ok (P := P) (w := w) (n := n) (h := d.hn) 200).ss _ _ g GT0 (defBody d.st) B (modSs B) k3 fun i hi => hi
    refine ⟨_, hss, env0 ps d.N.length, [], env_start h2 h3 ?_, ?_⟩
    · have e1 := h3.length
      have e2 := congrArg List.length k2.pre
      rw [List.length_take] at e2
      omega
    · have hl : ps.length = d.ps.length := by rw [← h3.length]; exact h1
      simp only [Prog.call, k4] at h4
      rw [if_pos hl] at h4
      show OutS g (modSs B) _ _ H [] (denSs P.prog.anc P.prog.nf w (P.prog.call w n) B (env0 ps d.N.length)) _
      cases q : denSs P.prog.anc P.prog.nf w (P.prog.call w n) B (env0 ps d.N.length) with
      | nx e =>
        rw [q] at h4
        exact fun σ' H' O' he _ => h4 .non H' he.sm (by simp [Rep])
      | rt p =>
        rw [q] at h4
        exact fun v H' sm rv => h4 v H' sm rv
      | ex x e =>
        rw [q] at h4
        intro C dd σ' H' O' he _ hx
        exact h4 C dd H' he.sm (hx.1.mono (hide_sub fun a ha => List.mem_append_left _ ha)) hx.2
      | bk e => rw [q] at h4; exact h4.elim
      | ct e => rw [q] at h4; exact h4.elim
      | bad => rw [q] at h4; exact h4.elim
end
/-! ### law -/
def spLaw (K : PySem.W.Frag) : Sp := fun vs H Q _ => ∃ (a : Addr) (ns : List Int), vs = [.ref a] ∧ SqL K H a (ns.map V.int) ∧ ns.length ≤ 63 ∧ (∀ z ∈ ns, Builtin.Int.intBits z ≤ 1048576) ∧ ∀ H', Q (.bl true) H'
theorem rep_ints {Z : Zd} {H : Hp} : ∀ ns : List Int, RepL Z H (ns.map .int) (ns.map V.int)
  | [] => .nil
  | n :: r => .cons (by simp [Rep]) (rep_ints r)
theorem law_end {l : PySem.W.OpenLaw} {q : Program} {loose : List Str} {XP : (Str → Option Value) → Heap → Prop} {YP : World → Heap → Prop} {dr : DefRec} {K : Params → PySem.W.Frag} (P : PInf) (D : List DefD) (d : DefD) (i k w : Nat) (x : Str)
    (hn : l.most = some 63) (hdf : dr.params.defaults = []) (hr : Room k callerA) (hd : D[i]? = some d) (hps : d.ps = [x]) (hnm : dr.name = d.nm)
    (hY : ∀ (w : World) (h : Heap), YP w h → (K w.params).In h)
    (hargs : ∀ (wd : World) (f : Addr) (fd : FuncData), L2.Fun (K wd.params) d.nm d.nm d.st f fd → ∀ (s : Shared) (u : Value), BindsTo s fd ⟨[u], []⟩ [(x, u)])
    (law : ∀ ns : List Int, ns.length ≤ 63 → (∀ z ∈ ns, Builtin.Int.intBits z ≤ 1048576) → P.prog.call w k i [.lst (ns.map .int)] = .ok (.bl true))
    (F : ∀ (wd : World) (mg : Str → Option Value) (h : Heap), (K wd.params).In h → h.Ns mainGlobals mg → ∃ CV, ProgOk P D (K wd.params) wd mg CV) :
    PySem.W.WalkO q loose XP YP l.row.toRowW dr [] (fun f vs => PySem.call f vs) := by
  refine walkG (n := 63) (k := k) (x := x) (CX := fun wd => L2.CX l.prog wd) (sp := fun wd => G.spLaw (K wd.params)) hn (by decide) hdf hr hY (fun wd mg fa h KX G hmg => ?_) (fun wd H a ns hl hb _ hS => ⟨a, ns, rfl, hS, hl, hb, fun _ => rfl⟩) (fun _ _ _ _ _ z => ?_)
  · obtain ⟨CV, T⟩ := F wd mg h KX G
    obtain ⟨f, fd, F1, m, b⟩ := T.fn i d hd
    rw [hnm, m] at hmg
    cases hmg
    refine ⟨fd, hargs wd fa fd F1, fun base _ _ => ?_⟩
    have := all_ok (w := w) (prog := l.prog) (base := base) (FN := fun _ => []) T k i d hd fa fd F1
    rw [hps] at this
    refine this.imp fun vs H Q E h => ?_
    obtain ⟨a, ns, rfl, hS, hl, hb, hQ⟩ := h
    refine ⟨[.lst (ns.map .int)], [], rfl, fun a z => absurd z (by simp), .cons ?_ .nil, ?_⟩
    · unfold Rep
      have e : hide H [] = H := by funext b; simp [hide]
      rw [e]
      exact ⟨a, _, rfl, hS, rep_ints ns⟩
    · rw [law ns hl hb]
      intro v H' _ hv
      have : v = .bl true := by simpa [Rep] using hv
      rw [this]
      exact hQ H'
  · obtain ⟨_, _, _, _, _, _, _, _, _, _, _, z⟩ := z
    exact z.2
end G
namespace G
open PySem PySem.Spec PyProof.Rows L2

/-! ### the facts of the written part, asked of it once -/
mutual
def repB (K : PySem.W.Frag) : Nat → PV → Value → Bool
  | _, .non, .none => true
  | _, .bl b, .bool c => b == c
  | _, .int i, .int j _ => i == j
  | _, .str l, .str z _ => strV l == z
  | f + 1, .tup l, .ref a => match K.lookup a with
    | some ⟨.type t, _, .seq its _, _⟩ => t == "tuple" && decide (its.size ≤ 1000) && repBs K f l its.toList
    | _ => false
  | _, _, _ => false
def repBs (K : PySem.W.Frag) : Nat → List PV → List Value → Bool
  | 0, _, _ => false
  | _ + 1, [], [] => true
  | f + 1, p :: ps, u :: us => repB K f p u && repBs K f ps us
  | _, _, _ => false
end
mutual
theorem repB_ok {K : PySem.W.Frag} (f : Nat) (p : PV) (u : Value) (h : repB K f p u = true) : ∃ v, RelV v u ∧ ∀ (wd : World) (H : Hp), Rep ⟨K, wd⟩ H p v := by
  cases p with
  | non => cases u <;> first | exact ⟨.non, rfl, fun _ _ => by simp [Rep]⟩ | (cases f <;> simp [repB] at h)
  | bl b =>
    cases u <;> try (cases f <;> simp [repB] at h; done)
    rename_i c
    have : b = c := by cases f <;> simpa [repB] using h
    subst this
    exact ⟨.bl b, rfl, fun _ _ => by simp [Rep]⟩
  | int i =>
    cases u <;> try (cases f <;> simp [repB] at h; done)
    rename_i j t
    have : i = j := by cases f <;> simpa [repB] using h
    subst this
    exact ⟨.int i, ⟨t, rfl⟩, fun _ _ => by simp [Rep]⟩
  | str l =>
    cases u <;> try (cases f <;> simp [repB] at h; done)
    rename_i z t
    have : strV l = z := by cases f <;> simpa [repB] using h
    subst this
    exact ⟨.str (strV l), ⟨t, rfl⟩, fun _ _ => by simp [Rep]⟩
  | tup l =>
    cases f with
    | zero => cases u <;> simp [repB] at h
    | succ f =>
      cases u <;> try (simp [repB] at h; done)
      rename_i a
      simp only [repB] at h
      split at h
      · rename_i t d its n sl hl
        simp only [Bool.and_eq_true, beq_iff_eq, decide_eq_true_eq] at h
        obtain ⟨⟨rfl, h1⟩, h2⟩ := h
        obtain ⟨vs, e1, e2⟩ := repBs_ok f l its.toList h2
        refine ⟨.ref a, rfl, fun wd H => ?_⟩
        unfold Rep
        exact ⟨a, vs, rfl, .inr ⟨_, its, n, hl, rfl, rfl, by rw [← line_eq]; unfold lineMax; omega, e1⟩, e2 wd H⟩
      · cases h
  | lst l => cases f <;> cases u <;> simp [repB] at h
  | dct l => cases f <;> cases u <;> simp [repB] at h
termination_by f
theorem repBs_ok {K : PySem.W.Frag} (f : Nat) (ps : List PV) (us : List Value) (h : repBs K f ps us = true) : ∃ vs, Vals vs us ∧ ∀ (wd : World) (H : Hp), RepL ⟨K, wd⟩ H ps vs := by
  cases f with
  | zero => simp [repBs] at h
  | succ f =>
    cases ps with
    | nil =>
      cases us with
      | nil => exact ⟨[], .nil, fun _ _ => .nil⟩
      | cons u us => simp [repBs] at h
    | cons p ps =>
      cases us with
      | nil => simp [repBs] at h
      | cons u us =>
        simp only [repBs, Bool.and_eq_true] at h
        obtain ⟨v, e1, e2⟩ := repB_ok f p u h.1
        obtain ⟨vs, e3, e4⟩ := repBs_ok f ps us h.2
        exact ⟨v :: vs, .cons e1 e3, fun wd H => .cons (e2 wd H) (e4 wd H)⟩
termination_by f
end
def cnsB (K : PySem.W.Frag) (l : List (Str × PV)) : Bool := l.all fun e => match PySem.W.nsIn K mainGlobals e.1 with
  | some (some u) => repB K 60 e.2 u
  | _ => false
def bltB (K : PySem.W.Frag) (l : List Str) : Bool := l.all fun x => match PySem.W.nsIn K mainGlobals x with
  | some none => true
  | _ => false
def gcdB (K : PySem.W.Frag) (l : List Str) : Bool := l.all fun x => match PySem.W.nsIn K mainGlobals x with
  | some (some (.builtin m)) => m == "math.gcd"
  | _ => false
def veBM : List Value := [.type "ValueError", .type "Exception", .type "BaseException", .type "object"]
def isT (v : Option Value) (n : String) : Bool := match v with
  | some (.type m) => m == n
  | _ => false
def isB (v : Option (Option Value)) (n : String) : Bool := match v with
  | some (some (.builtin m)) => m == n
  | _ => false
def excB (K : PySem.W.Frag) (C : Addr) : Bool :=
  isB (PySem.W.findIn K (.ref C) "__getattribute__") "BaseException.__getattribute__" && PySem.W.findIn K (.ref C) "__getattr__" == some none && PySem.W.subIn K (.ref C) (.type "BaseException") == some true && PySem.W.hasDictIn K C &&
    isB (PySem.W.findIn K (.ref C) "__class__") "object.__class__" && isB (PySem.W.specialIn K (.builtin "object.__class__") "__get__") "getset_descriptor.__get__" && PySem.W.takesIn K (.builtin "object.__class__") == some true && PySem.W.mroIn K C (.type "object") == some true
theorem isT_ok {v : Option Value} {n : String} (h : isT v n = true) : v = some (.type n) := by
  unfold isT at h
  split at h
  · rw [beq_iff_eq] at h; rw [h]
  · cases h
theorem isB_ok {v : Option (Option Value)} {n : String} (h : isB v n = true) : v = some (some (.builtin n)) := by
  unfold isB at h
  split at h
  · rw [beq_iff_eq] at h; rw [h]
  · cases h
theorem excB_ok {K : PySem.W.Frag} {C : Addr} (h : excB K C = true) : ExcC K C := by
  unfold excB at h
  simp only [Bool.and_eq_true, beq_iff_eq] at h
  obtain ⟨⟨⟨⟨⟨⟨⟨h1, h2⟩, h3⟩, h4⟩, h5⟩, h6⟩, h7⟩, h8⟩ := h
  exact ⟨isB_ok h1, h2, h3, h4, isB_ok h5, isB_ok h6, h7, h8⟩
/-- the class of a name -/
def clsV (K : PySem.W.Frag) (x : Str) : Option Value := match PySem.W.nsIn K mainGlobals x with
  | some (some (.ref C)) => some (.ref C)
  | some none => match bootBuiltins x with
    | some (.type T) => some (.type T)
    | _ => none
  | _ => none
def CVof (P : PInf) (K : PySem.W.Frag) (d : Nat) : Option Value := P.cls[d]?.bind (clsV K)
def clsB (P : PInf) (K : PySem.W.Frag) : Bool :=
  P.cls.all (fun x => (clsV K x).isSome && !(x == ("__debug__" : Str)) && !(x == ("__name__" : Str))) &&
  (List.range P.cls.length).all (fun k => match CVof P K k with
    | some (.ref C) => excB K C && (match P.prog.anc[k]? with
      | some l => (List.range P.cls.length).all fun d => match CVof P K d with
        | some cv => PySem.W.exmOne K (.ref C) cv == some (l.contains d) && PySem.W.kitOne K (.ref C) cv == some (l.contains d)
        | none => true
      | none => false)
    | _ => true) &&
  (List.range P.cls.length).all (fun k => if P.prog.nf[k]? == some 0 then (match P.cls[k]? with
    | some x => match PySem.W.nsIn K mainGlobals x with
      | some (some (.ref C)) => PySem.W.excIn K C veBM "ValueError.__new__" && PySem.W.keepIn K (.ref C) && PySem.W.subIn K (.ref C) (.type "BaseException") == some true && isT (PySem.W.typeIn K (.ref C)) "type"
      | _ => false
    | none => false) else true)
theorem CV_lt {P : PInf} {K : PySem.W.Frag} {d : Nat} {v : Value} (h : CVof P K d = some v) : d < P.cls.length := by
  unfold CVof at h
  obtain ⟨x, h1, _⟩ := Option.bind_eq_some_iff.mp h
  exact (List.getElem?_eq_some_iff.mp h1).1
theorem clsB_ok {P : PInf} {K : PySem.W.Frag} {h : Heap} {mg : Str → Option Value} (KX : K.In h) (G : h.Ns mainGlobals mg) (c : clsB P K = true) : ClsOk P K mg (CVof P K) := by
  unfold clsB at c
  rw [Bool.and_eq_true, Bool.and_eq_true] at c
  obtain ⟨⟨c1, c2⟩, c3⟩ := c
  rw [List.all_eq_true] at c1 c2 c3
  have two : ∀ (k : Nat) (C : Addr), CVof P K k = some (.ref C) → excB K C = true ∧ ∃ l, P.prog.anc[k]? = some l ∧ ∀ (d : Nat) (cv : Value), CVof P K d = some cv → PySem.W.exmOne K (.ref C) cv = some (l.contains d) ∧ PySem.W.kitOne K (.ref C) cv = some (l.contains d) := by
    intro k C hk
    have := c2 k (List.mem_range.mpr (CV_lt hk))
    rw [hk] at this
    simp only [Bool.and_eq_true] at this
    obtain ⟨z1, z2⟩ := this
    refine ⟨z1, ?_⟩
    split at z2
    · rename_i l hl
      refine ⟨l, hl, fun d cv hd => ?_⟩
      have := List.all_eq_true.mp z2 d (List.mem_range.mpr (CV_lt hd))
      rw [hd] at this
      simpa only [Bool.and_eq_true, beq_iff_eq] using this
    · cases z2
  refine ⟨fun d x hd => ?_, fun k d l C cv hl hk hd => ?_, fun k d l C cv hl hk hd => ?_, fun k C hk => excB_ok (two k C hk).1, fun k x hk hx => ?_, fun k C hk => ?_⟩
  · have := c1 x (List.mem_of_getElem? hd)
    simp only [Bool.and_eq_true, Bool.not_eq_true', beq_eq_false_iff_ne, ne_eq] at this
    obtain ⟨⟨z1, z2⟩, z3⟩ := this
    obtain ⟨cv, z4⟩ := Option.isSome_iff_exists.mp z1
    refine ⟨cv, by unfold CVof; rw [hd]; exact z4, ?_, by simpa using z2, ?_⟩
    · unfold clsV at z4
      split at z4
      · cases z4; exact .inl ⟨_, rfl⟩
      · split at z4
        · cases z4; exact .inr ⟨_, rfl⟩
        · cases z4
      · cases z4
    · unfold clsV at z4
      split at z4
      · rename_i C hn
        cases z4
        exact .inl (PySem.W.mg_of KX G hn)
      · rename_i hn
        split at z4
        · rename_i T hT
          cases z4
          exact .inr ⟨PySem.W.mg_none_of KX G hn, hT, z3⟩
        · cases z4
      · cases z4
  · obtain ⟨_, l', h1, h2⟩ := two k C hk
    rw [hl] at h1
    cases h1
    exact (h2 d cv hd).1
  · obtain ⟨_, l', h1, h2⟩ := two k C hk
    rw [hl] at h1
    cases h1
    exact (h2 d cv hd).2
  · have hlt := (List.getElem?_eq_some_iff.mp hx).1
    have := c3 k (List.mem_range.mpr hlt)
    rw [hk, hx] at this
    simp only [beq_self_eq_true, if_true] at this
    split at this
    · rename_i C hn
      simp only [Bool.and_eq_true, beq_iff_eq] at this
      refine ⟨C, ?_, PySem.W.mg_of KX G hn, this.1.1.1, this.1.1.2, this.1.2, isT_ok this.2⟩
      unfold CVof clsV
      rw [hx]
      simp only [Option.bind_some, hn]
    · cases this
  · obtain ⟨_, l, h1, _⟩ := two k C hk
    exact ⟨l, h1⟩
/-! ### the defs' function objects -/
structure FnF (K : PySem.W.Frag) (mg : Str → Option Value) (d : DefD) : Prop where
  ex : ∃ f fd, L2.Fun K d.nm d.nm d.st f fd ∧ mg d.nm = some (.ref f) ∧ Binds K fd d.ps []
abbrev FnOf {K : PySem.W.Frag} {h : Heap} (KX : K.In h) (mg : Str → Option Value) (d : DefD) : Prop := FnF K mg d
theorem fnF_mk {K : PySem.W.Frag} {h : Heap} {mg : Str → Option Value} (KX : K.In h) (G : h.Ns mainGlobals mg) {d : DefD} {f : Addr} {oc : Value} {od an : Option Addr} {osl : Array (Option Value)} {kV doc pm cdv ct : Value}
    (hb : ∀ (kV doc pm : Value) (an : Option Addr) (cdv ct : Value) (us : List Value), us.length = d.ps.length → bindArgs (PySem.W.fnOf d.nm d.nm (defArgs d.st) (defBody d.st) (defScope d.st) .none kV doc pm an cdv ct) ⟨us, []⟩ = pure (d.ps.zip us))
    (a : PySem.W.nsIn K mainGlobals d.nm = some (some (.ref f))) (l : K.lookup f = some ⟨oc, od, .func (PySem.W.fnOf d.nm d.nm (defArgs d.st) (defBody d.st) (defScope d.st) .none kV doc pm an cdv ct), osl⟩)
    (c : PySem.W.codeIn K cdv d.nm = true) (k : PySem.W.keepIn K (.ref f) = true) : FnF K mg d := by
  have F := fun_mk (st := d.st) l c k
  exact ⟨f, _, F, PySem.W.mg_of KX G a, F.binds hb⟩
/-- of each of a list -/
def AllIx {α : Type} (Q : Nat → α → Prop) : Nat → List α → Prop
  | _, [] => True
  | i, d :: r => Q i d ∧ AllIx Q (i + 1) r
theorem allIx_get {α : Type} {Q : Nat → α → Prop} : ∀ {l : List α} {i : Nat}, AllIx Q i l → ∀ (j : Nat) (d : α), l[j]? = some d → Q (i + j) d
  | [], _, _, j, d, e => by simp at e
  | a :: r, i, h, 0, d, e => by
    simp at e
    subst e
    exact h.1
  | a :: r, i, h, j + 1, d, e => by
    have := allIx_get h.2 j d (by simpa using e)
    rw [show i + 1 + j = i + (j + 1) from by omega] at this
    exact this
theorem prog_mk {P : PInf} {D : List DefD} {K : PySem.W.Frag} {wd : World} {h : Heap} {mg : Str → Option Value} (KX : K.In h) (G : h.Ns mainGlobals mg) (len : D.length = P.prog.defs.length) (dl : P.dnm.length = P.prog.defs.length)
    (tr : AllIx (DefOk P) 0 D) (fn : AllIx (fun _ d => FnF K mg d) 0 D) (c1 : cnsB K P.cns = true) (c2 : bltB K P.blt = true) (c3 : clsB P K = true) (c4 : gcdB K P.gcds = true) : ∃ CV, ProgOk P D K wd mg CV := by
  refine ⟨CVof P K, len, dl, fun i d e => ?_, fun i d e => (allIx_get fn i d e).ex, fun x p e => ?_, fun x hx => ?_, fun x hx => ?_, clsB_ok KX G c3⟩
  · have := allIx_get tr i d e
    rwa [Nat.zero_add] at this
  · have hm : (x, p) ∈ P.cns := by
      have : ∀ {l : List (Str × PV)}, l.lookup x = some p → (x, p) ∈ l := by
        intro l
        induction l with
        | nil => intro h; cases h
        | cons a l ih =>
          intro h
          obtain ⟨y, v⟩ := a
          rw [List.lookup_cons] at h
          split at h
          · rename_i hxy
            cases h
            rw [eq_of_beq hxy]
            exact List.mem_cons_self
          · exact List.mem_cons_of_mem _ (ih h)
      exact this e
    have := List.all_eq_true.mp c1 _ hm
    dsimp only at this
    split at this
    · rename_i u hu
      obtain ⟨v, r1, r2⟩ := repB_ok 60 p u this
      exact ⟨u, v, PySem.W.mg_of KX G hu, r1, fun H => r2 wd H⟩
    · cases this
  · have := List.all_eq_true.mp c2 _ hx
    split at this
    · rename_i hu
      exact PySem.W.mg_none_of KX G hu
    · cases this
  · have := List.all_eq_true.mp c4 _ hx
    split at this
    · rename_i m hu
      have e : m = "math.gcd" := by simpa using this
      rw [← e]
      exact PySem.W.mg_of KX G hu
    · cases this
end G
namespace G
/-! ### to run a core program: every continuation has a name, so that nothing is run before its turn -/
def F.tri (f : F) (k : Exn → Env → F) : F := match f with
  | .ex x e => k x e
  | f => f
@[simp] theorem ofR_ite {α : Type} {p : Prop} [Decidable p] (e : Env) (a b : R α) (k : α → F) : ofR e (if p then a else b) k = if p then ofR e a k else ofR e b k := by split <;> rfl
@[simp] theorem thn_ite {p : Prop} [Decidable p] (a b : F) (k : Env → F) : (if p then a else b).thn k = if p then a.thn k else b.thn k := by split <;> rfl
@[simp] theorem tri_ite {p : Prop} [Decidable p] (a b : F) (k : Exn → Env → F) : (if p then a else b).tri k = if p then a.tri k else b.tri k := by split <;> rfl
@[simp] theorem bind_ite {α β : Type} {p : Prop} [Decidable p] (a b : R α) (f : α → R β) : R.bind (if p then a else b) f = if p then R.bind a f else R.bind b f := by split <;> rfl
@[simp] theorem rb_ok {α β : Type} (a : α) (f : α → R β) : R.bind (.ok a) f = f a := rfl
@[simp] theorem rb_ex {α β : Type} (x : Exn) (f : α → R β) : R.bind (.ex x) f = .ex x := rfl
@[simp] theorem rb_bad {α β : Type} (f : α → R β) : R.bind .bad f = .bad := rfl
@[simp] theorem ofR_ok {α : Type} (e : Env) (a : α) (k : α → F) : ofR e (.ok a) k = k a := rfl
@[simp] theorem ofR_ex {α : Type} (e : Env) (x : Exn) (k : α → F) : ofR e (.ex x) k = .ex x e := rfl
@[simp] theorem ofR_bad {α : Type} (e : Env) (k : α → F) : ofR e .bad k = .bad := rfl
@[simp] theorem thn_nx (e : Env) (k : Env → F) : (F.nx e).thn k = k e := rfl
@[simp] theorem thn_rt (p : PV) (k : Env → F) : (F.rt p).thn k = .rt p := rfl
@[simp] theorem tri_rt (p : PV) (k : Exn → Env → F) : (F.rt p).tri k = .rt p := rfl
@[simp] theorem thn_bk (p : Env) (k : Env → F) : (F.bk p).thn k = .bk p := rfl
@[simp] theorem tri_bk (p : Env) (k : Exn → Env → F) : (F.bk p).tri k = .bk p := rfl
@[simp] theorem thn_ct (p : Env) (k : Env → F) : (F.ct p).thn k = .ct p := rfl
@[simp] theorem tri_ct (p : Env) (k : Exn → Env → F) : (F.ct p).tri k = .ct p := rfl
@[simp] theorem thn_ex (x : Exn) (e : Env) (k : Env → F) : (F.ex x e).thn k = .ex x e := rfl
@[simp] theorem thn_bad (k : Env → F) : F.bad.thn k = .bad := rfl
@[simp] theorem tri_nx (e : Env) (k : Exn → Env → F) : (F.nx e).tri k = .nx e := rfl
@[simp] theorem tri_ex (x : Exn) (e : Env) (k : Exn → Env → F) : (F.ex x e).tri k = k x e := rfl
@[simp] theorem tri_bad (k : Exn → Env → F) : F.bad.tri k = .bad := rfl
section
variable (anc : List (List Nat)) (nf : List Nat) (w : Nat) (c : Orc) (env : Env)
def slotV : Option Slot → R PV
  | some (.sh p) => .ok p
  | some (.ol l) => .ok (.lst l)
  | some (.od l) => .ok (.dct l)
  | _ => .bad
def slotO : Option Slot → Bool
  | some (.ol _) | some (.od _) => true
  | _ => false
def appS (env : Env) (i : Nat) (p : PV) : Option Slot → F
    | some (.ol l) => if l.length < lineMax then .nx (env.set i (.ol (l ++ [p]))) else .bad
    | _ => .bad
def isOl : Option Slot → Bool
  | some (.ol _) => true
  | _ => false
def kSet (t : T) (env : Env) (p : PV) : F := optF (asg t p env)
def kOwn (i : Nat) (env : Env) (p : PV) : F := optF (ownV env i p)
def kApp (env : Env) (i : Nat) (p : PV) : F := appS env i p env[i]?
def kPut2 (env : Env) (i : Nat) (p q : PV) : F := putV env i q p
def kPut (c : Orc) (anc : List (List Nat)) (env : Env) (i : Nat) (k : E) (p : PV) : F := ofR env (denE c anc k env) (kPut2 env i p)
def kExp (env : Env) (_ : PV) : F := .nx env
def kIte2 (anc : List (List Nat)) (nf : List Nat) (w : Nat) (c : Orc) (a b : List S) (env : Env) (t : Bool) : F := if t then denSs anc nf w c a env else denSs anc nf w c b env
def kIte (anc : List (List Nat)) (nf : List Nat) (w : Nat) (c : Orc) (a b : List S) (env : Env) (p : PV) : F := ofR env (truth p) (kIte2 anc nf w c a b env)
def kLoop (anc : List (List Nat)) (nf : List Nat) (w : Nat) (c : Orc) (t : T) (b : List S) (env : Env) (l : List PV) : F := forL (denSs anc nf w c b) (asg t) l env
def kWhl (c : Orc) (anc : List (List Nat)) (t : E) (e : Env) : R Bool := (denE c anc t e).bind truth
def rseS (nf : List Nat) (k : Nat) (env : Env) (l : List PV) : F := match nf[k]? with
    | some 0 => .ex ⟨k, []⟩ env
    | some n => if l.length = n then .ex ⟨k, l⟩ env else .bad
    | none => .bad
def rseK (k : Nat) (env : Env) (l : List PV) : Option Nat → F
    | some 0 => .ex ⟨k, []⟩ env
    | some n => if l.length = n then .ex ⟨k, l⟩ env else .bad
    | none => .bad
def frzS (env : Env) (i : Nat) : Option Slot → F
    | some (.ol l) => .nx (env.set i (.sh (.lst l)))
    | some (.od l) => .nx (env.set i (.sh (.dct l)))
    | _ => .nx env
def hN (anc : List (List Nat)) (nf : List Nat) (w : Nat) (b : List S) (x : Exn) (env : Env) : Option Nat → F
    | none => wipeF none (denSs anc nf w hotC b env)
    | some i => if i < env.length then wipeF (some i) (denSs anc nf w hotC b (env.set i (.exn x))) else .bad
def kTup (l : List PV) : R PV := tupOk l .tup
def kLst (l : List PV) : R PV := tupOk l .lst
def kBin (c : Orc) (anc : List (List Nat)) (o : BO) (b : E) (env : Env) (x : PV) : R PV := R.bind (denE c anc b env) (pvBin o x)
def kNot2 (t : Bool) : R PV := .ok (.bl (!t))
def kNot (x : PV) : R PV := R.bind (truth x) kNot2
def kAnd2 (c : Orc) (anc : List (List Nat)) (b : E) (env : Env) (t : Bool) : R PV := if t then guardX (lone env b) (denE c anc b env) else .ok (.bl false)
def kAnd (c : Orc) (anc : List (List Nat)) (b : E) (env : Env) (x : PV) : R PV := R.bind (pvBl x) (kAnd2 c anc b env)
def kOr2 (c : Orc) (anc : List (List Nat)) (b : E) (env : Env) (t : Bool) : R PV := if t then .ok (.bl true) else guardX (lone env b) (denE c anc b env)
def kOr (c : Orc) (anc : List (List Nat)) (b : E) (env : Env) (x : PV) : R PV := R.bind (pvBl x) (kOr2 c anc b env)
def kIf2 (c : Orc) (anc : List (List Nat)) (a b : E) (env : Env) (t : Bool) : R PV := if t then guardX (lone env a) (denE c anc a env) else guardX (lone env b) (denE c anc b env)
def kIf (c : Orc) (anc : List (List Nat)) (a b : E) (env : Env) (x : PV) : R PV := R.bind (truth x) (kIf2 c anc a b env)
def kCmp (c : Orc) (anc : List (List Nat)) (o : CO) (b : E) (env : Env) (x : PV) : R PV := R.bind (denE c anc b env) (pvCmp o x)
def kChn4 (c : Orc) (anc : List (List Nat)) (o2 : CO) (d : E) (env : Env) (y : PV) (t : Bool) : R PV := if t then R.bind (denE c anc d env) (pvCmp o2 y) else .ok (.bl false)
def kChn3 (c : Orc) (anc : List (List Nat)) (o2 : CO) (d : E) (env : Env) (y z : PV) : R PV := R.bind (pvBl z) (kChn4 c anc o2 d env y)
def kChn2 (c : Orc) (anc : List (List Nat)) (o1 o2 : CO) (d : E) (env : Env) (x y : PV) : R PV := R.bind (pvCmp o1 x y) (kChn3 c anc o2 d env y)
def kChn (c : Orc) (anc : List (List Nat)) (o1 o2 : CO) (b d : E) (env : Env) (x : PV) : R PV := R.bind (denE c anc b env) (kChn2 c anc o1 o2 d env x)
def kSub (c : Orc) (anc : List (List Nat)) (i : E) (env : Env) (x : PV) : R PV := R.bind (denE c anc i env) (pvSub x)
def kSlc2 (c : Orc) (anc : List (List Nat)) (hi : Option E) (env : Env) (x : PV) (l : Option Int) : R PV := R.bind (denO c anc hi env) (pvSlc x l)
def kSlc (c : Orc) (anc : List (List Nat)) (lo hi : Option E) (env : Env) (x : PV) : R PV := R.bind (denO c anc lo env) (kSlc2 c anc hi env x)
def kCall (c : Orc) (f : Nat) (b : Bool) (l : List PV) : R PV := outC b (c f l)
def kIsi (t : Nat) (x : PV) : R PV := .ok (.bl (tyTest t x))
def lcEnd (r : List PV) : R PV := if r.length < lineMax then .ok (.lst r) else .bad
def tstQ (c : Orc) (anc : List (List Nat)) (tst : Option E) (e1 : Env) : R Bool := match tst with
  | some q => (denE c anc q e1).bind truth
  | none => .ok true
def kLc (c : Orc) (anc : List (List Nat)) (vs : List Nat) (t : T) (tst : Option E) (e : E) (env : Env) (l : List PV) : R PV := R.bind (lcL (asg t) (tstQ c anc tst) (eltF c anc e) (wipeE env vs) l) lcEnd
def isxS (anc : List (List Nat)) (d : Nat) : Option Slot → R PV
    | some (.exn x) => if x.fld.isEmpty then .ok (.bl (hitH anc x d)) else .bad
    | _ => .bad
def fldS (k : Nat) : Option Slot → R PV
    | some (.exn x) => ofO x.fld[k]?
    | _ => .bad
def kCons (x : PV) (r : List PV) : R (List PV) := .ok (x :: r)
def kEs (c : Orc) (anc : List (List Nat)) (es : List E) (env : Env) (x : PV) : R (List PV) := R.bind (denEs c anc es env) (kCons x)
def kXs (c : Orc) (anc : List (List Nat)) (es : List E) (env : Env) (x : PV) : R (List PV) := R.bind (denX c anc es env) (kCons x)
def kO2 (i : Int) : R (Option Int) := .ok (some i)
def kO (x : PV) : R (Option Int) := R.bind (toInt x) kO2
def kEn2 (l : List PV) : R (List PV) := .ok (enum l)
def kEn (x : PV) : R (List PV) := R.bind (seqR x) kEn2
def kZip (c : Orc) (anc : List (List Nat)) (b : E) (env : Env) (x : PV) : R (List PV) := R.bind (denE c anc b env) (zipR x)
def kRv2 (l : List PV) : R (List PV) := .ok l.reverse
def kRv (x : PV) : R (List PV) := R.bind (seqR x) kRv2
def hitL (d : Nat) : Option (List Nat) → Bool
  | some l => l.contains d
  | none => false
@[simp ↓] theorem Ss_nil : denSs anc nf w c [] env = .nx env := by simp only [denSs]
@[simp ↓] theorem Ss_cons (s : S) (r : List S) : denSs anc nf w c (s :: r) env = (denS anc nf w c s env).thn (denSs anc nf w c r) := by simp only [denSs]
@[simp ↓] theorem S_set (t : T) (e : E) : denS anc nf w c (.set t e) env = ofR env (guardX (lone env e) (denE c anc e env)) (kSet t env) := by simp only [denS] <;> rfl
@[simp ↓] theorem S_own (i : Nat) (e : E) : denS anc nf w c (.own i e) env = if freshE e then ofR env (denE c anc e env) (kOwn i env) else .bad := by simp only [denS] <;> rfl
@[simp ↓] theorem S_app (i : Nat) (e : E) : denS anc nf w c (.app i e) env = if isOl env[i]? then ofR env (guardX (lone env e) (denE c anc e env)) (kApp env i) else .bad := by
  simp only [denS, isOl]
  cases q : env[i]? with
  | none => rfl
  | some sl =>
    cases sl <;> try rfl
    rename_i l
    have : kApp env i = fun p => if l.length < lineMax then F.nx (env.set i (.ol (l ++ [p]))) else .bad := by funext p; simp [kApp, appS, q]
    rw [this]
    rfl
@[simp ↓] theorem S_put (i : Nat) (k e : E) : denS anc nf w c (.put i k e) env = if owned env i then ofR env (guardX (lone env e) (denE c anc e env)) (kPut c anc env i k) else .bad := by simp only [denS] <;> rfl
@[simp ↓] theorem S_exp (e : E) : denS anc nf w c (.exp e) env = ofR env (denE c anc e env) (kExp env) := by simp only [denS] <;> rfl
@[simp ↓] theorem S_ite (t : E) (a b : List S) : denS anc nf w c (.ite t a b) env = ofR env (denE c anc t env) (kIte anc nf w c a b env) := by simp only [denS] <;> rfl
@[simp ↓] theorem S_loop (t : T) (it : I) (b : List S) : denS anc nf w c (.loop t it b) env = ofR env (denI c anc it env) (kLoop anc nf w c t b env) := by simp only [denS] <;> rfl
@[simp ↓] theorem S_whl (t : E) (b : List S) : denS anc nf w c (.whl t b) env = whlL (kWhl c anc t) (denSs anc nf w c b) w env := by simp only [denS] <;> rfl
@[simp ↓] theorem S_ret (e : E) : denS anc nf w c (.ret e) env = ofR env (denE c anc e env) F.rt := by simp only [denS] <;> rfl
@[simp ↓] theorem S_retN : denS anc nf w c .retN env = .rt .non := by simp only [denS] <;> rfl
@[simp ↓] theorem S_pas : denS anc nf w c .pas env = .nx env := by simp only [denS] <;> rfl
@[simp ↓] theorem S_brk : denS anc nf w c .brk env = .bk env := by simp only [denS] <;> rfl
@[simp ↓] theorem S_cnt : denS anc nf w c .cnt env = .ct env := by simp only [denS] <;> rfl
@[simp ↓] theorem S_rse (k : Nat) (es : List E) : denS anc nf w c (.rse k es) env = ofR env (denX c anc es env) (rseS nf k env) := by simp only [denS] <;> rfl
@[simp ↓] theorem S_tri (b : List S) (hs : List H) : denS anc nf w c (.tri b hs) env = (denSs anc nf w c b env).tri (denH anc nf w hs) := by
  simp only [denS]
  cases denSs anc nf w c b env <;> rfl
@[simp] theorem rseS_def (k : Nat) (l : List PV) : rseS nf k env l = rseK k env l nf[k]? := rfl
@[simp ↓] theorem S_frz (i : Nat) : denS anc nf w c (.frz i) env = frzS env i env[i]? := by simp only [denS] <;> rfl
@[simp ↓] theorem H_nil (x : Exn) : denH anc nf w [] x env = .ex x env := by simp only [denH]
@[simp ↓] theorem H_cons (d : Nat) (i : Option Nat) (b : List S) (r : List H) (x : Exn) : denH anc nf w (.mk d i b :: r) x env = if hitH anc x d then hN anc nf w b x env i else denH anc nf w r x env := by simp only [denH] <;> rfl
@[simp ↓] theorem E_con (p : PV) : denE c anc (.con p) env = .ok p := by simp only [denE] <;> rfl
@[simp ↓] theorem E_var (i : Nat) : denE c anc (.var i) env = slotV env[i]? := by simp only [denE] <;> rfl
@[simp ↓] theorem E_tup (es : List E) : denE c anc (.tup es) env = R.bind (denX c anc es env) kTup := by simp only [denE] <;> rfl
@[simp ↓] theorem E_lst (es : List E) : denE c anc (.lst es) env = R.bind (denX c anc es env) kLst := by simp only [denE] <;> rfl
@[simp ↓] theorem E_bin (o : BO) (a b : E) : denE c anc (.bin o a b) env = R.bind (denE c anc a env) (kBin c anc o b env) := by simp only [denE] <;> rfl
@[simp ↓] theorem E_neg (a : E) : denE c anc (.neg a) env = R.bind (denE c anc a env) pvNeg := by simp only [denE] <;> rfl
@[simp ↓] theorem E_not (a : E) : denE c anc (.not a) env = R.bind (denE c anc a env) kNot := by simp only [denE] <;> rfl
@[simp ↓] theorem E_and (a b : E) : denE c anc (.and a b) env = R.bind (denE c anc a env) (kAnd c anc b env) := by simp only [denE] <;> rfl
@[simp ↓] theorem E_or (a b : E) : denE c anc (.or a b) env = R.bind (denE c anc a env) (kOr c anc b env) := by simp only [denE] <;> rfl
@[simp ↓] theorem E_ife (t a b : E) : denE c anc (.ife t a b) env = R.bind (denE c anc t env) (kIf c anc a b env) := by simp only [denE] <;> rfl
@[simp ↓] theorem E_cmp (o : CO) (a b : E) : denE c anc (.cmp o a b) env = R.bind (denE c anc a env) (kCmp c anc o b env) := by simp only [denE] <;> rfl
@[simp ↓] theorem E_chn (o1 o2 : CO) (a b d : E) : denE c anc (.chn o1 o2 a b d) env = R.bind (denE c anc a env) (kChn c anc o1 o2 b d env) := by simp only [denE] <;> rfl
@[simp ↓] theorem E_sub (a i : E) : denE c anc (.sub a i) env = R.bind (denE c anc a env) (kSub c anc i env) := by simp only [denE] <;> rfl
@[simp ↓] theorem E_slc (a : E) (lo hi : Option E) : denE c anc (.slc a lo hi) env = R.bind (denE c anc a env) (kSlc c anc lo hi env) := by simp only [denE] <;> rfl
@[simp ↓] theorem E_call (f : Nat) (es : List E) : denE c anc (.call f es) env = R.bind (denEs c anc es env) (kCall c f (loneL env es)) := by simp only [denE] <;> rfl
@[simp ↓] theorem E_bi (b : Bi) (es : List E) : denE c anc (.bi b es) env = R.bind (denEs c anc es env) (pvBi b) := by simp only [denE] <;> rfl
@[simp ↓] theorem E_isi (e : E) (t : Nat) : denE c anc (.isi e t) env = R.bind (denE c anc e env) (kIsi t) := by simp only [denE] <;> rfl
@[simp ↓] theorem E_lc (vs : List Nat) (t : T) (it : I) (tst : Option E) (e : E) : denE c anc (.lc vs t it tst e) env = R.bind (denI c anc it env) (kLc c anc vs t tst e env) := by simp only [denE] <;> rfl
def kMet2 (m : Me) (x : PV) (l : List PV) : R PV := pvMe m x l
def kMet (c : Orc) (anc : List (List Nat)) (m : Me) (es : List E) (env : Env) (x : PV) : R PV := R.bind (guardL (meOk m x) (denX c anc es env)) (kMet2 m x)
@[simp] theorem kMet2_v (m : Me) (x : PV) (l : List PV) : kMet2 m x l = pvMe m x l := rfl
@[simp] theorem kMet_v (m : Me) (es : List E) (x : PV) : kMet c anc m es env x = R.bind (guardL (meOk m x) (denX c anc es env)) (kMet2 m x) := rfl
@[simp ↓] theorem E_met (m : Me) (a : E) (es : List E) : denE c anc (.met m a es) env = R.bind (denE c anc a env) (kMet c anc m es env) := by simp only [denE] <;> rfl
@[simp] theorem me_rep (l : List PV) (k : Int) : pvMe .rep (.lst l) [.int k] = if 0 ≤ k ∧ k ≤ 1000 ∧ l.length ≤ 1000 then .ok (.lst (repL l k)) else .bad := rfl
@[simp] theorem guardL_t {α : Type} (r : R α) : guardL true r = r := rfl
@[simp] theorem meOk_g1 (l : List (PV × PV)) : meOk .get1 (.dct l) = true := rfl
@[simp] theorem meOk_g2 (l : List (PV × PV)) : meOk .get2 (.dct l) = true := rfl
@[simp] theorem meOk_rep (x : PV) : meOk .rep x = true := by cases x <;> rfl
@[simp] theorem meOk_rvs (x : PV) : meOk .rvs x = true := by cases x <;> rfl
@[simp] theorem me_g1 (l : List (PV × PV)) (k : PV) : pvMe .get1 (.dct l) [k] = if keyB 8 k then .ok ((dget l k).getD .non) else .bad := rfl
@[simp] theorem me_g2 (l : List (PV × PV)) (k d : PV) : pvMe .get2 (.dct l) [k, d] = if keyB 8 k then .ok ((dget l k).getD d) else .bad := rfl
@[simp] theorem me_rvs (l : List PV) : pvMe .rvs (.lst l) [] = .ok (.lst l.reverse) := rfl
@[simp] theorem fresh_rvs (a : E) (es : List E) : freshE (.met .rvs a es) = true := rfl
@[simp] theorem fresh_rep (a : E) (es : List E) : freshE (.met .rep a es) = true := rfl
def kRr2 (l : List PV) : R (List PV) := R.bind (pvRng l) kRv2
@[simp] theorem kRr2_v (l : List PV) : kRr2 l = R.bind (pvRng l) kRv2 := rfl
@[simp ↓] theorem I_rrg (es : List E) : denI c anc (.rrg es) env = R.bind (denEs c anc es env) kRr2 := by simp only [denI] <;> rfl
def kDct3 (l r : List PV) : R PV := if keyBs 8 l && decide (l.length ≤ 15) then .ok (.dct ((l.zip r).foldl (fun d e => dset d e.1 e.2) [])) else .bad
def kDct2 (c : Orc) (anc : List (List Nat)) (vs : List E) (env : Env) (l : List PV) : R PV := R.bind (noEx (denX c anc vs env)) (kDct3 l)
@[simp] theorem kDct3_v (l r : List PV) : kDct3 l r = if keyBs 8 l && decide (l.length ≤ 15) then .ok (.dct ((l.zip r).foldl (fun d e => dset d e.1 e.2) [])) else .bad := rfl
@[simp] theorem kDct2_v (vs : List E) (l : List PV) : kDct2 c anc vs env l = R.bind (noEx (denX c anc vs env)) (kDct3 l) := rfl
@[simp ↓] theorem E_dctG (k : E) (ks vs : List E) : denE c anc (.dct (k :: ks) vs) env = R.bind (noEx (denX c anc (k :: ks) env)) (kDct2 c anc vs env) := by simp only [denE] <;> rfl
@[simp] theorem noEx_k {α : Type} (a : α) : noEx (R.ok a) = .ok a := rfl
def kDc2 (d : List (PV × PV)) : R PV := .ok (.dct d)
def kDc (c : Orc) (anc : List (List Nat)) (vs : List Nat) (t : T) (tst : Option E) (k e : E) (env : Env) (l : List PV) : R PV := R.bind (dcL (asg t) (tstQ c anc tst) (eltF c anc k) (eltF c anc e) (wipeE env vs) l []) kDc2
@[simp] theorem kDc2_v (d : List (PV × PV)) : kDc2 d = .ok (.dct d) := rfl
@[simp] theorem kDc_v (vs : List Nat) (t : T) (tst : Option E) (k e : E) (l : List PV) : kDc c anc vs t tst k e env l = R.bind (dcL (asg t) (tstQ c anc tst) (eltF c anc k) (eltF c anc e) (wipeE env vs) l []) kDc2 := rfl
@[simp ↓] theorem E_dc (vs : List Nat) (t : T) (it : I) (tst : Option E) (k e : E) : denE c anc (.dc vs t it tst k e) env = R.bind (denI c anc it env) (kDc c anc vs t tst k e env) := by simp only [denE] <;> rfl
@[simp ↓] theorem E_isx (i d : Nat) : denE c anc (.isx i d) env = isxS anc d env[i]? := by simp only [denE] <;> rfl
@[simp ↓] theorem E_fld (i k : Nat) : denE c anc (.fld i k) env = fldS k env[i]? := by simp only [denE] <;> rfl
@[simp ↓] theorem Es_nil : denEs c anc [] env = .ok [] := by simp only [denEs]
@[simp ↓] theorem Es_cons (e : E) (es : List E) : denEs c anc (e :: es) env = R.bind (denE c anc e env) (kEs c anc es env) := by simp only [denEs] <;> rfl
@[simp ↓] theorem X_nil : denX c anc [] env = .ok [] := by simp only [denX]
@[simp ↓] theorem X_cons (e : E) (es : List E) : denX c anc (e :: es) env = R.bind (guardX (lone env e) (denE c anc e env)) (kXs c anc es env) := by simp only [denX] <;> rfl
@[simp ↓] theorem O_none : denO c anc none env = .ok none := by simp only [denO]
@[simp ↓] theorem O_some (e : E) : denO c anc (some e) env = R.bind (denE c anc e env) kO := by simp only [denO] <;> rfl
@[simp ↓] theorem I_seq (e : E) : denI c anc (.seq e) env = R.bind (denE c anc e env) itOf := by simp only [denI] <;> rfl
@[simp ↓] theorem I_rng (es : List E) : denI c anc (.rng es) env = R.bind (denEs c anc es env) pvRng := by simp only [denI] <;> rfl
@[simp ↓] theorem I_enm (e : E) : denI c anc (.enm e) env = R.bind (denE c anc e env) kEn := by simp only [denI] <;> rfl
@[simp ↓] theorem I_zip (a b : E) : denI c anc (.zip a b) env = R.bind (denE c anc a env) (kZip c anc b env) := by simp only [denI] <;> rfl
@[simp ↓] theorem I_rev (e : E) : denI c anc (.rev e) env = R.bind (denE c anc e env) kRv := by simp only [denI] <;> rfl
@[simp] theorem kSet_v (t : T) (p : PV) : kSet t env p = optF (asg t p env) := rfl
@[simp] theorem kOwn_v (i : Nat) (p : PV) : kOwn i env p = optF (ownV env i p) := rfl
@[simp] theorem kApp_v (i : Nat) (p : PV) : kApp env i p = appS env i p env[i]? := rfl
@[simp] theorem kPut2_v (i : Nat) (p q : PV) : kPut2 env i p q = putV env i q p := rfl
@[simp] theorem kPut_v (i : Nat) (k : E) (p : PV) : kPut c anc env i k p = ofR env (denE c anc k env) (kPut2 env i p) := rfl
@[simp] theorem kExp_v (p : PV) : kExp env p = .nx env := rfl
@[simp] theorem kIte2_v (a b : List S) (t : Bool) : kIte2 anc nf w c a b env t = if t then denSs anc nf w c a env else denSs anc nf w c b env := rfl
@[simp] theorem kIte_v (a b : List S) (p : PV) : kIte anc nf w c a b env p = ofR env (truth p) (kIte2 anc nf w c a b env) := rfl
@[simp] theorem kLoop_v (t : T) (b : List S) (l : List PV) : kLoop anc nf w c t b env l = forL (denSs anc nf w c b) (asg t) l env := rfl
@[simp] theorem kWhl_v (t : E) : kWhl c anc t env = (denE c anc t env).bind truth := rfl
@[simp] theorem kTup_v (l : List PV) : kTup l = tupOk l .tup := rfl
@[simp] theorem kLst_v (l : List PV) : kLst l = tupOk l .lst := rfl
@[simp] theorem kBin_v (o : BO) (b : E) (x : PV) : kBin c anc o b env x = R.bind (denE c anc b env) (pvBin o x) := rfl
@[simp] theorem kNot2_v (t : Bool) : kNot2 t = .ok (.bl (!t)) := rfl
@[simp] theorem kNot_v (x : PV) : kNot x = R.bind (truth x) kNot2 := rfl
@[simp] theorem kAnd2_v (b : E) (t : Bool) : kAnd2 c anc b env t = if t then guardX (lone env b) (denE c anc b env) else .ok (.bl false) := rfl
@[simp] theorem kAnd_v (b : E) (x : PV) : kAnd c anc b env x = R.bind (pvBl x) (kAnd2 c anc b env) := rfl
@[simp] theorem kOr2_v (b : E) (t : Bool) : kOr2 c anc b env t = if t then .ok (.bl true) else guardX (lone env b) (denE c anc b env) := rfl
@[simp] theorem kOr_v (b : E) (x : PV) : kOr c anc b env x = R.bind (pvBl x) (kOr2 c anc b env) := rfl
@[simp] theorem kIf2_v (a b : E) (t : Bool) : kIf2 c anc a b env t = if t then guardX (lone env a) (denE c anc a env) else guardX (lone env b) (denE c anc b env) := rfl
@[simp] theorem kIf_v (a b : E) (x : PV) : kIf c anc a b env x = R.bind (truth x) (kIf2 c anc a b env) := rfl
@[simp] theorem kCmp_v (o : CO) (b : E) (x : PV) : kCmp c anc o b env x = R.bind (denE c anc b env) (pvCmp o x) := rfl
@[simp] theorem kChn4_v (o2 : CO) (d : E) (y : PV) (t : Bool) : kChn4 c anc o2 d env y t = if t then R.bind (denE c anc d env) (pvCmp o2 y) else .ok (.bl false) := rfl
@[simp] theorem kChn3_v (o2 : CO) (d : E) (y z : PV) : kChn3 c anc o2 d env y z = R.bind (pvBl z) (kChn4 c anc o2 d env y) := rfl
@[simp] theorem kChn2_v (o1 o2 : CO) (d : E) (x y : PV) : kChn2 c anc o1 o2 d env x y = R.bind (pvCmp o1 x y) (kChn3 c anc o2 d env y) := rfl
@[simp] theorem kChn_v (o1 o2 : CO) (b d : E) (x : PV) : kChn c anc o1 o2 b d env x = R.bind (denE c anc b env) (kChn2 c anc o1 o2 d env x) := rfl
@[simp] theorem kSub_v (i : E) (x : PV) : kSub c anc i env x = R.bind (denE c anc i env) (pvSub x) := rfl
@[simp] theorem kSlc2_v (hi : Option E) (x : PV) (l : Option Int) : kSlc2 c anc hi env x l = R.bind (denO c anc hi env) (pvSlc x l) := rfl
@[simp] theorem kSlc_v (lo hi : Option E) (x : PV) : kSlc c anc lo hi env x = R.bind (denO c anc lo env) (kSlc2 c anc hi env x) := rfl
@[simp] theorem kCall_v (f : Nat) (b : Bool) (l : List PV) : kCall c f b l = outC b (c f l) := rfl
@[simp] theorem kIsi_v (t : Nat) (x : PV) : kIsi t x = .ok (.bl (tyTest t x)) := rfl
@[simp] theorem lcEnd_v (r : List PV) : lcEnd r = if r.length < lineMax then .ok (.lst r) else .bad := rfl
@[simp] theorem kLc_v (vs : List Nat) (t : T) (tst : Option E) (e : E) (l : List PV) : kLc c anc vs t tst e env l = R.bind (lcL (asg t) (tstQ c anc tst) (eltF c anc e) (wipeE env vs) l) lcEnd := rfl
@[simp] theorem kCons_v (x : PV) (r : List PV) : kCons x r = .ok (x :: r) := rfl
@[simp] theorem kEs_v (es : List E) (x : PV) : kEs c anc es env x = R.bind (denEs c anc es env) (kCons x) := rfl
@[simp] theorem kXs_v (es : List E) (x : PV) : kXs c anc es env x = R.bind (denX c anc es env) (kCons x) := rfl
@[simp] theorem kO2_v (i : Int) : kO2 i = .ok (some i) := rfl
@[simp] theorem kO_v (x : PV) : kO x = R.bind (toInt x) kO2 := rfl
@[simp] theorem kEn2_v (l : List PV) : kEn2 l = .ok (enum l) := rfl
@[simp] theorem kEn_v (x : PV) : kEn x = R.bind (seqR x) kEn2 := rfl
@[simp] theorem kZip_v (b : E) (x : PV) : kZip c anc b env x = R.bind (denE c anc b env) (zipR x) := rfl
@[simp] theorem kRv2_v (l : List PV) : kRv2 l = .ok l.reverse := rfl
@[simp] theorem kRv_v (x : PV) : kRv x = R.bind (seqR x) kRv2 := rfl
@[simp] theorem tstQ_n_v  : tstQ c anc none env = .ok true := rfl
@[simp] theorem tstQ_s_v (q : E) : tstQ c anc (some q) env = (denE c anc q env).bind truth := rfl
@[simp] theorem eltF_v (e : E) : eltF c anc e env = guardX (lone env e) (denE c anc e env) := rfl
@[simp] theorem hN_n_v (b : List S) (x : Exn) : hN anc nf w b x env none = wipeF none (denSs anc nf w hotC b env) := rfl
@[simp] theorem hN_s_v (b : List S) (x : Exn) (i : Nat) : hN anc nf w b x env (some i) = if i < env.length then wipeF (some i) (denSs anc nf w hotC b (env.set i (.exn x))) else .bad := rfl
@[simp] theorem slotV_s_v (p : PV) : slotV (some (.sh p)) = .ok p := rfl
@[simp] theorem slotV_o_v (l : List PV) : slotV (some (.ol l)) = .ok (.lst l) := rfl
@[simp] theorem slotV_u_v  : slotV (some .un) = .bad := rfl
@[simp] theorem slotO_s_v (p : PV) : slotO (some (.sh p)) = false := rfl
@[simp] theorem slotO_o_v (l : List PV) : slotO (some (.ol l)) = true := rfl
@[simp] theorem slotO_u_v  : slotO (some .un) = false := rfl
@[simp] theorem slotO_n_v  : slotO none = false := rfl
@[simp] theorem slotO_x_v (x : Exn) : slotO (some (.exn x)) = false := rfl
@[simp] theorem isOl_s_v (p : PV) : isOl (some (.sh p)) = false := rfl
@[simp] theorem isOl_o_v (l : List PV) : isOl (some (.ol l)) = true := rfl
@[simp] theorem isOl_u_v  : isOl (some .un) = false := rfl
@[simp] theorem appS_o_v (i : Nat) (p : PV) (l : List PV) : appS env i p (some (.ol l)) = if l.length < lineMax then .nx (env.set i (.ol (l ++ [p]))) else .bad := rfl
@[simp] theorem frzS_o_v (i : Nat) (l : List PV) : frzS env i (some (.ol l)) = .nx (env.set i (.sh (.lst l))) := rfl
@[simp] theorem frzS_s_v (i : Nat) (l : PV) : frzS env i (some (.sh l)) = .nx env := rfl
@[simp] theorem frzS_u_v (i : Nat) : frzS env i (some .un) = .nx env := rfl
@[simp] theorem rseK_0_v (k : Nat) (l : List PV) : rseK k env l (some 0) = .ex ⟨k, []⟩ env := rfl
@[simp] theorem isxS_x_v (d : Nat) (x : Exn) : isxS anc d (some (.exn x)) = if x.fld.isEmpty then .ok (.bl (hitH anc x d)) else .bad := rfl
@[simp] theorem fldS_x_v (k : Nat) (x : Exn) : fldS k (some (.exn x)) = ofO x.fld[k]? := rfl
@[simp] theorem ofO_s_v {α : Type} (a : α) : ofO (some a) = .ok a := rfl
@[simp] theorem ofO_n_v {α : Type} : ofO (none : Option α) = .bad := rfl
@[simp] theorem optF_s_v (e : Env) : optF (some e) = .nx e := rfl
@[simp] theorem optF_n_v  : optF none = .bad := rfl
@[simp] theorem hitL_s_v (d : Nat) (l : List Nat) : hitL d (some l) = l.contains d := rfl
@[simp] theorem hitL_n_v (d : Nat) : hitL d none = false := rfl
@[simp] theorem hitH_def (x : Exn) (d : Nat) : hitH anc x d = hitL d anc[x.cls]? := by
  unfold hitH hitL
  cases anc[x.cls]? <;> rfl
@[simp] theorem owned_def (i : Nat) : owned env i = slotO env[i]? := by
  unfold owned slotO
  cases env[i]? with
  | none => rfl
  | some s => cases s <;> rfl
@[simp] theorem asg_one (i : Nat) (p : PV) : asg (.one i) p env = if i < env.length then some (env.set i (.sh p)) else none := by simp only [asg]
@[simp] theorem asg_many (ts : List T) (l : List PV) : asg (.many ts) (.tup l) env = asgL ts l env := by simp only [asg]
@[simp] theorem asgL_nil : asgL [] [] env = some env := by simp only [asgL]
def asgK (ts : List T) (ps : List PV) : Option Env → Option Env
  | some e => asgL ts ps e
  | none => none
@[simp] theorem asgK_some (ts : List T) (ps : List PV) (e : Env) : asgK ts ps (some e) = asgL ts ps e := rfl
@[simp] theorem asgL_cons (t : T) (ts : List T) (p : PV) (ps : List PV) : asgL (t :: ts) (p :: ps) env = asgK ts ps (asg t p env) := by
  simp only [asgL]
  cases asg t p env <;> rfl
@[simp] theorem wipeE_nil : wipeE env [] = env := rfl
@[simp] theorem wipeE_cons (v : Nat) (vs : List Nat) : wipeE env (v :: vs) = (wipeE env vs).set v .un := rfl
@[simp] theorem loneL_nil : loneL env [] = true := rfl
@[simp] theorem loneL_cons (e : E) (es : List E) : loneL env (e :: es) = (lone env e && loneL env es) := rfl
@[simp] theorem env0_def (l : List PV) (n : Nat) : env0 l n = l.map .sh ++ List.replicate (n - l.length) .un := rfl
@[simp] theorem backE_def (k : Env → F) (i : Nat) : backE k i env = if (env.set i .un).any isExn then .bad else k (env.set i .un) := rfl
@[simp] theorem lone_var (i : Nat) : lone env (.var i) = !owned env i := rfl
@[simp] theorem lone_con (p : PV) : lone env (.con p) = true := rfl
@[simp] theorem lone_tup (es : List E) : lone env (.tup es) = true := rfl
@[simp] theorem lone_lst (es : List E) : lone env (.lst es) = true := rfl
@[simp] theorem lone_dct (ks vs : List E) : lone env (.dct ks vs) = true := rfl
@[simp] theorem lone_bin (q : BO) (a b : E) : lone env (.bin q a b) = true := rfl
@[simp] theorem lone_neg (a : E) : lone env (.neg a) = true := rfl
@[simp] theorem lone_not (a : E) : lone env (.not a) = true := rfl
@[simp] theorem lone_and (a b : E) : lone env (.and a b) = true := rfl
@[simp] theorem lone_or (a b : E) : lone env (.or a b) = true := rfl
@[simp] theorem lone_ife (a b d : E) : lone env (.ife a b d) = true := rfl
@[simp] theorem lone_cmp (q : CO) (a b : E) : lone env (.cmp q a b) = true := rfl
@[simp] theorem lone_chn (q r : CO) (a b d : E) : lone env (.chn q r a b d) = true := rfl
@[simp] theorem lone_sub (a b : E) : lone env (.sub a b) = true := rfl
@[simp] theorem lone_slc (a : E) (l h : Option E) : lone env (.slc a l h) = true := rfl
@[simp] theorem lone_call (f : Nat) (es : List E) : lone env (.call f es) = true := rfl
@[simp] theorem lone_bi (b : Bi) (es : List E) : lone env (.bi b es) = true := rfl
@[simp] theorem lone_met (m : Me) (a : E) (es : List E) : lone env (.met m a es) = true := rfl
@[simp] theorem lone_isi (a : E) (t : Nat) : lone env (.isi a t) = true := rfl
@[simp] theorem lone_lc (vs : List Nat) (t : T) (i : I) (q : Option E) (a : E) : lone env (.lc vs t i q a) = true := rfl
@[simp] theorem lone_dc (vs : List Nat) (t : T) (i : I) (q : Option E) (a b : E) : lone env (.dc vs t i q a b) = true := rfl
@[simp] theorem lone_fld (i k : Nat) : lone env (.fld i k) = true := rfl
@[simp] theorem lone_isx (i k : Nat) : lone env (.isx i k) = true := rfl
@[simp] theorem fresh_dc (vs : List Nat) (t : T) (i : I) (q : Option E) (k a : E) : freshE (.dc vs t i q k a) = true := rfl
@[simp] theorem fresh_lst (es : List E) : freshE (.lst es) = true := rfl
@[simp] theorem fresh_lc (vs : List Nat) (t : T) (i : I) (q : Option E) (a : E) : freshE (.lc vs t i q a) = true := rfl
@[simp] theorem fresh_bi_list (es : List E) : freshE (.bi .list es) = true := rfl
@[simp] theorem fresh_bi_sorted (es : List E) : freshE (.bi .sorted es) = true := rfl
@[simp] theorem fresh_slc (a : E) (l h : Option E) : freshE (.slc a l h) = true := rfl
@[simp] theorem fresh_bin_add (a b : E) : freshE (.bin .add a b) = true := rfl
@[simp] theorem fresh_bin_mul (a b : E) : freshE (.bin .mul a b) = true := rfl
end
@[simp] theorem isNon_0 : isNon .non = true := rfl
@[simp] theorem isNon_1 (b : Bool) : isNon (.bl b) = false := rfl
@[simp] theorem isNon_2 (i : Int) : isNon (.int i) = false := rfl
@[simp] theorem isNon_3 (s : List Char) : isNon (.str s) = false := rfl
@[simp] theorem isNon_4 (l : List PV) : isNon (.tup l) = false := rfl
@[simp] theorem isNon_5 (l : List PV) : isNon (.lst l) = false := rfl
@[simp] theorem isNon_6 (d : List (PV × PV)) : isNon (.dct d) = false := rfl
@[simp] theorem pvBl_0  : pvBl .non = .bad := rfl
@[simp] theorem pvBl_1 (b : Bool) : pvBl (.bl b) = .ok b := rfl
@[simp] theorem pvBl_2 (i : Int) : pvBl (.int i) = .bad := rfl
@[simp] theorem pvBl_3 (s : List Char) : pvBl (.str s) = .bad := rfl
@[simp] theorem pvBl_4 (l : List PV) : pvBl (.tup l) = .bad := rfl
@[simp] theorem pvBl_5 (l : List PV) : pvBl (.lst l) = .bad := rfl
@[simp] theorem pvBl_6 (d : List (PV × PV)) : pvBl (.dct d) = .bad := rfl
@[simp] theorem truth_0  : truth .non = .bad := rfl
@[simp] theorem truth_1 (b : Bool) : truth (.bl b) = .ok b := rfl
@[simp] theorem truth_2 (i : Int) : truth (.int i) = .bad := rfl
@[simp] theorem truth_3 (s : List Char) : truth (.str s) = .bad := rfl
@[simp] theorem truth_4 (l : List PV) : truth (.tup l) = .bad := rfl
@[simp] theorem truth_5 (l : List PV) : truth (.lst l) = .bad := rfl
@[simp] theorem truth_6 (d : List (PV × PV)) : truth (.dct d) = .bad := rfl
@[simp] theorem toInt_0  : toInt .non = .bad := rfl
@[simp] theorem toInt_1 (b : Bool) : toInt (.bl b) = .bad := rfl
@[simp] theorem toInt_2 (i : Int) : toInt (.int i) = .ok i := rfl
@[simp] theorem toInt_3 (s : List Char) : toInt (.str s) = .bad := rfl
@[simp] theorem toInt_4 (l : List PV) : toInt (.tup l) = .bad := rfl
@[simp] theorem toInt_5 (l : List PV) : toInt (.lst l) = .bad := rfl
@[simp] theorem toInt_6 (d : List (PV × PV)) : toInt (.dct d) = .bad := rfl
@[simp] theorem itOf_0  : itOf .non = .bad := rfl
@[simp] theorem itOf_1 (b : Bool) : itOf (.bl b) = .bad := rfl
@[simp] theorem itOf_2 (i : Int) : itOf (.int i) = .bad := rfl
@[simp] theorem itOf_3 (s : List Char) : itOf (.str s) = .ok (s.map fun c => .str [c]) := rfl
@[simp] theorem itOf_4 (l : List PV) : itOf (.tup l) = .ok l := rfl
@[simp] theorem itOf_5 (l : List PV) : itOf (.lst l) = .ok l := rfl
@[simp] theorem itOf_6 (d : List (PV × PV)) : itOf (.dct d) = .ok (d.map (·.1)) := rfl
@[simp] theorem seqR_0  : seqR .non = .bad := rfl
@[simp] theorem seqR_1 (b : Bool) : seqR (.bl b) = .bad := rfl
@[simp] theorem seqR_2 (i : Int) : seqR (.int i) = .bad := rfl
@[simp] theorem seqR_3 (s : List Char) : seqR (.str s) = .bad := rfl
@[simp] theorem seqR_4 (l : List PV) : seqR (.tup l) = .ok l := rfl
@[simp] theorem seqR_5 (l : List PV) : seqR (.lst l) = .ok l := rfl
@[simp] theorem seqR_6 (d : List (PV × PV)) : seqR (.dct d) = .bad := rfl
@[simp] theorem scal_0  : scal .non = true := rfl
@[simp] theorem scal_1 (b : Bool) : scal (.bl b) = true := rfl
@[simp] theorem scal_2 (i : Int) : scal (.int i) = true := rfl
@[simp] theorem scal_3 (s : List Char) : scal (.str s) = true := rfl
@[simp] theorem scal_4 (l : List PV) : scal (.tup l) = false := rfl
@[simp] theorem scal_5 (l : List PV) : scal (.lst l) = false := rfl
@[simp] theorem scal_6 (d : List (PV × PV)) : scal (.dct d) = false := rfl
@[simp] theorem guardX_true (r : R PV) : guardX true r = r := rfl
@[simp] theorem guardX_false (r : R PV) : guardX false r = .bad := rfl
@[simp] theorem noExv_ok {α : Type} (a : α) : noEx (.ok a : R α) = .ok a := rfl
@[simp] theorem noEx_bad {α : Type} : noEx (.bad : R α) = .bad := rfl
@[simp] theorem noEx_ite {α : Type} {p : Prop} [Decidable p] (a b : R α) : noEx (if p then a else b) = if p then noEx a else noEx b := by split <;> rfl
@[simp] theorem un1_1 (f : PV → R PV) (x : PV) : un1 f [x] = f x := rfl
@[simp] theorem un2_2 (f : PV → PV → R PV) (x y : PV) : un2 f [x, y] = f x y := rfl
@[simp] theorem isExn_un : isExn .un = false := rfl
@[simp] theorem isExn_sh (p : PV) : isExn (.sh p) = false := rfl
@[simp] theorem isExn_ol (p : List PV) : isExn (.ol p) = false := rfl
@[simp] theorem isExn_ex (x : Exn) : isExn (.exn x) = true := rfl
@[simp] theorem ownV_lst (env : Env) (i : Nat) (l : List PV) : ownV env i (.lst l) = if i < env.length then some (env.set i (.ol l)) else none := rfl
@[simp] theorem ownV_dct (env : Env) (i : Nat) (l : List (PV × PV)) : ownV env i (.dct l) = if i < env.length then some (env.set i (.od l)) else none := rfl
@[simp ↓] theorem E_dct0 (c : Orc) (anc : List (List Nat)) (env : Env) : denE c anc (.dct [] []) env = .ok (.dct []) := by
  simp only [denE, denX, bind_ok, keyBs, List.length_nil, Bool.true_and]
  rfl
@[simp] theorem fresh_dct (ks vs : List E) : freshE (.dct ks vs) = true := rfl
@[simp] theorem slotV_od (l : List (PV × PV)) : slotV (some (.od l)) = .ok (.dct l) := rfl
@[simp] theorem slotO_od (l : List (PV × PV)) : slotO (some (.od l)) = true := rfl
@[simp] theorem isOl_od (l : List (PV × PV)) : isOl (some (.od l)) = false := rfl
@[simp] theorem frzS_od (env : Env) (i : Nat) (l : List (PV × PV)) : frzS env i (some (.od l)) = .nx (env.set i (.sh (.dct l))) := rfl
@[simp] theorem isExn_od (p : List (PV × PV)) : isExn (.od p) = false := rfl
def putS (env : Env) (i : Nat) (k v : PV) : Option Slot → F
  | some (.ol l) => match k with
    | .int j => if 0 ≤ j ∧ j < l.length then .nx (env.set i (.ol (l.set j.toNat v))) else .bad
    | _ => .bad
  | some (.od l) => if keyB 8 k && decide (l.length < lineMax) then .nx (env.set i (.od (dset l k v))) else .bad
  | _ => .bad
@[simp] theorem putV_def (env : Env) (i : Nat) (k v : PV) : putV env i k v = putS env i k v env[i]? := by
  unfold putV putS
  cases env[i]? with
  | none => cases k <;> rfl
  | some s => cases s <;> cases k <;> rfl
@[simp] theorem putS_ol (env : Env) (i : Nat) (j : Int) (v : PV) (l : List PV) : putS env i (.int j) v (some (.ol l)) = if 0 ≤ j ∧ j < l.length then .nx (env.set i (.ol (l.set j.toNat v))) else .bad := rfl
@[simp] theorem putS_od (env : Env) (i : Nat) (k v : PV) (l : List (PV × PV)) : putS env i k v (some (.od l)) = if keyB 8 k && decide (l.length < lineMax) then .nx (env.set i (.od (dset l k v))) else .bad := rfl
@[simp] theorem in_dct (x : PV) (l : List (PV × PV)) : pvIn x (.dct l) = if keyB 8 x then .ok (dget l x).isSome else .bad := rfl
@[simp] theorem sub_dct (l : List (PV × PV)) (k : PV) : pvSub (.dct l) k = if keyB 8 k then ofO (dget l k) else .bad := rfl
@[simp] theorem keyB_str (n : Nat) (l : List Char) : keyB n (.str l) = true := by cases n <;> rfl
@[simp] theorem keyB_int (n : Nat) (l : Int) : keyB n (.int l) = true := by cases n <;> rfl
@[simp] theorem B_len : pvBi .len = un1 biLen := rfl
@[simp] theorem B_int : pvBi .int = un1 biInt := rfl
@[simp] theorem B_str : pvBi .str = un1 biStr := rfl
@[simp] theorem B_tuple : pvBi .tuple = un1 biTuple := rfl
@[simp] theorem B_list : pvBi .list = un1 biList := rfl
@[simp] theorem B_abs : pvBi .abs = un1 biAbs := rfl
@[simp] theorem B_min2 : pvBi .min2 = un2 biMin2 := rfl
@[simp] theorem B_max2 : pvBi .max2 = un2 biMax2 := rfl
@[simp] theorem B_sum : pvBi .sum = un1 biSum := rfl
@[simp] theorem B_sorted : pvBi .sorted = un1 biSorted := rfl
@[simp] theorem B_min1 : pvBi .min1 = un1 biMin1 := rfl
@[simp] theorem B_max1 : pvBi .max1 = un1 biMax1 := rfl
@[simp] theorem sum_lst (l : List PV) : biSum (.lst l) = (ofO (allInt l)).bind fun l => .ok (.int l.sum) := rfl
@[simp] theorem sum_tup (l : List PV) : biSum (.tup l) = (ofO (allInt l)).bind fun l => .ok (.int l.sum) := rfl
@[simp] theorem B_all : pvBi .all = un1 biAll := rfl
@[simp] theorem B_repr : pvBi .repr = un1 biRepr := rfl
@[simp] theorem B_gcd : pvBi .gcd = un2 biGcd := rfl
@[simp] theorem gcd_int (i j : Int) : biGcd (.int i) (.int j) = .ok (.int (Nat.gcd i.natAbs j.natAbs : Nat)) := rfl
@[simp] theorem B_any : pvBi .any = un1 biAny := rfl
@[simp] theorem len_tup (l : List PV) : biLen (.tup l) = .ok (.int l.length) := rfl
@[simp] theorem len_lst (l : List PV) : biLen (.lst l) = .ok (.int l.length) := rfl
@[simp] theorem len_dct (l : List (PV × PV)) : biLen (.dct l) = if l.length ≤ lineMax then .ok (.int l.length) else .bad := rfl
@[simp] theorem int_int (i : Int) : biInt (.int i) = .ok (.int i) := rfl
@[simp] theorem int_bl (b : Bool) : biInt (.bl b) = .ok (.int (if b then 1 else 0)) := rfl
@[simp] theorem tuple_lst (l : List PV) : biTuple (.lst l) = .ok (.tup l) := rfl
@[simp] theorem tuple_tup (l : List PV) : biTuple (.tup l) = .ok (.tup l) := rfl
@[simp] theorem list_lst (l : List PV) : biList (.lst l) = .ok (.lst l) := rfl
@[simp] theorem list_tup (l : List PV) : biList (.tup l) = .ok (.lst l) := rfl
@[simp] theorem max2_int (i j : Int) : biMax2 (.int i) (.int j) = .ok (.int (if j > i then j else i)) := rfl
@[simp] theorem min2_int (i j : Int) : biMin2 (.int i) (.int j) = .ok (.int (if j < i then j else i)) := rfl
@[simp] theorem add_int (i j : Int) : pvBin .add (.int i) (.int j) = .ok (.int (i + j)) := rfl
@[simp] theorem sub_int (i j : Int) : pvBin .sub (.int i) (.int j) = .ok (.int (i - j)) := rfl
@[simp] theorem mul_int (i j : Int) : pvBin .mul (.int i) (.int j) = if mulOk i j then .ok (.int (i * j)) else .bad := rfl
@[simp] theorem fdiv_int (i j : Int) : pvBin .fdiv (.int i) (.int j) = if 0 < j ∧ j < 1073741824 then .ok (.int (i / j)) else if j ≠ 0 ∧ j.natAbs < 2 ^ 9000 then .ok (.int (i.fdiv j)) else .bad := rfl
@[simp] theorem mod_int (i j : Int) : pvBin .mod (.int i) (.int j) = if 0 < j then .ok (.int (i % j)) else .bad := rfl
@[simp] theorem pow_int (i j : Int) : pvBin .pow (.int i) (.int j) = if 0 ≤ j ∧ j ≤ 1000000 ∧ small64 i then .ok (.int (i ^ j.toNat)) else .bad := rfl
@[simp] theorem add_tup (i j : List PV) : pvBin .add (.tup i) (.tup j) = if (i ++ j).length ≤ lineMax then .ok (.tup (i ++ j)) else .bad := rfl
@[simp] theorem add_lst (i j : List PV) : pvBin .add (.lst i) (.lst j) = if (i ++ j).length ≤ lineMax then .ok (.lst (i ++ j)) else .bad := rfl
@[simp] theorem add_str (i j : List Char) : pvBin .add (.str i) (.str j) = if (i ++ j).length ≤ lineMax then .ok (.str (i ++ j)) else .bad := rfl
@[simp] theorem mul_tup (a : List PV) (b : Int) : pvBin .mul (.tup a) (.int b) = if a ≠ [] ∧ 2 ≤ b ∧ b ≤ 1000 ∧ a.length ≤ 1000 then .ok (.tup (repL a b)) else .bad := rfl
@[simp] theorem mul_str (a : List Char) (b : Int) : pvBin .mul (.str a) (.int b) = if 1 ≤ a.length ∧ a.length ≤ 1000 ∧ 2 ≤ b ∧ b ≤ 1000 then .ok (.str (repL a b)) else .bad := rfl
@[simp] theorem neg_int (i : Int) : pvNeg (.int i) = .ok (.int (-i)) := rfl
@[simp] theorem C_eq (x y : PV) : pvCmp .eq x y = if okEq x y then .ok (.bl (eqP x y)) else .bad := rfl
@[simp] theorem C_ne (x y : PV) : pvCmp .ne x y = if okEq x y then .ok (.bl (!eqP x y)) else .bad := rfl
@[simp] theorem C_lt (a b : Int) : pvCmp .lt (.int a) (.int b) = .ok (.bl (decide (a < b))) := rfl
@[simp] theorem C_le (a b : Int) : pvCmp .le (.int a) (.int b) = .ok (.bl (decide (a ≤ b))) := rfl
@[simp] theorem C_gt (a b : Int) : pvCmp .gt (.int a) (.int b) = .ok (.bl (decide (b < a))) := rfl
@[simp] theorem C_ge (a b : Int) : pvCmp .ge (.int a) (.int b) = .ok (.bl (decide (b ≤ a))) := rfl
@[simp] theorem C_is (x y : PV) : pvCmp .is x y = R.bind (isTF x y) fun b => .ok (.bl b) := rfl
@[simp] theorem C_isn (x y : PV) : pvCmp .isn x y = R.bind (isTF x y) fun b => .ok (.bl (!b)) := rfl
@[simp] theorem C_in (x y : PV) : pvCmp .isin x y = R.bind (pvIn x y) fun b => .ok (.bl b) := rfl
@[simp] theorem C_nin (x y : PV) : pvCmp .nin x y = R.bind (pvIn x y) fun b => .ok (.bl (!b)) := rfl
@[simp] theorem TF_non (p : PV) : isTF p .non = .ok (isNon p) := rfl
@[simp] theorem TF_nb (b : Bool) : isTF .non (.bl b) = .ok false := rfl
@[simp] theorem TF_ib (i : Int) (b : Bool) : isTF (.int i) (.bl b) = .ok false := rfl
@[simp] theorem TF_sb (i : List Char) (b : Bool) : isTF (.str i) (.bl b) = .ok false := rfl
@[simp] theorem TF_tb (i : List PV) (b : Bool) : isTF (.tup i) (.bl b) = .ok false := rfl
@[simp] theorem TF_lb (i : List PV) (b : Bool) : isTF (.lst i) (.bl b) = .ok false := rfl
@[simp] theorem TF_bl (a b : Bool) : isTF (.bl a) (.bl b) = .ok (decide (a = b)) := rfl
@[simp] theorem in_tup (x : PV) (l : List PV) : pvIn x (.tup l) = if okIn x l then .ok (hasP l x) else .bad := rfl
@[simp] theorem in_lst (x : PV) (l : List PV) : pvIn x (.lst l) = if okIn x l then .ok (hasP l x) else .bad := rfl
@[simp] theorem in_str (c : Char) (l : List Char) : pvIn (.str [c]) (.str l) = .ok (decide (c ∈ l)) := rfl
@[simp] theorem eqP_int (a b : Int) : eqP (.int a) (.int b) = decide (a = b) := by simp only [eqP]; rfl
@[simp] theorem eqP_str (a b : List Char) : eqP (.str a) (.str b) = decide (a = b) := by simp only [eqP]; by_cases h : a = b <;> simp [h]
@[simp] theorem eqP_bl (a b : Bool) : eqP (.bl a) (.bl b) = decide (a = b) := by simp only [eqP]; cases a <;> cases b <;> rfl
@[simp] theorem eqP_tup (a b : List PV) : eqP (.tup a) (.tup b) = eqL a b := by simp only [eqP]
@[simp] theorem eqP_lst (a b : List PV) : eqP (.lst a) (.lst b) = eqL a b := by simp only [eqP]
@[simp] theorem eqL_nil : eqL [] [] = true := by simp only [eqL]
@[simp] theorem eqL_cons (a b : PV) (r q : List PV) : eqL (a :: r) (b :: q) = (eqP a b && eqL r q) := by simp only [eqL]
@[simp] theorem eqL_nc (b : PV) (q : List PV) : eqL [] (b :: q) = false := by simp only [eqL]
@[simp] theorem eqL_cn (b : PV) (q : List PV) : eqL (b :: q) [] = false := by simp only [eqL]
@[simp] theorem sub_lst (l : List PV) (i : Int) : pvSub (.lst l) (.int i) = ofO (ixAt l i) := rfl
@[simp] theorem sub_tup (l : List PV) (i : Int) : pvSub (.tup l) (.int i) = ofO (ixAt l i) := rfl
@[simp] theorem sub_str (l : List Char) (i : Int) : pvSub (.str l) (.int i) = if l.length ≤ lineMax then (ofO (ixAt l i)).bind fun c => .ok (.str [c]) else .bad := rfl
@[simp] theorem len_str (l : List Char) : biLen (.str l) = if l.length ≤ lineMax then .ok (.int l.length) else .bad := rfl
@[simp] theorem slc_lst (l : List PV) (a b : Option Int) : pvSlc (.lst l) a b = .ok (.lst (cut l a b)) := rfl
@[simp] theorem slc_tup (l : List PV) (a b : Option Int) : pvSlc (.tup l) a b = .ok (.tup (cut l a b)) := rfl
@[simp] theorem outC_call (b : Bool) (r : PV) : outC b (.ok r) = if b || scal r then .ok r else .bad := rfl
@[simp] theorem rng_1 (j : Int) : pvRng [.int j] = if rngOk j then .ok (range1 0 j) else .bad := rfl
@[simp] theorem rng_2 (i j : Int) : pvRng [.int i, .int j] = if rngOk i && rngOk j then .ok (range1 i j) else .bad := rfl
@[simp] theorem tupOk_def {α : Type} (l : List α) (k : List α → PV) : tupOk l k = if l.length ≤ lineMax then .ok (k l) else .bad := rfl
@[simp] theorem le_line0 : (0 ≤ lineMax) = True := by simp
@[simp] theorem le_line1 : (1 ≤ lineMax) = True := by simp [lineMax]
@[simp] theorem ret_nx (e : Env) : retOf (.nx e) = .ok .non := rfl
@[simp] theorem ret_rt (p : PV) : retOf (.rt p) = .ok p := rfl
@[simp] theorem ret_ex (x : Exn) (e : Env) : retOf (.ex x e) = .ex x := rfl
@[simp] theorem ret_ite {p : Prop} [Decidable p] (a b : F) : retOf (if p then a else b) = if p then retOf a else retOf b := by split <;> rfl
@[simp] theorem wipe_nx (e : Env) : wipeF none (.nx e) = .nx e := rfl
@[simp] theorem wipe_rt (i : Option Nat) (p : PV) : wipeF i (.rt p) = .rt p := by cases i <;> rfl
@[simp] theorem wipe_nxs (i : Nat) (e : Env) : wipeF (some i) (.nx e) = backE .nx i e := rfl
@[simp] theorem wipe_ite {p : Prop} [Decidable p] (i : Option Nat) (a b : F) : wipeF i (if p then a else b) = if p then wipeF i a else wipeF i b := by split <;> rfl
@[simp] theorem ite_and_bl {p : Prop} [Decidable p] (u : Bool) : (if p then R.ok (PV.bl u) else R.ok (PV.bl false)) = R.ok (PV.bl (decide p && u)) := by split <;> simp [*]
@[simp] theorem ite_or_bl {p : Prop} [Decidable p] (u : Bool) : (if p then R.ok (PV.bl true) else R.ok (PV.bl u)) = R.ok (PV.bl (decide p || u)) := by split <;> simp [*]
@[simp] theorem outC_ok (b : Bool) (r : PV) : outC b (.ok r) = if b || scal r then .ok r else .bad := rfl
@[simp] theorem outC_ex (b : Bool) (x : Exn) : outC b (.ex x) = if b || x.fld.all scal then .ex x else .bad := rfl
theorem call_at {P : Prog} {w n f : Nat} {l : List PV} {d : Def} (h : P.defs[f]? = some d) (hl : l.length = d.np) : P.call w (n + 1) f l = retOf (denSs P.anc P.nf w (P.call w n) d.body (env0 l d.ns)) := by
  simp only [Prog.call, h, hl, if_true]
theorem forL_step {body : Env → F} {asn : PV → Env → Option Env} {p : PV} {ps : List PV} {env e1 e2 : Env} (h1 : asn p env = some e1) (h2 : body e1 = .nx e2) : forL body asn (p :: ps) env = forL body asn ps e2 := by
  conv => lhs; unfold forL
  rw [h1]
  simp only [h2]
theorem forL_stop {body : Env → F} {asn : PV → Env → Option Env} {p : PV} {ps : List PV} {env e1 : Env} {r : PV} (h1 : asn p env = some e1) (h2 : body e1 = .rt r) : forL body asn (p :: ps) env = .rt r := by
  conv => lhs; unfold forL
  rw [h1]
  simp only [h2]
/-- a walk to its end -/
theorem forL_inv {body : Env → F} {asn : PV → Env → Option Env} (I : Nat → Env → Prop) : ∀ (l : List PV) (k : Nat) (env : Env), I k env →
    (∀ i p, l[i]? = some p → ∀ e, I (k + i) e → ∃ e1 e2, asn p e = some e1 ∧ body e1 = .nx e2 ∧ I (k + i + 1) e2) → ∃ e, forL body asn l env = .nx e ∧ I (k + l.length) e
  | [], k, env, h, _ => ⟨env, rfl, h⟩
  | p :: r, k, env, h, st => by
    obtain ⟨e1, e2, h1, h2, h3⟩ := st 0 p rfl env h
    obtain ⟨e, h4, h5⟩ := forL_inv I r (k + 1) e2 h3 fun i q hq e he => by
      have := st (i + 1) q (by simpa using hq) e (by rwa [show k + (i + 1) = k + 1 + i from by omega])
      rwa [show k + (i + 1) + 1 = k + 1 + i + 1 from by omega] at this
    refine ⟨e, ?_, by rwa [show k + (p :: r).length = k + 1 + r.length from by simp; omega]⟩
    unfold forL
    rw [h1]
    simp only [h2]
    exact h4
/-- a walk that may end early with r -/
theorem forL_all {body : Env → F} {asn : PV → Env → Option Env} (I : Nat → Env → Prop) (good : Nat → PV → Bool) (res : PV) : ∀ (l : List PV) (k : Nat) (env : Env), I k env →
    (∀ i p, l[i]? = some p → ∀ e, I (k + i) e → (∀ j q, j < i → l[j]? = some q → good (k + j) q = true) → ∃ e1, asn p e = some e1 ∧ if good (k + i) p then ∃ e2, body e1 = .nx e2 ∧ I (k + i + 1) e2 else body e1 = .rt res) →
    (∃ e, forL body asn l env = .nx e ∧ I (k + l.length) e ∧ ∀ i p, l[i]? = some p → good (k + i) p = true) ∨ (forL body asn l env = .rt res ∧ ∃ i p, l[i]? = some p ∧ good (k + i) p = false)
  | [], k, env, h, _ => .inl ⟨env, rfl, h, fun i p e => by simp at e⟩
  | p :: r, k, env, h, st => by
    obtain ⟨e1, h1, h2⟩ := st 0 p rfl env h (fun j q hj => by omega)
    cases hg : good k p with
    | false =>
      rw [show k + 0 = k from rfl, hg, if_neg (by decide)] at h2
      refine .inr ⟨?_, 0, p, rfl, hg⟩
      unfold forL
      rw [h1]
      simp only [h2]
    | true =>
      rw [show k + 0 = k from rfl, hg, if_pos rfl] at h2
      obtain ⟨e2, h2, h3⟩ := h2
      have ih := forL_all I good res r (k + 1) e2 h3 fun i q hq e he hp => by
        have := st (i + 1) q (by simpa using hq) e (by rwa [show k + (i + 1) = k + 1 + i from by omega]) (fun j u hj hu => by
          cases j with
          | zero => simp at hu; subst hu; exact hg
          | succ j =>
            have := hp j u (by omega) (by simpa using hu)
            rwa [show k + (j + 1) = k + 1 + j from by omega])
        rwa [show k + (i + 1) + 1 = k + 1 + i + 1 from by omega, show k + (i + 1) = k + 1 + i from by omega] at this
      have ef : forL body asn (p :: r) env = forL body asn r e2 := by
        conv => lhs; unfold forL
        rw [h1]
        simp only [h2]
      rw [ef]
      rcases ih with ⟨e, h4, h5, h6⟩ | ⟨h4, i, q, h5, h6⟩
      · refine .inl ⟨e, h4, by rwa [show k + (p :: r).length = k + 1 + r.length from by simp; omega], fun i q hq => ?_⟩
        cases i with
        | zero => simp at hq; subst hq; exact hg
        | succ i =>
          have := h6 i q (by simpa using hq)
          rwa [show k + (i + 1) = k + 1 + i from by omega]
      · exact .inr ⟨h4, i + 1, q, by simpa using h5, by rwa [show k + (i + 1) = k + 1 + i from by omega]⟩
end G
namespace G
/-! ### draws that many laws make -/
def dr_b0 : List S := [.app 3 (.bin .mod (.bi .int [(.var 4)]) (.var 2)),
    .set (.one 4) (.bin .fdiv (.var 4) (.var 2))]
def dr_b1 : List S := [.set (.one 7) (.bin .mod (.bi .int [(.bin .add (.bin .add (.bin .mul (.var 7) (.var 7)) (.bin .mul (.bin .add (.var 6) (.con (.int 7))) (.bin .add (.var 5) (.con (.int 11))))) (.con (.int 40503)))]) (.con (.int 2147483647))),
    .ite (.cmp .gt (.var 5) (.con (.int 1))) [.app 3 (.bin .mod (.bi .int [(.bin .fdiv (.var 7) (.con (.int 7)))]) (.var 2))] []]
def dr_B : List S := [.own 3 (.lst []),
    .ite (.cmp .ge (.var 0) (.bin .pow (.con (.int 10)) (.con (.int 18)))) [.set (.one 4) (.bin .mod (.bi .int [(.var 0)]) (.bin .mul (.bin .pow (.con (.int 10)) (.con (.int 60))) (.bin .pow (.con (.int 10)) (.con (.int 60))))),
    .loop (.one 5) (.rng [(.var 1)]) dr_b0,
    .ret (.var 3)] [],
    .set (.one 6) (.bin .mod (.bi .int [(.var 0)]) (.con (.int 1000003))),
    .set (.one 7) (.bin .add (.var 6) (.con (.int 1))),
    .loop (.one 5) (.rng [(.bin .add (.var 1) (.con (.int 2)))]) dr_b1,
    .frz 3,
    .ret (.var 3)]
def il (l : List Int) : List PV := l.map .int
@[simp] theorem il_len (l : List Int) : (il l).length = l.length := by simp [il]
@[simp] theorem il_app (l r : List Int) : il (l ++ r) = il l ++ il r := by simp [il]
@[simp] theorem il_one (i : Int) : il [i] = [.int i] := rfl
@[simp] theorem il_nil : il [] = [] := rfl
@[simp] theorem il_get (l : List Int) (i : Nat) : (il l)[i]? = l[i]?.map .int := by simp [il]
@[simp] theorem range1_len (lo hi : Int) : (range1 lo hi).length = (hi - lo).toNat := by simp [range1]
theorem range1_get {lo hi : Int} {i : Nat} {p : PV} (h : (range1 lo hi)[i]? = some p) : p = .int (lo + i) ∧ lo + i < hi := by
  unfold range1 at h
  rw [List.getElem?_map, Option.map_eq_some_iff] at h
  obtain ⟨k, h1, rfl⟩ := h
  obtain ⟨h2, h3⟩ := List.getElem?_eq_some_iff.mp h1
  rw [List.getElem_range] at h3
  subst h3
  rw [List.length_range] at h2
  exact ⟨rfl, by omega⟩
def inR (lim : Int) (l : List Int) : Prop := ∀ d ∈ l, 0 ≤ d ∧ d < lim
theorem inR_app {lim d : Int} {l : List Int} (h : inR lim l) (h0 : 0 ≤ d) (h1 : d < lim) : inR lim (l ++ [d]) := fun x hx => by
  rcases List.mem_append.mp hx with hx | hx
  · exact h x hx
  · rw [List.mem_singleton] at hx; subst hx; exact ⟨h0, h1⟩
theorem small_ok {a : Int} (h0 : 0 ≤ a) (h1 : a < 10000000000) : small64 a = true := by
  simp only [small64, Bool.and_eq_true, decide_eq_true_eq]
  omega
theorem draws_b0 {anc : List (List Nat)} {nf : List Nat} {w : Nat} {c : Orc} (cell : Int) (count : Nat) (lim : Int) (hl : 0 < lim ∧ lim < 1073741824) (hc : count ≤ 100000) (k : Nat) (p : PV) (hk : k < count) (e : Env) (ds : List Int) (rest : Int) (s5 s6 s7 : Slot)
    (he : e = [.sh (.int cell), .sh (.int count), .sh (.int lim), .ol (il ds), .sh (.int rest), s5, s6, s7]) (hlen : ds.length = k) (hr : inR lim ds) :
    ∃ e1 e2, asg (.one 5) p e = some e1 ∧ denSs anc nf w c dr_b0 e1 = .nx e2 ∧ ∃ ds' rest' s5', e2 = [.sh (.int cell), .sh (.int count), .sh (.int lim), .ol (il ds'), .sh (.int rest'), s5', s6, s7] ∧ ds'.length = k + 1 ∧ inR lim ds' := by
  subst he
  have hlt : ds.length < lineMax := by unfold lineMax; omega
  refine ⟨_, _, rfl, by simp [dr_b0, pvBin, biInt, hl, hlt]; rfl, ds ++ [rest % lim], rest / lim, .sh p, by simp, by simp [hlen], inR_app hr (Int.emod_nonneg _ (by omega)) (Int.emod_lt_of_pos _ hl.1)⟩
theorem draws_b1 {anc : List (List Nat)} {nf : List Nat} {w : Nat} {c : Orc} (cell : Int) (count : Nat) (lim : Int) (hl : 0 < lim ∧ lim < 1073741824) (hc : count ≤ 100000) (k : Nat) (hk : k < count + 2) (e : Env) (ds : List Int) (seed state : Int) (s4 s5 : Slot)
    (he : e = [.sh (.int cell), .sh (.int count), .sh (.int lim), .ol (il ds), s4, s5, .sh (.int seed), .sh (.int state)]) (hlen : ds.length = k - 2) (hr : inR lim ds) (hs : 0 ≤ seed ∧ seed < 1000003) (ht : 0 ≤ state ∧ state < 2147483647) :
    ∃ e1 e2, asg (.one 5) (.int (k : Int)) e = some e1 ∧ denSs anc nf w c dr_b1 e1 = .nx e2 ∧ ∃ ds' state' s5', e2 = [.sh (.int cell), .sh (.int count), .sh (.int lim), .ol (il ds'), s4, s5', .sh (.int seed), .sh (.int state')] ∧ ds'.length = k + 1 - 2 ∧ inR lim ds' ∧ 0 ≤ state' ∧ state' < 2147483647 := by
  subst he
  have hlt : ds.length < lineMax := by unfold lineMax; omega
  have m1 : mulOk state state = true := by simp [mulOk, small_ok ht.1 (by omega)]
  have m2 : mulOk (seed + 7) ((k : Int) + 11) = true := by simp [mulOk, small_ok (a := seed + 7) (by omega) (by omega)]
  have r1 := Int.emod_nonneg (state * state + (seed + 7) * ((k : Int) + 11) + 40503) (b := 2147483647) (by decide)
  have r2 := Int.emod_lt_of_pos (state * state + (seed + 7) * ((k : Int) + 11) + 40503) (b := 2147483647) (by decide)
  by_cases h1 : (1 : Int) < k
  · refine ⟨_, _, rfl, by simp [dr_b1, pvBin, biInt, pvCmp, hl, hlt, m1, m2, h1]; rfl, ds ++ [((state * state + (seed + 7) * ((k : Int) + 11) + 40503) % 2147483647) / 7 % lim], _, .sh (.int k), by simp, by simp [hlen]; omega, inR_app hr (Int.emod_nonneg _ (by omega)) (Int.emod_lt_of_pos _ hl.1), r1, r2⟩
  · refine ⟨_, _, rfl, by simp [dr_b1, pvBin, biInt, pvCmp, hl, hlt, m1, m2, h1]; rfl, ds, _, .sh (.int k), by simp, by omega, hr, r1, r2⟩
theorem draws_ok {P : Prog} {w n f : Nat} {x : String} (hd : P.defs[f]? = some ⟨x, 3, 8, dr_B⟩) (cell : Int) (count : Nat) (lim : Int) (hl : 0 < lim ∧ lim < 1073741824) (hc : count ≤ 100000) :
    ∃ ds : List Int, P.call w (n + 1) f [.int cell, .int count, .int lim] = .ok (.lst (il ds)) ∧ ds.length = count ∧ inR lim ds := by
  rw [call_at hd rfl]
  have p18 : (10 : Int) ^ 18 = 1000000000000000000 := by decide
  have p60 : mulOk ((10 : Int) ^ 60) (10 ^ 60) = true := by decide +kernel
  have s10 : small64 10 = true := by decide
  have g60 : (0 : Int) < 10 ^ 60 * 10 ^ 60 := by decide +kernel
  have rng : ∀ k : Nat, k ≤ 100002 → rngOk (k : Int) = true := fun k hk => by simp [rngOk]; omega
  by_cases hb : (10 : Int) ^ 18 ≤ cell
  · have L := forL_inv (body := denSs P.anc P.nf w (P.call w n) dr_b0) (asn := asg (.one 5)) (fun k e => ∃ ds rest s5, e = [.sh (.int cell), .sh (.int count), .sh (.int lim), .ol (il ds), .sh (.int rest), s5, .un, .un] ∧ ds.length = k ∧ inR lim ds) (range1 0 count) 0
      [.sh (.int cell), .sh (.int count), .sh (.int lim), .ol [], .sh (.int (cell % (10 ^ 60 * 10 ^ 60))), .un, .un, .un] ⟨[], _, _, rfl, rfl, fun d hd => by cases hd⟩ (fun i p hp e he => by
        obtain ⟨ds, rest, s5, h1, h2, h3⟩ := he
        obtain ⟨hp1, hp2⟩ := range1_get hp
        obtain ⟨e1, e2, a1, a2, ds', rest', s5', a3, a4, a5⟩ := draws_b0 (anc := P.anc) (nf := P.nf) (w := w) (c := P.call w n) cell count lim hl hc (0 + i) p (by omega) e ds rest s5 .un .un h1 h2 h3
        exact ⟨e1, e2, a1, a2, ds', rest', s5', a3, a4, a5⟩)
    obtain ⟨e, l1, ds, rest, s5, rfl, l3, l4⟩ := L
    refine ⟨ds, ?_, by simpa using l3, l4⟩
    simp -implicitDefEqProofs [-Int.reducePow, dr_B, tupOk, pvBin, pvCmp, biInt, s10, p60, g60, pvRng, rng count (by omega), hb, l1]
  · have L := forL_inv (body := denSs P.anc P.nf w (P.call w n) dr_b1) (asn := asg (.one 5)) (fun k e => ∃ ds state s5, e = [.sh (.int cell), .sh (.int count), .sh (.int lim), .ol (il ds), .un, s5, .sh (.int (cell % 1000003)), .sh (.int state)] ∧ ds.length = k - 2 ∧ inR lim ds ∧ 0 ≤ state ∧ state < 2147483647) (range1 0 (count + 2)) 0
      [.sh (.int cell), .sh (.int count), .sh (.int lim), .ol [], .un, .un, .sh (.int (cell % 1000003)), .sh (.int (cell % 1000003 + 1))] ⟨[], _, _, rfl, rfl, (fun d hd => by cases hd), by have := Int.emod_nonneg cell (b := 1000003) (by decide); omega, by have := Int.emod_lt_of_pos cell (b := 1000003) (by decide); omega⟩ (fun i p hp e he => by
        obtain ⟨ds, state, s5, h1, h2, h3, h4, h5⟩ := he
        obtain ⟨hp1, hp2⟩ := range1_get hp
        rw [Int.zero_add] at hp1
        subst hp1
        obtain ⟨e1, e2, a1, a2, ds', state', s5', a3, a4, a5, a6, a7⟩ := draws_b1 (anc := P.anc) (nf := P.nf) (w := w) (c := P.call w n) cell count lim hl hc i (by omega) e ds _ state .un s5 h1 (by simpa using h2) h3 ⟨Int.emod_nonneg cell (b := 1000003) (by decide), Int.emod_lt_of_pos cell (b := 1000003) (by decide)⟩ ⟨h4, h5⟩
        exact ⟨e1, e2, a1, a2, ds', state', s5', a3, by simpa using a4, a5, a6, a7⟩)
    obtain ⟨e, l1, ds, state, s5, rfl, l3, l4, _⟩ := L
    have rr := rng (count + 2) (by omega)
    simp only [Int.natCast_add, Int.cast_ofNat_Int] at rr
    have ln : ds.length = count := by
      rw [l3, range1_len]
      omega
    refine ⟨ds, ?_, ln, l4⟩
    simp -implicitDefEqProofs [-Int.reducePow, dr_B, tupOk, pvBin, pvCmp, biInt, s10, p60, g60, pvRng, hb, l1, rr]
end G
namespace G
/-! ### plain facts -/
theorem lcL_map {asn : PV → Env → Option Env} {tst : Env → R Bool} {elt : Env → R PV} {env : Env} {g : PV → PV} : ∀ {l : List PV}, (∀ p ∈ l, ∃ e1, asn p env = some e1 ∧ tst e1 = .ok true ∧ elt e1 = .ok (g p)) → lcL asn tst elt env l = .ok (l.map g)
  | [], _ => rfl
  | p :: r, h => by
    obtain ⟨e1, h1, h2, h3⟩ := h p List.mem_cons_self
    have ih := lcL_map (l := r) fun q hq => h q (List.mem_cons_of_mem _ hq)
    unfold lcL
    rw [h1]
    simp only [h2, h3, noEx]
    show R.bind (lcL asn tst elt env r) _ = _
    rw [ih]
    rfl
theorem lcL_fn {α : Type} {asn : PV → Env → Option Env} {tst : Env → R Bool} {elt : Env → R PV} {env : Env} {f g : α → PV} : ∀ {l : List α}, (∀ x ∈ l, ∃ e1, asn (f x) env = some e1 ∧ tst e1 = .ok true ∧ elt e1 = .ok (g x)) → lcL asn tst elt env (l.map f) = .ok (l.map g)
  | [], _ => rfl
  | p :: r, h => by
    obtain ⟨e1, h1, h2, h3⟩ := h p List.mem_cons_self
    have ih := lcL_fn (l := r) fun q hq => h q (List.mem_cons_of_mem _ hq)
    rw [List.map_cons]
    unfold lcL
    rw [h1]
    simp only [h2, h3, noEx]
    show R.bind (lcL asn tst elt env (r.map f)) _ = _
    rw [ih]
    rfl
theorem flatL_map {α : Type} {n : Nat} {f : α → PV} : ∀ {l : List α}, (∀ x ∈ l, flat n (f x) = true) → flatL n (l.map f) = true
  | [], _ => by simp only [List.map_nil, flatL]
  | a :: r, h => by
    simp only [List.map_cons, flatL, h a List.mem_cons_self, flatL_map (l := r) fun x hx => h x (List.mem_cons_of_mem _ hx), Bool.and_self]
theorem flatL_all {n : Nat} : ∀ {l : List PV}, (∀ x ∈ l, flat n x = true) → flatL n l = true
  | [], _ => by simp only [flatL]
  | a :: r, h => by
    simp only [flatL, h a List.mem_cons_self, flatL_all (l := r) fun x hx => h x (List.mem_cons_of_mem _ hx), Bool.and_self]
mutual
theorem nod_of_flat : ∀ (n : Nat) (p : PV), flat n p = true → nod p = true
  | _, .non, _ => by simp only [nod]
  | _, .bl b, _ => by simp only [nod]
  | _, .int b, _ => by simp only [nod]
  | _, .str b, _ => by simp only [nod]
  | n, .dct d, h => by cases n <;> simp [flat] at h
  | 0, .tup l, h => by simp [flat] at h
  | 0, .lst l, h => by simp [flat] at h
  | n + 1, .tup l, h => by simp only [flat] at h; simp only [nod]; exact nodL_of_flat n l h
  | n + 1, .lst l, h => by simp only [flat] at h; simp only [nod]; exact nodL_of_flat n l h
theorem nodL_of_flat : ∀ (n : Nat) (l : List PV), flatL n l = true → nodL l = true
  | _, [], _ => by simp only [nodL]
  | n, a :: r, h => by
    simp only [flatL, Bool.and_eq_true] at h
    simp only [nodL, nod_of_flat n a h.1, nodL_of_flat n r h.2, Bool.and_self]
end
@[simp] theorem okEq_of {x y : PV} (h1 : flat 60 x = true) (h2 : flat 60 y = true) : okEq x y = true := by
  simp [okEq, h1, nod_of_flat _ _ h2]
@[simp] theorem okIn_of {x : PV} {l : List PV} (h1 : flat 60 x = true) (h2 : flatL 60 l = true) : okIn x l = true := by
  simp [okIn, h1, nodL_of_flat _ _ h2]
@[simp] theorem flat_non (n : Nat) : flat n .non = true := by cases n <;> simp only [flat]
@[simp] theorem flat_bl (n : Nat) (b : Bool) : flat n (.bl b) = true := by cases n <;> simp only [flat]
@[simp] theorem flat_int (n : Nat) (b : Int) : flat n (.int b) = true := by cases n <;> simp only [flat]
@[simp] theorem flat_str (n : Nat) (b : List Char) : flat n (.str b) = true := by cases n <;> simp only [flat]
@[simp] theorem flat_tup (n : Nat) (l : List PV) : flat (n + 1) (.tup l) = flatL n l := by simp only [flat]
@[simp] theorem flat_lst (n : Nat) (l : List PV) : flat (n + 1) (.lst l) = flatL n l := by simp only [flat]
@[simp] theorem flatL_nil (n : Nat) : flatL n [] = true := by simp only [flatL]
@[simp] theorem flatL_cons (n : Nat) (a : PV) (r : List PV) : flatL n (a :: r) = (flat n a && flatL n r) := by simp only [flatL]
@[simp] theorem okEq_int (a : Int) (x : PV) (h : nod x = true) : okEq x (.int a) = true := by simp [okEq, nod, flat, h]
@[simp] theorem flatL_il (n : Nat) (l : List Int) : flatL n (il l) = true := flatL_map fun x _ => by simp
@[simp] theorem allInt_map (l : List Int) : allInt (l.map .int) = some l := by
  induction l with
  | nil => rfl
  | cons a r ih => simp [allInt, ih]
@[simp] theorem allInt_il (l : List Int) : allInt (il l) = some l := allInt_map l
theorem hasP_il (l : List Int) (a : Int) : hasP (il l) (.int a) = decide (a ∈ l) := by
  unfold hasP il
  rw [List.any_map]
  induction l with
  | nil => rfl
  | cons b r ih =>
    simp only [List.any_cons, Function.comp_def, eqP_int] at ih ⊢
    rw [ih]
    simp [eq_comm]
theorem cut_from {α : Type} (l : List α) (a : Nat) : cut l (some (a : Int)) none = l.drop a := by
  have hc : cl l.length 0 (some (a : Int)) = min a l.length := by
    show (if (a : Int) < 0 then ((a : Int) + l.length).toNat else min (a : Int).toNat l.length) = _
    rw [if_neg (by omega), Int.toNat_natCast]
  unfold cut
  rw [hc]
  show List.take (l.length - min a l.length) _ = _
  by_cases h : a ≤ l.length
  · rw [Nat.min_eq_left h, ← List.length_drop, List.take_length]
  · rw [Nat.min_eq_right (by omega), List.drop_eq_nil_of_le (Nat.le_refl _), List.drop_eq_nil_of_le (by omega)]
    simp
theorem cut_last {α : Type} (l : List α) : cut l none (some (-1)) = l.take (l.length - 1) := by
  have hc : cl l.length l.length (some (-1 : Int)) = l.length - 1 := by
    show (if (-1 : Int) < 0 then ((-1 : Int) + l.length).toNat else min (-1 : Int).toNat l.length) = _
    rw [if_pos (by decide)]
    omega
  unfold cut
  rw [hc]
  show List.take (l.length - 1 - 0) (List.drop 0 l) = _
  simp
theorem ixAt_nat {α : Type} (l : List α) (i : Nat) : ixAt l (i : Int) = l[i]? := by simp [ixAt]
theorem ixAt_pos {α : Type} (l : List α) {i : Int} (h : 0 ≤ i) : ixAt l i = l[i.toNat]? := by simp [ixAt, h]
theorem ixAt_last {α : Type} (l : List α) (x : α) : ixAt (l ++ [x]) (-1) = some x := by
  unfold ixAt
  rw [if_neg (by decide), if_pos (by simp; omega)]
  have : (-1 + ((l ++ [x]).length : Int)).toNat = l.length := by simp; omega
  rw [this]
  simp
theorem eqL_nil_r (l : List PV) : eqL l [] = decide (l = []) := by cases l <;> simp
theorem ofO_some {α : Type} (a : α) : ofO (some a) = .ok a := rfl
end G
namespace G
/-! ### checks that many laws use -/
@[simp] theorem le_line2 : (2 ≤ lineMax) = True := by simp [lineMax]
@[simp] theorem le_line3 : (3 ≤ lineMax) = True := by simp [lineMax]
@[simp] theorem le_line4 : (4 ≤ lineMax) = True := by simp [lineMax]
@[simp] theorem le_line5 : (5 ≤ lineMax) = True := by simp [lineMax]
@[simp] theorem le_line6 : (6 ≤ lineMax) = True := by simp [lineMax]
@[simp] theorem le_line7 : (7 ≤ lineMax) = True := by simp [lineMax]
@[simp] theorem le_line8 : (8 ≤ lineMax) = True := by simp [lineMax]
@[simp] theorem le_line9 : (9 ≤ lineMax) = True := by simp [lineMax]
@[simp] theorem le_line10 : (10 ≤ lineMax) = True := by simp [lineMax]
@[simp] theorem le_line11 : (11 ≤ lineMax) = True := by simp [lineMax]
@[simp] theorem le_line12 : (12 ≤ lineMax) = True := by simp [lineMax]
@[simp] theorem le_line13 : (13 ≤ lineMax) = True := by simp [lineMax]
@[simp] theorem le_line14 : (14 ≤ lineMax) = True := by simp [lineMax]
@[simp] theorem le_line15 : (15 ≤ lineMax) = True := by simp [lineMax]
@[simp] theorem le_line16 : (16 ≤ lineMax) = True := by simp [lineMax]
@[simp] theorem le_line17 : (17 ≤ lineMax) = True := by simp [lineMax]
@[simp] theorem le_line18 : (18 ≤ lineMax) = True := by simp [lineMax]
@[simp] theorem le_line19 : (19 ≤ lineMax) = True := by simp [lineMax]
@[simp] theorem le_line20 : (20 ≤ lineMax) = True := by simp [lineMax]
@[simp] theorem le_line21 : (21 ≤ lineMax) = True := by simp [lineMax]
@[simp] theorem le_line22 : (22 ≤ lineMax) = True := by simp [lineMax]
@[simp] theorem le_line23 : (23 ≤ lineMax) = True := by simp [lineMax]
@[simp] theorem le_line24 : (24 ≤ lineMax) = True := by simp [lineMax]
@[simp] theorem le_line25 : (25 ≤ lineMax) = True := by simp [lineMax]
@[simp] theorem le_line26 : (26 ≤ lineMax) = True := by simp [lineMax]
@[simp] theorem le_line27 : (27 ≤ lineMax) = True := by simp [lineMax]
@[simp] theorem le_line28 : (28 ≤ lineMax) = True := by simp [lineMax]
@[simp] theorem le_line29 : (29 ≤ lineMax) = True := by simp [lineMax]
@[simp] theorem le_line30 : (30 ≤ lineMax) = True := by simp [lineMax]
@[simp] theorem le_line60 : (60 ≤ lineMax) = True := by simp [lineMax]
@[simp] theorem le_line100 : (100 ≤ lineMax) = True := by simp [lineMax]
@[simp] theorem le_line120 : (120 ≤ lineMax) = True := by simp [lineMax]
@[simp] theorem le_line121 : (121 ≤ lineMax) = True := by simp [lineMax]
theorem small_abs {a : Int} (h0 : -10000000000 < a) (h1 : a < 10000000000) : small64 a = true := by
  simp only [small64, Bool.and_eq_true, decide_eq_true_eq]
  omega
def lastS : List PV → Slot → Slot
  | [], s => s
  | p :: r, _ => lastS r (.sh p)
/-- a walk that only looks, and may end early with res -/
theorem forL_test {body : Env → F} {asn : PV → Env → Option Env} {mk : Slot → Env} {good : PV → Bool} {res : PV} : ∀ {l : List PV}, (∀ p ∈ l, ∀ s, asn p (mk s) = some (mk (.sh p)) ∧ body (mk (.sh p)) = if good p then .nx (mk (.sh p)) else .rt res) →
    ∀ s, forL body asn l (mk s) = if l.all good then .nx (mk (lastS l s)) else .rt res
  | [], _, s => rfl
  | p :: r, h, s => by
    obtain ⟨h1, h2⟩ := h p List.mem_cons_self s
    unfold forL
    rw [h1]
    simp only [h2]
    cases hg : good p with
    | true =>
      rw [if_pos rfl]
      simp only []
      rw [forL_test (l := r) (fun q hq => h q (List.mem_cons_of_mem _ hq))]
      simp only [List.all_cons, hg, Bool.true_and, lastS]
    | false => simp [List.all_cons, hg]
theorem forL_testS {σ : Type} {body : Env → F} {asn : PV → Env → Option Env} {mk : σ → Env} {good : PV → Bool} {res : PV} : ∀ {l : List PV}, (∀ p ∈ l, ∀ s, ∃ e1 s', asn p (mk s) = some e1 ∧ body e1 = if good p then .nx (mk s') else .rt res) →
    ∀ s, ∃ s', forL body asn l (mk s) = if l.all good then .nx (mk s') else .rt res
  | [], _, s => ⟨s, rfl⟩
  | p :: r, h, s => by
    obtain ⟨e1, s1, h1, h2⟩ := h p List.mem_cons_self s
    cases hg : good p with
    | true =>
      rw [hg, if_pos rfl] at h2
      obtain ⟨s', h3⟩ := forL_testS (mk := mk) (l := r) (fun q hq => h q (List.mem_cons_of_mem _ hq)) s1
      exact ⟨s', by rw [forL_step h1 h2, h3]; simp only [List.all_cons, hg, Bool.true_and]⟩
    | false =>
      rw [hg] at h2
      exact ⟨s, by rw [forL_stop h1 (by simpa using h2)]; simp [List.all_cons, hg]⟩
/-- a walk that adds one value a turn -/
theorem forL_app {α σ : Type} {body : Env → F} {asn : PV → Env → Option Env} {f g : α → PV} {mk : List PV → σ → Env} (N : Nat) : ∀ {l : List α} {acc : List PV}, acc.length + l.length ≤ N →
    (∀ x ∈ l, ∀ acc s, acc.length < N → ∃ e1 s', asn (f x) (mk acc s) = some e1 ∧ body e1 = .nx (mk (acc ++ [g x]) s')) → ∀ s, ∃ s', forL body asn (l.map f) (mk acc s) = .nx (mk (acc ++ l.map g) s')
  | [], acc, _, _, s => ⟨s, by simp [forL]⟩
  | x :: r, acc, hN, h, s => by
    simp only [List.length_cons] at hN
    obtain ⟨e1, s', h1, h2⟩ := h x List.mem_cons_self acc s (by omega)
    rw [List.map_cons, forL_step h1 h2]
    obtain ⟨s2, h3⟩ := forL_app (mk := mk) (g := g) N (l := r) (acc := acc ++ [g x]) (by simp; omega) (fun y hy => h y (List.mem_cons_of_mem _ hy)) s'
    refine ⟨s2, ?_⟩
    rw [h3]
    simp
theorem range1_nat (n : Nat) : range1 0 (n : Int) = (List.range n).map fun k : Nat => .int (k : Int) := by
  unfold range1
  simp
@[simp] theorem eqP_non : eqP .non .non = true := by simp only [eqP]
mutual
theorem eqP_refl : ∀ p : PV, nod p = true → eqP p p = true
  | .non, _ => by simp only [eqP]
  | .bl b, _ => by simp
  | .int b, _ => by simp
  | .str b, _ => by simp
  | .tup l, h => by simp only [nod] at h; simp only [eqP]; exact eqL_refl l h
  | .lst l, h => by simp only [nod] at h; simp only [eqP]; exact eqL_refl l h
  | .dct l, h => by simp [nod] at h
theorem eqL_refl : ∀ l : List PV, nodL l = true → eqL l l = true
  | [], _ => by simp only [eqL]
  | a :: r, h => by
    simp only [nodL, Bool.and_eq_true] at h
    simp only [eqL, eqP_refl a h.1, eqL_refl r h.2, Bool.and_self]
end
theorem lcL_flt {α : Type} {asn : PV → Env → Option Env} {tst : Env → R Bool} {elt : Env → R PV} {env : Env} {f g : α → PV} {good : α → Bool} : ∀ {l : List α}, (∀ x ∈ l, ∃ e1, asn (f x) env = some e1 ∧ tst e1 = .ok (good x) ∧ (good x = true → elt e1 = .ok (g x))) → lcL asn tst elt env (l.map f) = .ok ((l.filter good).map g)
  | [], _ => rfl
  | p :: r, h => by
    obtain ⟨e1, h1, h2, h3⟩ := h p List.mem_cons_self
    have ih := lcL_flt (l := r) fun q hq => h q (List.mem_cons_of_mem _ hq)
    rw [List.map_cons]
    unfold lcL
    rw [h1]
    cases hg : good p with
    | true =>
      simp only [h2, hg, h3 hg, noEx]
      show R.bind (lcL asn tst elt env (r.map f)) _ = _
      rw [ih, List.filter_cons_of_pos hg]
      rfl
    | false =>
      simp only [h2, hg, noEx]
      show lcL asn tst elt env (r.map f) = _
      rw [ih, List.filter_cons_of_neg (by simp [hg])]
theorem allBl_map : ∀ l : List Bool, allBl (l.map .bl) = some l
  | [] => rfl
  | a :: r => by simp [allBl, allBl_map r]
theorem any_bls (l : List Bool) : biAny (.lst (l.map .bl)) = .ok (.bl (l.any id)) := by
  show (ofO (allBl (l.map .bl))).bind _ = _
  rw [allBl_map]
  rfl
theorem all_bls (l : List Bool) : biAll (.lst (l.map .bl)) = .ok (.bl (l.all id)) := by
  show (ofO (allBl (l.map .bl))).bind _ = _
  rw [allBl_map]
  rfl
def lets : List Char := ['a', 'b', 'c', 'd', 'e', 'f', 'g', 'h', 'i', 'j', 'k', 'l', 'm', 'n', 'o', 'p', 'q', 'r', 's', 't', 'u', 'v', 'w', 'x', 'y', 'z']
def digs : List Char := ['0', '1', '2', '3', '4', '5', '6', '7', '8', '9']
def ck_int : List S := [.ret (.and (.isi (.var 0) 0) (.not (.isi (.var 0) 1)))]
def ck_within (i : Nat) : List S := [.ret (.and (.call i [(.var 0)]) (.chn .le .le (.var 1) (.var 0) (.var 2)))]
def ck_tuple : List S := [.ret (.and (.isi (.var 0) 3) (.cmp .eq (.bi .len [(.var 0)]) (.var 1)))]
def ck_word0 : List S := [.ite (.and (.cmp .nin (.var 1) (.con (.str lets))) (.cmp .nin (.var 1) (.con (.str digs)))) [.ret (.con (.bl false))] []]
def ck_word : List S := [.ite (.or (.not (.isi (.var 0) 2)) (.not (.chn .le .le (.con (.int 1)) (.bi .len [(.var 0)]) (.con (.int 12))))) [.ret (.con (.bl false))] [],
    .ite (.cmp .nin (.sub (.var 0) (.con (.int 0))) (.con (.str lets))) [.ret (.con (.bl false))] [],
    .loop (.one 1) (.seq (.var 0)) ck_word0,
    .ret (.con (.bl true))]
def ck_dist0 : List S := [.ite (.cmp .isin (.var 2) (.var 1)) [.ret (.con (.bl false))] [],
    .put 1 (.var 2) (.con (.bl true))]
def ck_dist : List S := [.own 1 (.dct [] []),
    .loop (.one 2) (.seq (.var 0)) ck_dist0,
    .ret (.con (.bl true))]
def ck_words0 (i : Nat) : List S := [.ite (.not (.call i [(.var 3)])) [.ret (.con (.bl false))] []]
def ck_words (i j : Nat) : List S := [.ite (.or (.not (.isi (.var 0) 3)) (.not (.chn .le .le (.var 1) (.bi .len [(.var 0)]) (.var 2)))) [.ret (.con (.bl false))] [],
    .loop (.one 3) (.seq (.var 0)) (ck_words0 i),
    .ret (.call j [(.var 0)])]
section
variable {P : Prog} {w n : Nat}
def intB : PV → Bool
  | .int _ => true
  | _ => false
def withinB (v : PV) (lo hi : Int) : Bool := match v with
  | .int i => decide (lo ≤ i) && decide (i ≤ hi)
  | _ => false
@[simp] theorem withinB_int (i lo hi : Int) : withinB (.int i) lo hi = (decide (lo ≤ i) && decide (i ≤ hi)) := rfl
def tupB (v : PV) (k : Int) : Bool := match v with
  | .tup l => decide ((l.length : Int) = k)
  | _ => false
@[simp] theorem tupB_tup (l : List PV) (k : Int) : tupB (.tup l) k = decide ((l.length : Int) = k) := rfl
def alB (c : Char) : Bool := decide (c ∈ lets) || decide (c ∈ digs)
def wordL (s : List Char) : Bool := decide (1 ≤ s.length) && decide (s.length ≤ 12) && decide (s.headD ' ' ∈ lets) && s.all alB
def wordB : PV → Bool
  | .str s => wordL s
  | _ => false
@[simp] theorem wordB_str (s : List Char) : wordB (.str s) = wordL s := rfl
/-- no text of more than the line -/
def shortS : PV → Bool
  | .str s => decide (s.length ≤ lineMax)
  | _ => true
theorem ck_int_ok {f : Nat} {x : String} (h : P.defs[f]? = some ⟨x, 1, 1, ck_int⟩) (v : PV) : P.call w (n + 1) f [v] = .ok (.bl (intB v)) := by
  rw [call_at h rfl]
  cases v <;> simp [ck_int, tyTest, intB]
theorem ck_within_ok {f i : Nat} {x y : String} (h : P.defs[f]? = some ⟨x, 3, 3, ck_within i⟩) (hq : P.defs[i]? = some ⟨y, 1, 1, ck_int⟩) (v : PV) (lo hi : Int) : P.call w (n + 2) f [v, .int lo, .int hi] = .ok (.bl (withinB v lo hi)) := by
  rw [call_at h rfl]
  simp [ck_within, ck_int_ok (w := w) (n := n) hq]
  cases v <;> simp [intB, withinB, pvCmp]
theorem ck_tuple_ok {f : Nat} {x : String} (h : P.defs[f]? = some ⟨x, 2, 2, ck_tuple⟩) (v : PV) (k : Int) : P.call w (n + 1) f [v, .int k] = .ok (.bl (tupB v k)) := by
  rw [call_at h rfl]
  cases v <;> simp [ck_tuple, tyTest, tupB, okEq, flat, nod]
theorem ck_word_ok {f : Nat} {x : String} (h : P.defs[f]? = some ⟨x, 1, 2, ck_word⟩) (v : PV) (hs : shortS v = true) : P.call w (n + 1) f [v] = .ok (.bl (wordB v)) := by
  rw [call_at h rfl]
  cases v <;> try (simp [ck_word, tyTest, wordB]; done)
  rename_i s
  have hs' : s.length ≤ lineMax := by simpa [shortS] using hs
  have hlen : biLen (.str s) = .ok (.int s.length) := by simp [biLen, hs']
  by_cases h1 : 1 ≤ s.length ∧ s.length ≤ 12
  · have h1a : (1 : Int) ≤ s.length := by omega
    have h1b : (s.length : Int) ≤ 12 := by omega
    obtain ⟨c, hix, hc⟩ : ∃ c, ixAt s 0 = some c ∧ s.head?.getD ' ' = c := by
      cases s with
      | nil => simp at h1
      | cons c r => exact ⟨c, rfl, rfl⟩
    have hsub : pvSub (.str s) (.int 0) = .ok (.str [c]) := by
      rw [sub_str, if_pos hs', hix]
      rfl
    have W := forL_test (body := denSs P.anc P.nf w (P.call w n) ck_word0) (asn := asg (.one 1)) (mk := fun t => [.sh (.str s), t]) (good := fun p => match p with | .str [d] => alB d | _ => false) (res := .bl false) (l := s.map fun c => .str [c]) (fun p hp t => by
      obtain ⟨d, hd, rfl⟩ := List.mem_map.mp hp
      refine ⟨by simp, ?_⟩
      by_cases e1 : d ∈ lets <;> by_cases e2 : d ∈ digs <;> simp [ck_word0, alB, e1, e2]) .un
    have hall : ((s.map fun c => PV.str [c]).all fun p => match p with | .str [d] => alB d | _ => false) = s.all alB := by
      rw [List.all_map]; rfl
    rw [hall] at W
    by_cases h2 : c ∈ lets
    · cases h3 : s.all alB <;> rw [h3] at W <;> simp [ck_word, tyTest, hlen, h1a, h1b, hsub, h2, W, wordL, h1, h3, hc]
    · simp [ck_word, tyTest, hlen, h1a, h1b, hsub, h2, wordL, hc]
  · have : wordL s = false := by
      simp only [wordL, Bool.and_eq_false_iff, decide_eq_false_iff_not]
      by_cases h2 : 1 ≤ s.length
      · exact .inl (.inl (.inr fun h => h1 ⟨h2, h⟩))
      · exact .inl (.inl (.inl h2))
    rw [wordB_str, this]
    by_cases h2 : (1 : Int) ≤ s.length
    · have h3 : ¬ (s.length : Int) ≤ 12 := by omega
      simp [ck_word, tyTest, hlen, h2, h3]
    · simp [ck_word, tyTest, hlen, h2]
/-- no part twice -/
def distL : List PV → Bool
  | [] => true
  | p :: r => r.all (fun q => !eqP p q) && distL r
def dk (l : List PV) : List (PV × PV) := l.map fun p => (p, .bl true)
theorem dget_dk (k : PV) : ∀ l : List PV, (dget (dk l) k).isSome = l.any fun e => eqP e k
  | [] => rfl
  | a :: r => by
    have ih := dget_dk k r
    unfold dget dk at ih ⊢
    rw [List.map_cons, List.find?_cons, List.any_cons]
    cases h : eqP a k with
    | true => simp [h]
    | false => simp only [h]; simpa using ih
theorem dset_dk (k : PV) : ∀ {l : List PV}, (l.any fun e => eqP e k) = false → dset (dk l) k (.bl true) = dk (l ++ [k])
  | [], _ => rfl
  | a :: r, h => by
    rw [List.any_cons, Bool.or_eq_false_iff] at h
    have ih := dset_dk k h.2
    unfold dk at ih ⊢
    simp only [List.map_cons, dset, h.1, List.cons_append, ih]
    rfl
theorem distL_snoc (p : PV) : ∀ l : List PV, distL (l ++ [p]) = (distL l && !(l.any fun e => eqP e p))
  | [] => rfl
  | a :: r => by
    simp only [List.cons_append, distL, distL_snoc p r, List.all_append, List.any_cons, List.all_cons, List.all_nil, Bool.and_true]
    cases eqP a p <;> cases r.all (fun q => !eqP a q) <;> cases distL r <;> cases r.any (fun e => eqP e p) <;> rfl
theorem dist_walk {l : List PV} (h8 : ∀ p ∈ l, keyB 8 p = true) (hl : l.length ≤ lineMax) (v : PV) : ∀ (r d : List PV) (s : Slot), d ++ r = l → distL d = true →
    (distL l = true ∧ ∃ s', forL (denSs P.anc P.nf w (P.call w n) ck_dist0) (asg (.one 2)) r [.sh v, .od (dk d), s] = .nx [.sh v, .od (dk l), s']) ∨
    (distL l = false ∧ forL (denSs P.anc P.nf w (P.call w n) ck_dist0) (asg (.one 2)) r [.sh v, .od (dk d), s] = .rt (.bl false))
  | [], d, s, e, hd => by
    rw [List.append_nil] at e
    subst e
    exact .inl ⟨hd, s, rfl⟩
  | p :: r, d, s, e, hd => by
    have hp : keyB 8 p = true := h8 p (by rw [← e]; simp)
    have hlen : d.length < lineMax := by
      have := congrArg List.length e
      simp at this
      omega
    have as1 : asg (.one 2) p [.sh v, .od (dk d), s] = some [.sh v, .od (dk d), .sh p] := by simp
    have dl : (dk d).length = d.length := by simp [dk]
    cases hx : d.any fun e => eqP e p with
    | true =>
      refine .inr ⟨?_, ?_⟩
      · rw [← e]
        have : ∀ (q : List PV) (d : List PV), distL d = false → distL (d ++ q) = false := fun q d => by
          induction d with
          | nil => intro z; cases z
          | cons a t ih =>
            intro z
            simp only [distL, Bool.and_eq_false_iff, List.cons_append] at z ⊢
            rcases z with z | z
            · left
              rw [List.all_append, z]; rfl
            · exact .inr (ih z)
        have h2 := this r (d ++ [p]) (by rw [distL_snoc, hx]; simp)
        rw [← h2]
        simp
      · exact forL_stop as1 (by simp [ck_dist0, hp, dget_dk, hx])
    | false =>
      have e1 : denSs P.anc P.nf w (P.call w n) ck_dist0 [.sh v, .od (dk d), .sh p] = .nx [.sh v, .od (dk (d ++ [p])), .sh p] := by
        simp [ck_dist0, hp, dget_dk, hx, dset_dk p hx, dl, hlen]
      rw [forL_step as1 e1]
      exact dist_walk h8 hl v r (d ++ [p]) (.sh p) (by rw [← e]; simp) (by rw [distL_snoc, hd, hx]; rfl)
theorem ck_dist_ok {f : Nat} {x : String} (h : P.defs[f]? = some ⟨x, 1, 3, ck_dist⟩) (l : List PV) (h8 : ∀ p ∈ l, keyB 8 p = true) (hl : l.length ≤ lineMax) : P.call w (n + 1) f [.tup l] = .ok (.bl (distL l)) := by
  rw [call_at h rfl]
  rcases dist_walk (P := P) (w := w) (n := n) h8 hl (.tup l) l [] .un rfl rfl with ⟨h1, s', h2⟩ | ⟨h1, h2⟩
  · rw [h1]
    simp only [dk, List.map_nil] at h2
    simp [ck_dist, h2]
  · rw [h1]
    simp only [dk, List.map_nil] at h2
    simp [ck_dist, h2]
def wordsB (v : PV) (lo hi : Int) : Bool := match v with
  | .tup l => decide (lo ≤ (l.length : Int)) && decide ((l.length : Int) ≤ hi) && l.all wordB && distL l
  | _ => false
theorem wordB_key {p : PV} (h : wordB p = true) (n : Nat) : keyB n p = true := by
  cases p <;> first | (simp [wordB] at h; done) | exact keyB_str _ _
theorem ck_words_ok {f i j : Nat} {x y z : String} (h : P.defs[f]? = some ⟨x, 3, 4, ck_words i j⟩) (hi : P.defs[i]? = some ⟨y, 1, 2, ck_word⟩) (hj : P.defs[j]? = some ⟨z, 1, 3, ck_dist⟩) (v : PV) (lo hi' : Int)
    (hv : ∀ l, v = .tup l → (∀ p ∈ l, shortS p = true) ∧ l.length ≤ lineMax) : P.call w (n + 2) f [v, .int lo, .int hi'] = .ok (.bl (wordsB v lo hi')) := by
  rw [call_at h rfl]
  cases v <;> try (simp [ck_words, tyTest, wordsB]; done)
  rename_i l
  obtain ⟨h1, h2⟩ := hv l rfl
  by_cases ha : lo ≤ (l.length : Int)
  · by_cases hb : (l.length : Int) ≤ hi'
    · have W := forL_test (body := denSs P.anc P.nf w (P.call w (n + 1)) (ck_words0 i)) (asn := asg (.one 3)) (mk := fun s => [.sh (.tup l), .sh (.int lo), .sh (.int hi'), s]) (good := wordB) (res := .bl false) (l := l) (fun p hp s => by
        refine ⟨by simp, ?_⟩
        cases hw : wordB p <;> simp [ck_words0, ck_word_ok (w := w) (n := n) hi p (h1 p hp), hw]) .un
      cases hw : l.all wordB with
      | true =>
        rw [hw] at W
        have hk : ∀ p ∈ l, keyB 8 p = true := fun p hp => wordB_key (List.all_eq_true.mp hw p hp) 8
        simp [ck_words, tyTest, ha, hb, W, ck_dist_ok (w := w) (n := n) hj l hk h2, wordsB, hw]
      | false =>
        rw [hw] at W
        simp [ck_words, tyTest, ha, hb, W, wordsB, hw]
    · simp [ck_words, tyTest, ha, hb, wordsB]
  · simp [ck_words, tyTest, ha, wordsB]
def ck_cell : List S := [.ite (.cmp .lt (.var 1) (.bi .len [(.var 0)])) [.ret (.bi .int [(.sub (.var 0) (.var 1))])] [],
    .ret (.con (.int 0))]
theorem ck_cell_ok {f : Nat} {x : String} (h : P.defs[f]? = some ⟨x, 2, 2, ck_cell⟩) (ns : List Int) (k : Nat) : P.call w (n + 1) f [.lst (il ns), .int k] = .ok (.int (ns.getD k 0)) := by
  rw [call_at h rfl]
  by_cases hk : k < ns.length
  · have hk' : (k : Int) < ns.length := by omega
    have e : ixAt (il ns) (k : Int) = some (.int ns[k]) := by rw [ixAt_nat, il_get, List.getElem?_eq_getElem hk]; rfl
    simp [ck_cell, hk', e, List.getElem?_eq_getElem hk]
  · have hk' : ¬ (k : Int) < ns.length := by omega
    simp [ck_cell, hk', List.getElem?_eq_none (by omega : ns.length ≤ k)]
/-- a draw at its place -/
theorem il_at {lim : Int} {l : List Int} (h : inR lim l) {i : Int} (h0 : 0 ≤ i) (h1 : i < l.length) : ∃ d, ixAt (il l) i = some (.int d) ∧ l[i.toNat]? = some d ∧ 0 ≤ d ∧ d < lim := by
  have hk : i.toNat < l.length := by omega
  have hd := h l[i.toNat] (List.getElem_mem hk)
  refine ⟨l[i.toNat], ?_, List.getElem?_eq_getElem hk, hd.1, hd.2⟩
  rw [ixAt_pos _ h0, il_get, List.getElem?_eq_getElem hk]
  rfl
theorem cut_to {α : Type} (l : List α) (a : Nat) : cut l none (some (a : Int)) = l.take a := by
  have hc : cl l.length l.length (some (a : Int)) = min a l.length := by
    show (if (a : Int) < 0 then ((a : Int) + l.length).toNat else min (a : Int).toNat l.length) = _
    rw [if_neg (by omega), Int.toNat_natCast]
  unfold cut
  rw [hc]
  show List.take (min a l.length - 0) (List.drop 0 l) = _
  rw [List.drop_zero, Nat.sub_zero]
  by_cases h : a ≤ l.length
  · rw [Nat.min_eq_left h]
  · rw [Nat.min_eq_right (by omega), List.take_length, List.take_of_length_le (by omega)]
theorem il_take (l : List Int) (a : Nat) : (il l).take a = il (l.take a) := by simp [il, List.map_take]
theorem il_set (l : List Int) (i : Nat) (v : Int) : (il l).set i (.int v) = il (l.set i v) := by simp [il, List.map_set]
theorem il_ix (l : List Int) {i : Int} (h0 : 0 ≤ i) (h1 : i < l.length) : ixAt (il l) i = some (.int (l.getD i.toNat 0)) := by
  have hk : i.toNat < l.length := by omega
  rw [ixAt_pos _ h0, il_get, List.getD_eq_getElem?_getD, List.getElem?_eq_getElem hk]
  rfl
@[simp] theorem abs_int (i : Int) : biAbs (.int i) = .ok (.int (if i < 0 then -i else i)) := rfl
theorem abs_nat (i : Int) : (if i < 0 then -i else i) = (i.natAbs : Int) := by split <;> omega
theorem pv_fdiv (a s : Int) (h : s ≠ 0) (hb : s.natAbs < 2 ^ 9000) : pvBin .fdiv (.int a) (.int s) = .ok (.int (a.fdiv s)) := by
  rw [fdiv_int]
  split
  · rename_i h2
    rw [Int.fdiv_eq_ediv_of_nonneg a (by omega)]
  · rw [if_pos ⟨h, hb⟩]
end
end G
namespace G
/-! ### the draws of the laws that take a whole script -/
def ld_b0 : List S := [.set (.one 4) (.bin .mod (.bi .int [(.bin .add (.bin .add (.bin .mul (.var 4) (.var 4)) (.bin .mul (.bin .add (.var 4) (.con (.int 7))) (.bin .add (.var 5) (.con (.int 11))))) (.con (.int 40503)))]) (.con (.int 2147483647)))]
def ld_b1 : List S := [.set (.one 7) (.bin .mod (.bi .int [(.var 5)]) (.bi .len [(.var 2)])),
    .ite (.cmp .ge (.sub (.var 2) (.var 7)) (.bin .pow (.con (.int 10)) (.con (.int 18)))) [.app 6 (.bin .mod (.bi .int [(.sub (.var 3) (.var 7))]) (.con (.int 1000))),
    .put 3 (.var 7) (.bin .fdiv (.sub (.var 3) (.var 7)) (.con (.int 1000)))] [.set (.one 8) (.bin .mod (.bi .int [(.sub (.var 2) (.var 7))]) (.con (.int 999983))),
    .set (.one 4) (.bin .mod (.bi .int [(.bin .add (.bin .add (.bin .mul (.var 4) (.var 4)) (.bin .mul (.bin .add (.var 8) (.con (.int 7))) (.bin .add (.var 5) (.con (.int 13))))) (.con (.int 40503)))]) (.con (.int 2147483647))),
    .app 6 (.bin .mod (.bi .int [(.bin .fdiv (.var 4) (.con (.int 7)))]) (.con (.int 1000)))]]
def ld_B : List S := [.set (.one 2) (.bi .list [(.slc (.var 0) none (some (.con (.int 63))))]),
    .ite (.cmp .eq (.bi .len [(.var 2)]) (.con (.int 0))) [.set (.one 2) (.lst [(.con (.int 0))])] [],
    .own 3 (.bi .list [(.var 2)]),
    .set (.one 4) (.bin .add (.bin .mod (.bi .int [(.sub (.var 2) (.con (.int 0)))]) (.con (.int 999983))) (.con (.int 1))),
    .loop (.one 5) (.rng [(.con (.int 2))]) ld_b0,
    .own 6 (.lst []),
    .loop (.one 5) (.rng [(.var 1)]) ld_b1,
    .frz 6,
    .ret (.var 6)]
section
variable {P : Prog} {w n : Nat}
theorem st_bd (x : Int) : 0 ≤ x % 2147483647 ∧ x % 2147483647 < 2147483647 := ⟨Int.emod_nonneg _ (by decide), Int.emod_lt_of_pos _ (by decide)⟩
theorem ld0 (a b c d : Slot) (st : Int) (h : 0 ≤ st ∧ st < 2147483647) (k : Nat) (hk : k < 2) (s6 s7 s8 : Slot) : ∃ st', (0 ≤ st' ∧ st' < 2147483647) ∧
    denSs P.anc P.nf w (P.call w n) ld_b0 [a, b, c, d, .sh (.int st), .sh (.int (k : Int)), s6, s7, s8] = .nx [a, b, c, d, .sh (.int st'), .sh (.int (k : Int)), s6, s7, s8] := by
  have m1 : mulOk st st = true := by simp [mulOk, small_ok h.1 (by omega)]
  have m2 : mulOk (st + 7) ((k : Int) + 11) = true := by simp [mulOk, small_ok (a := st + 7) (by omega) (by omega)]
  exact ⟨_, st_bd _, by simp [ld_b0, m1, m2]; rfl⟩
theorem ld1 (a b : Slot) (cs rest : List Int) (hc : 0 < cs.length) (hr : rest.length = cs.length) (st : Int) (h : 0 ≤ st ∧ st < 2147483647) (k : Nat) (hk : k < 1000) (ds : List Int) (hd : inR 1000 ds) (hl : ds.length = k) (s7 s8 : Slot) : ∃ rest' st' ds' s7' s8', rest'.length = cs.length ∧ (0 ≤ st' ∧ st' < 2147483647) ∧ inR 1000 ds' ∧ ds'.length = k + 1 ∧
    denSs P.anc P.nf w (P.call w n) ld_b1 [a, b, .sh (.lst (il cs)), .ol (il rest), .sh (.int st), .sh (.int (k : Int)), .ol (il ds), s7, s8] =
      .nx [a, b, .sh (.lst (il cs)), .ol (il rest'), .sh (.int st'), .sh (.int (k : Int)), .ol (il ds'), s7', s8'] := by
  have h0 : (0 : Int) < (cs.length : Int) := by omega
  have a0 := Int.emod_nonneg (k : Int) (b := (cs.length : Int)) (by omega)
  have a1 := Int.emod_lt_of_pos (k : Int) h0
  have i1 := il_ix cs a0 a1
  have i2 := il_ix rest a0 (by omega)
  have hlt : ds.length < lineMax := by unfold lineMax; omega
  have a2 : (k : Int) % cs.length < rest.length := by omega
  have p18 : (10 : Int) ^ 18 = 1000000000000000000 := by decide
  have s10 : small64 10 = true := by decide
  generalize hi : (k : Int) % cs.length = i at *
  generalize cs.getD i.toNat 0 = cv at i1
  generalize rest.getD i.toNat 0 = rv at i2
  by_cases hb : (1000000000000000000 : Int) ≤ cv
  · refine ⟨rest.set i.toNat (rv / 1000), st, ds ++ [rv % 1000], .sh (.int i), s8, by simp [hr], h, inR_app hd (Int.emod_nonneg _ (by decide)) (Int.emod_lt_of_pos _ (by decide)), by simp [hl], ?_⟩
    simp -implicitDefEqProofs [ld_b1, hc, hi, i1, i2, s10, hb, hlt, il_set, a0, a2]
  · have m1 : mulOk st st = true := by simp [mulOk, small_ok h.1 (by omega)]
    have q0 := Int.emod_nonneg cv (b := 999983) (by decide)
    have q1 := Int.emod_lt_of_pos cv (b := 999983) (by decide)
    have m2 : mulOk (cv % 999983 + 7) ((k : Int) + 13) = true := by simp [mulOk, small_ok (a := cv % 999983 + 7) (by omega) (by omega)]
    refine ⟨rest, (st * st + (cv % 999983 + 7) * ((k : Int) + 13) + 40503) % 2147483647, ds ++ [(st * st + (cv % 999983 + 7) * ((k : Int) + 13) + 40503) % 2147483647 / 7 % 1000], .sh (.int i), .sh (.int (cv % 999983)), hr, st_bd _, inR_app hd (Int.emod_nonneg _ (by decide)) (Int.emod_lt_of_pos _ (by decide)), by simp [hl], ?_⟩
    simp -implicitDefEqProofs [ld_b1, hc, hi, i1, i2, s10, hb, hlt, m1, m2]
theorem ld_ok {f : Nat} {x : String} (hd : P.defs[f]? = some ⟨x, 2, 9, ld_B⟩) (ns : List Int) (many : Nat) (hm : many ≤ 1000) : ∃ ds : List Int, P.call w (n + 1) f [.lst (il ns), .int (many : Int)] = .ok (.lst (il ds)) ∧ ds.length = many ∧ inR 1000 ds := by
  rw [call_at hd rfl]
  have main : ∀ cs : List Int, 0 < cs.length → ∀ sl, ∃ ds : List Int, retOf ((denSs P.anc P.nf w (P.call w n) [.own 3 (.bi .list [(.var 2)]),
    .set (.one 4) (.bin .add (.bin .mod (.bi .int [(.sub (.var 2) (.con (.int 0)))]) (.con (.int 999983))) (.con (.int 1))),
    .loop (.one 5) (.rng [(.con (.int 2))]) ld_b0,
    .own 6 (.lst []),
    .loop (.one 5) (.rng [(.var 1)]) ld_b1,
    .frz 6,
    .ret (.var 6)]) [sl, .sh (.int (many : Int)), .sh (.lst (il cs)), .un, .un, .un, .un, .un, .un]) = .ok (.lst (il ds)) ∧ ds.length = many ∧ inR 1000 ds := by
    intro cs hc sl
    have i0 := il_ix cs (i := 0) (by omega) (by omega)
    generalize cs.getD (0 : Int).toNat 0 = cv at i0
    have q0 := Int.emod_nonneg cv (b := 999983) (by decide)
    have q1 := Int.emod_lt_of_pos cv (b := 999983) (by decide)
    have L0 := forL_inv (body := denSs P.anc P.nf w (P.call w n) ld_b0) (asn := asg (.one 5)) (fun _ e => ∃ st s5, (0 ≤ st ∧ st < 2147483647) ∧ e = [sl, .sh (.int (many : Int)), .sh (.lst (il cs)), .ol (il cs), .sh (.int st), s5, .un, .un, .un]) (range1 0 2) 0
      [sl, .sh (.int (many : Int)), .sh (.lst (il cs)), .ol (il cs), .sh (.int (cv % 999983 + 1)), .un, .un, .un, .un] ⟨_, .un, ⟨by omega, by omega⟩, rfl⟩ (fun i p hp e he => by
        obtain ⟨st, s5, h, rfl⟩ := he
        obtain ⟨hp1, hp2⟩ := range1_get hp
        rw [Int.zero_add] at hp1 hp2
        subst hp1
        obtain ⟨st', h', e2⟩ := ld0 (P := P) (w := w) (n := n) sl (.sh (.int (many : Int))) (.sh (.lst (il cs))) (.ol (il cs)) st h i (by omega) .un .un .un
        exact ⟨_, _, rfl, e2, st', _, h', rfl⟩)
    obtain ⟨e, l0, st, s5, h, rfl⟩ := L0
    have L1 := forL_inv (body := denSs P.anc P.nf w (P.call w n) ld_b1) (asn := asg (.one 5)) (fun k e => ∃ rest st ds s5 s7 s8, rest.length = cs.length ∧ (0 ≤ st ∧ st < 2147483647) ∧ inR 1000 ds ∧ ds.length = k ∧ e = [sl, .sh (.int (many : Int)), .sh (.lst (il cs)), .ol (il rest), .sh (.int st), s5, .ol (il ds), s7, s8]) (range1 0 many) 0
      [sl, .sh (.int (many : Int)), .sh (.lst (il cs)), .ol (il cs), .sh (.int st), s5, .ol [], .un, .un] ⟨cs, st, [], s5, .un, .un, rfl, h, (fun d hd => by cases hd), rfl, rfl⟩ (fun i p hp e he => by
        obtain ⟨rest, st, ds, s5, s7, s8, h1, h2, h3, h4, rfl⟩ := he
        obtain ⟨hp1, hp2⟩ := range1_get hp
        rw [Int.zero_add] at hp1 hp2
        subst hp1
        obtain ⟨rest', st', ds', s7', s8', g1, g2, g3, g4, g5⟩ := ld1 (P := P) (w := w) (n := n) sl (.sh (.int (many : Int))) cs rest hc h1 st h2 i (by omega) ds h3 (by omega) s7 s8
        exact ⟨_, _, rfl, g5, rest', st', ds', _, s7', s8', g1, g2, g3, by omega, rfl⟩)
    obtain ⟨e, l1, rest, st', ds, s5', s7, s8, g1, g2, g3, g4, rfl⟩ := L1
    have hmd : ds.length = many := by rw [g4, range1_len]; omega
    refine ⟨ds, ?_, hmd, g3⟩
    have r2 : rngOk 2 = true := rfl
    have r24 : rngOk (many : Int) = true := by simp [rngOk]; omega
    simp -implicitDefEqProofs [i0, r2, l0, r24, l1]
  have c63 : cut (il ns) none (some 63) = il (ns.take 63) := by
    have := cut_to (il ns) 63
    rw [il_take] at this
    exact this
  by_cases h : (ns.take 63).length = 0
  · obtain ⟨ds, h1, h2, h3⟩ := main [0] (by simp) (.sh (.lst (il ns)))
    refine ⟨ds, ?_, h2, h3⟩
    rw [← h1]
    have h' : (ns.take 63) = [] := List.eq_nil_of_length_eq_zero h
    simp [ld_B, c63, h']
  · obtain ⟨ds, h1, h2, h3⟩ := main (ns.take 63) (by omega) (.sh (.lst (il ns)))
    refine ⟨ds, ?_, h2, h3⟩
    rw [← h1]
    generalize ns.take 63 = cs at *
    have h' : ¬ (cs.length : Int) = 0 := by omega
    simp [ld_B, c63, h', h, -List.length_eq_zero_iff]
end
/-! ### how much a value holds, and how deep it is -/
mutual
def meas : PV → Nat
  | .non | .bl _ => 1
  | .int i => if i.natAbs < 1000000 then 1 else 1000000000
  | .str s => if s.length ≤ 30 ∧ s.all plainC = true then 1 else 1000000000
  | .tup l => 1 + measL l
  | .lst l => 1 + measL l
  | .dct _ => 1000000000
def measL : List PV → Nat
  | [] => 0
  | a :: r => meas a + measL r
end
mutual
def dep : PV → Nat
  | .tup l => 1 + depL l
  | .lst l => 1 + depL l
  | _ => 0
def depL : List PV → Nat
  | [] => 0
  | a :: r => max (dep a) (depL r)
end
@[simp] theorem meas_non : meas .non = 1 := by simp only [meas]
@[simp] theorem meas_bl (b : Bool) : meas (.bl b) = 1 := by simp only [meas]
@[simp] theorem meas_int (i : Int) : meas (.int i) = if i.natAbs < 1000000 then 1 else 1000000000 := by simp only [meas]
@[simp] theorem meas_str (s : List Char) : meas (.str s) = if s.length ≤ 30 ∧ s.all plainC = true then 1 else 1000000000 := by simp only [meas]
@[simp] theorem meas_tup (l : List PV) : meas (.tup l) = 1 + measL l := by simp only [meas]
@[simp] theorem meas_lst (l : List PV) : meas (.lst l) = 1 + measL l := by simp only [meas]
@[simp] theorem measL_nil : measL [] = 0 := by simp only [measL]
@[simp] theorem measL_cons (a : PV) (r : List PV) : measL (a :: r) = meas a + measL r := by simp only [measL]
@[simp] theorem dep_non : dep .non = 0 := by simp only [dep]
@[simp] theorem dep_bl (b : Bool) : dep (.bl b) = 0 := by simp only [dep]
@[simp] theorem dep_int (i : Int) : dep (.int i) = 0 := by simp only [dep]
@[simp] theorem dep_str (s : List Char) : dep (.str s) = 0 := by simp only [dep]
@[simp] theorem dep_tup (l : List PV) : dep (.tup l) = 1 + depL l := by simp only [dep]
@[simp] theorem dep_lst (l : List PV) : dep (.lst l) = 1 + depL l := by simp only [dep]
@[simp] theorem depL_nil : depL [] = 0 := by simp only [depL]
@[simp] theorem depL_cons (a : PV) (r : List PV) : depL (a :: r) = max (dep a) (depL r) := by simp only [depL]
theorem measL_mem {p : PV} : ∀ {l : List PV}, p ∈ l → meas p ≤ measL l
  | a :: r, h => by
    rw [measL_cons]
    rcases List.mem_cons.mp h with e | h
    · rw [e]; omega
    · have := measL_mem h; omega
theorem depL_mem {p : PV} : ∀ {l : List PV}, p ∈ l → dep p ≤ depL l
  | a :: r, h => by
    rw [depL_cons]
    rcases List.mem_cons.mp h with e | h
    · rw [e]; omega
    · have := depL_mem h; omega
theorem measL_le {k : Nat} : ∀ {l : List PV}, (∀ p ∈ l, meas p ≤ k) → measL l ≤ k * l.length
  | [], _ => by simp
  | a :: r, h => by
    have h1 := h a List.mem_cons_self
    have h2 := measL_le (l := r) fun p hp => h p (List.mem_cons_of_mem _ hp)
    rw [measL_cons, List.length_cons, Nat.mul_add]
    omega
theorem depL_le {k : Nat} : ∀ {l : List PV}, (∀ p ∈ l, dep p ≤ k) → depL l ≤ k
  | [], _ => by simp
  | a :: r, h => by
    have h1 := h a List.mem_cons_self
    have h2 := depL_le (l := r) fun p hp => h p (List.mem_cons_of_mem _ hp)
    rw [depL_cons]
    omega
def Val (p : PV) : Prop := meas p ≤ 1000 ∧ dep p ≤ 20
mutual
theorem meas_rep : ∀ p : PV, meas p < 1000000000 → repOk p = true
  | .non, _ => by simp only [repOk]
  | .bl _, _ => by simp only [repOk]
  | .int i, h => by
    rw [meas_int] at h
    split at h
    · simp only [repOk]
      exact small_abs (by omega) (by omega)
    · omega
  | .str s, h => by
    rw [meas_str] at h
    split at h
    · rename_i q
      simp only [repOk]
      exact q.2
    · omega
  | .tup l, h => by
    rw [meas_tup] at h
    simp only [repOk]
    exact measL_rep l (by omega)
  | .lst l, h => by
    rw [meas_lst] at h
    simp only [repOk]
    exact measL_rep l (by omega)
  | .dct _, h => by simp only [meas] at h; omega
theorem measL_rep : ∀ l : List PV, measL l < 1000000000 → repOks l = true
  | [], _ => by simp only [repOks]
  | a :: r, h => by
    rw [measL_cons] at h
    simp only [repOks, meas_rep a (by omega), measL_rep r (by omega), Bool.and_self]
end
mutual
theorem meas_nod : ∀ p : PV, meas p < 1000000000 → nod p = true
  | .non, _ => by simp only [nod]
  | .bl _, _ => by simp only [nod]
  | .int i, h => by simp only [nod]
  | .str s, h => by simp only [nod]
  | .tup l, h => by
    rw [meas_tup] at h
    simp only [nod]
    exact measL_nod l (by omega)
  | .lst l, h => by
    rw [meas_lst] at h
    simp only [nod]
    exact measL_nod l (by omega)
  | .dct _, h => by simp only [meas] at h; omega
theorem measL_nod : ∀ l : List PV, measL l < 1000000000 → nodL l = true
  | [], _ => by simp only [nodL]
  | a :: r, h => by
    rw [measL_cons] at h
    simp only [nodL, meas_nod a (by omega), measL_nod r (by omega), Bool.and_self]
end
mutual
theorem dep_flat : ∀ (n : Nat) (p : PV), dep p ≤ n → nod p = true → flat n p = true
  | n, .non, _, _ => by cases n <;> simp only [flat]
  | n, .bl _, _, _ => by cases n <;> simp only [flat]
  | n, .int _, _, _ => by cases n <;> simp only [flat]
  | n, .str _, _, _ => by cases n <;> simp only [flat]
  | 0, .tup l, h, _ => by rw [dep_tup] at h; omega
  | 0, .lst l, h, _ => by rw [dep_lst] at h; omega
  | n + 1, .tup l, h, hn => by
    rw [dep_tup] at h
    simp only [flat]
    exact depL_flat n l (by omega) (by simpa only [nod] using hn)
  | n + 1, .lst l, h, hn => by
    rw [dep_lst] at h
    simp only [flat]
    exact depL_flat n l (by omega) (by simpa only [nod] using hn)
  | _, .dct _, _, hn => by simp [nod] at hn
theorem depL_flat : ∀ (n : Nat) (l : List PV), depL l ≤ n → nodL l = true → flatL n l = true
  | n, [], _, _ => by simp only [flatL]
  | n, a :: r, h, hn => by
    rw [depL_cons] at h
    simp only [nodL, Bool.and_eq_true] at hn
    simp only [flatL, dep_flat n a (by omega) hn.1, depL_flat n r (by omega) hn.2, Bool.and_self]
end
theorem join_len : ∀ l : List (List Char), (joinC l).length ≤ (l.map (·.length)).sum + 2 * l.length
  | [] => by simp [joinC]
  | [x] => by simp [joinC]
  | x :: y :: r => by
    have := join_len (y :: r)
    simp only [joinC, List.length_append, List.map_cons, List.sum_cons, List.length_cons, List.length_nil] at this ⊢
    omega
theorem repPs_len : ∀ l : List PV, (repPs l).length = l.length
  | [] => by simp [repPs]
  | a :: r => by simp only [repPs, List.length_cons, repPs_len r]
theorem dig_len : ∀ (f n : Nat) (a : List Char) (k : Nat), n < 10 ^ k → 1 ≤ k → (Nat.toDigitsCore 10 f n a).length ≤ a.length + k
  | 0, n, a, k, _, _ => by simp only [Nat.toDigitsCore]; omega
  | f + 1, n, a, k, h, hk => by
    simp only [Nat.toDigitsCore]
    split
    · simp only [List.length_cons]; omega
    · rename_i hz
      have hk2 : 2 ≤ k := by
        rcases Nat.lt_or_ge k 2 with q | q
        · have : k = 1 := by omega
          subst this
          exact absurd (Nat.div_eq_of_lt (by simpa using h)) hz
        · exact q
      have h2 : n / 10 < 10 ^ (k - 1) := by
        apply Nat.div_lt_of_lt_mul
        have : 10 * 10 ^ (k - 1) = 10 ^ k := by rw [← Nat.pow_succ']; congr 1; omega
        omega
      have := dig_len f (n / 10) (Nat.digitChar (n % 10) :: a) (k - 1) h2 (by omega)
      simp only [List.length_cons] at this
      omega
theorem numS_len {i : Int} (h : i.natAbs < 1000000) : (numS i).length ≤ 8 := by
  unfold numS
  have key : ∀ m : Nat, m < 1000000 → (Nat.repr m).toList.length ≤ 6 := fun m hm => by
    have := dig_len (m + 1) m [] 6 (by simpa using hm) (by decide)
    simpa [Nat.repr, Nat.toDigits] using this
  cases i with
  | ofNat m => exact Nat.le_trans (key m (by simpa using h)) (by decide)
  | negSucc m =>
    have h1 : m + 1 < 1000000 := by omega
    have := key (m + 1) h1
    show ("-" ++ Nat.repr (m + 1)).toList.length ≤ 8
    rw [String.toList_append, List.length_append]
    have e : "-".toList.length = 1 := rfl
    omega
mutual
theorem repP_len : ∀ p : PV, meas p < 1000000000 → (repP p).length + 2 ≤ 40 * meas p
  | .non, _ => by simp [repP]
  | .bl b, _ => by cases b <;> simp [repP]
  | .int i, h => by
    rw [meas_int] at h ⊢
    split at h
    · rename_i q
      rw [if_pos q]
      simp only [repP]
      have := numS_len q
      omega
    · omega
  | .str s, h => by
    rw [meas_str] at h ⊢
    split at h
    · rename_i q
      rw [if_pos q]
      simp only [repP, List.length_append, List.length_cons, List.length_nil]
      omega
    · omega
  | .tup l, h => by
    rw [meas_tup] at h ⊢
    have h1 := repPs_tot l (by omega)
    have h2 := join_len (repPs l)
    rw [repPs_len] at h2
    simp only [repP, List.length_append, List.length_cons, List.length_nil]
    have h3 : (if l.length = 1 then [',', ')'] else [')'] : List Char).length ≤ 2 := by split <;> simp
    omega
  | .lst l, h => by
    rw [meas_lst] at h ⊢
    have h1 := repPs_tot l (by omega)
    have h2 := join_len (repPs l)
    rw [repPs_len] at h2
    simp only [repP, List.length_append, List.length_cons, List.length_nil]
    omega
  | .dct _, h => by simp only [meas] at h; omega
theorem repPs_tot : ∀ l : List PV, measL l < 1000000000 → ((repPs l).map (·.length)).sum + 2 * l.length ≤ 40 * measL l
  | [], _ => by simp [repPs]
  | a :: r, h => by
    rw [measL_cons] at h ⊢
    have h1 := repP_len a (by omega)
    have h2 := repPs_tot r (by omega)
    simp only [repPs, List.map_cons, List.sum_cons, List.length_cons]
    omega
end
end G
namespace G
theorem val_nod {p : PV} (h : Val p) : nod p = true := meas_nod p (by have := h.1; omega)
theorem val_flat {p : PV} (h : Val p) : flat 60 p = true := dep_flat 60 p (by have := h.2; omega) (val_nod h)
theorem val_short {s : List Char} (h : Val (.str s)) : s.length ≤ 30 := by
  have := h.1
  rw [meas_str] at this
  split at this
  · rename_i q; exact q.1
  · omega
theorem val_shortS {p : PV} (h : Val p) : shortS p = true := by
  cases p <;> try rfl
  have := val_short h
  simp only [shortS, decide_eq_true_eq]
  exact Nat.le_trans this (by simp)
theorem val_mem {l : List PV} (h : Val (.tup l)) {p : PV} (hp : p ∈ l) : Val p := by
  obtain ⟨h1, h2⟩ := h
  rw [meas_tup] at h1
  rw [dep_tup] at h2
  have := measL_mem hp
  have := depL_mem hp
  exact ⟨by omega, by omega⟩
theorem meas_pos (a : PV) : 1 ≤ meas a := by
  cases a with
  | non => simp
  | bl b => simp
  | int i => rw [meas_int]; split <;> omega
  | str s => rw [meas_str]; split <;> omega
  | tup l => rw [meas_tup]; omega
  | lst l => rw [meas_lst]; omega
  | dct l => simp only [meas]; omega
theorem val_len {l : List PV} (h : Val (.tup l)) : l.length ≤ 1000 := by
  have h1 := h.1
  rw [meas_tup] at h1
  have : ∀ l : List PV, l.length ≤ measL l := fun l => by
    induction l with
    | nil => simp
    | cons a r ih =>
      rw [measL_cons, List.length_cons]
      have := meas_pos a
      omega
  have := this l
  omega
theorem okEq_val {p q : PV} (h : Val p) (k : Val q) : okEq p q = true := by simp [okEq, val_flat h, val_nod k]
/-! ### the names -/
def leavesN : Nat → PV → Nat
  | _, .int i => if 0 ≤ i ∧ i ≤ 999 then 1 else 0
  | _, .str s => if wordL s then 1 else 0
  | d + 1, .tup l => if 1 ≤ l.length ∧ l.length ≤ 6 ∧ (l.all fun p => leavesN d p != 0) = true then (l.map (leavesN d)).sum else 0
  | _, _ => 0
def nameB (p : PV) : Bool := !intB p && decide (1 ≤ leavesN 4 p) && decide (leavesN 4 p ≤ 20)
def ck_leaf0 (f : Nat) : List S := [.set (.one 4) (.call f [(.var 3), (.bin .sub (.var 1) (.con (.int 1)))]),
    .ite (.cmp .eq (.var 4) (.con (.int 0))) [.ret (.con (.int 0))] [],
    .set (.one 2) (.bin .add (.var 2) (.var 4))]
def ck_leaf (f i j : Nat) : List S := [.ite (.call i [(.var 0)]) [.ret (.bi .int [(.chn .le .le (.con (.int 0)) (.var 0) (.con (.int 999)))])] [],
    .ite (.isi (.var 0) 2) [.ret (.bi .int [(.call j [(.var 0)])])] [],
    .ite (.or (.not (.isi (.var 0) 3)) (.or (.cmp .eq (.var 1) (.con (.int 0))) (.not (.chn .le .le (.con (.int 1)) (.bi .len [(.var 0)]) (.con (.int 6)))))) [.ret (.con (.int 0))] [],
    .set (.one 2) (.con (.int 0)),
    .loop (.one 3) (.seq (.var 0)) (ck_leaf0 f),
    .ret (.var 2)]
def ck_name (i j : Nat) : List S := [.ite (.call i [(.var 0)]) [.ret (.con (.bl false))] [],
    .ret (.chn .le .le (.con (.int 1)) (.call j [(.var 0), (.con (.int 4))]) (.con (.int 20)))]
def namesB (v : PV) (lo hi : Int) : Bool := match v with
  | .tup l => decide (lo ≤ (l.length : Int)) && decide ((l.length : Int) ≤ hi) && l.all nameB && distL l
  | _ => false
section
variable {P : Prog} {w : Nat}
/-- the walk over the parts, for any count of a part -/
theorem leaf_walk {c : Orc} {anc : List (List Nat)} {nf : List Nat} {f : Nat} {v d : PV} (g : PV → Nat) : ∀ (l : List PV) (a : Nat) (s3 s4 : Slot), (∀ p ∈ l, c f [p, d] = .ok (.int (g p))) → (∃ i : Int, v = v) →
    (dv : Int) → d = .int (dv - 1) → ∃ s3' s4', forL (denSs anc nf w c (ck_leaf0 f)) (asg (.one 3)) l [.sh v, .sh (.int dv), .sh (.int (a : Int)), s3, s4] =
      if (l.all fun p => g p != 0) = true then .nx [.sh v, .sh (.int dv), .sh (.int ((a + (l.map g).sum : Nat) : Int)), s3', s4'] else .rt (.int 0)
  | [], a, s3, s4, _, _, dv, _ => ⟨s3, s4, by simp; rfl⟩
  | p :: r, a, s3, s4, h, hh, dv, hd => by
    subst hd
    have hp := h p List.mem_cons_self
    have as1 : asg (.one 3) p [.sh v, .sh (.int dv), .sh (.int (a : Int)), s3, s4] = some [.sh v, .sh (.int dv), .sh (.int (a : Int)), .sh p, s4] := by simp
    by_cases h0 : g p = 0
    · refine ⟨s3, s4, ?_⟩
      have hz : ((p :: r).all fun p => g p != 0) = false := by simp [h0]
      rw [hz]
      refine forL_stop as1 ?_
      simp [ck_leaf0, hp, h0, okEq, flat, nod]
    · have h0' : ¬ ((g p : Nat) : Int) = 0 := by omega
      obtain ⟨s3', s4', ih⟩ := leaf_walk g r (a + g p) (.sh p) (.sh (.int (g p))) (fun q hq => h q (List.mem_cons_of_mem _ hq)) hh dv rfl
      refine ⟨s3', s4', ?_⟩
      have e1 : denSs anc nf w c (ck_leaf0 f) [.sh v, .sh (.int dv), .sh (.int (a : Int)), .sh p, s4] = .nx [.sh v, .sh (.int dv), .sh (.int ((a + g p : Nat) : Int)), .sh p, .sh (.int (g p))] := by
        simp [ck_leaf0, hp, h0', okEq, flat, nod, h0]
      rw [forL_step as1 e1, ih]
      have : ((p :: r).all fun p => g p != 0) = (r.all fun p => g p != 0) := by simp [h0]
      rw [this, List.map_cons, List.sum_cons, Nat.add_assoc]
theorem ck_leaf_ok {f i j : Nat} {x y z : String} (h : P.defs[f]? = some ⟨x, 2, 5, ck_leaf f i j⟩) (hi : P.defs[i]? = some ⟨y, 1, 1, ck_int⟩) (hj : P.defs[j]? = some ⟨z, 1, 2, ck_word⟩) :
    ∀ (d n : Nat) (v : PV), Val v → P.call w (n + d + 2) f [v, .int (d : Int)] = .ok (.int (leavesN d v)) := by
  intro d
  induction d with
  | zero =>
    intro n v hv
    rw [call_at h rfl]
    have h1 := ck_int_ok (w := w) (n := n) hi v
    have h2 := ck_word_ok (w := w) (n := n) hj v (val_shortS hv)
    cases v <;> try (simp [ck_leaf, h1, h2, intB, wordB, leavesN, tyTest, okEq, flat, nod]; done)
    · rename_i i
      by_cases q : 0 ≤ i ∧ i ≤ 999 <;> simp [ck_leaf, h1, intB, leavesN, pvCmp, q]
    · rename_i s
      cases q : wordL s <;> simp [ck_leaf, h1, h2, intB, wordB, leavesN, tyTest, q]
  | succ d ih =>
    intro n v hv
    have e : n + (d + 1) + 2 = (n + d + 2) + 1 := by omega
    rw [e, call_at h rfl]
    have h1 := ck_int_ok (w := w) (n := n + d + 1) hi v
    have h2 := ck_word_ok (w := w) (n := n + d + 1) hj v (val_shortS hv)
    cases v <;> try (simp [ck_leaf, h1, h2, intB, wordB, leavesN, tyTest, okEq, flat, nod]; done)
    · rename_i i
      by_cases q : 0 ≤ i ∧ i ≤ 999 <;> simp [ck_leaf, h1, intB, leavesN, pvCmp, q]
    · rename_i s
      cases q : wordL s <;> simp [ck_leaf, h1, h2, intB, wordB, leavesN, tyTest, q]
    · rename_i l
      have hd : ¬ ((d : Int) + 1) = 0 := by omega
      by_cases ha : 1 ≤ l.length
      · have ha' : (1 : Int) ≤ l.length := by omega
        by_cases hb : l.length ≤ 6
        · have hb' : (l.length : Int) ≤ 6 := by omega
          obtain ⟨s3', s4', W⟩ := leaf_walk (w := w) (c := P.call w (n + d + 2)) (anc := P.anc) (nf := P.nf) (f := f) (v := .tup l) (d := .int (d : Int)) (leavesN d) l 0 .un .un (fun p hp => ih n p (val_mem hv hp)) ⟨0, rfl⟩ ((d : Int) + 1) (by congr 1; omega)
          simp only [Nat.zero_add] at W
          rw [show ((0 : Nat) : Int) = 0 from rfl] at W
          cases q : l.all fun p => leavesN d p != 0 with
          | true =>
            rw [q] at W
            simp [ck_leaf, h1, intB, tyTest, okEq, flat, nod, hd, ha', hb', W, leavesN, ha, hb, q]
          | false =>
            rw [q] at W
            have ql : ¬ ((l.all fun p => leavesN d p != 0) = true) := by rw [q]; simp
            simp -implicitDefEqProofs only [leavesN]
            rw [if_neg (fun z => ql z.2.2)]
            simp [ck_leaf, h1, intB, tyTest, okEq, flat, nod, hd, ha', hb', W]
        · have hb' : ¬ (l.length : Int) ≤ 6 := by omega
          simp [ck_leaf, h1, intB, tyTest, okEq, flat, nod, hd, ha', hb', leavesN, hb]
      · have ha' : ¬ (1 : Int) ≤ l.length := by omega
        simp [ck_leaf, h1, intB, tyTest, okEq, flat, nod, hd, ha', leavesN, ha]
theorem ck_name_ok {f i j k : Nat} {x y z u : String} (h : P.defs[f]? = some ⟨x, 1, 1, ck_name i j⟩) (hj : P.defs[j]? = some ⟨y, 2, 5, ck_leaf j i k⟩) (hi : P.defs[i]? = some ⟨z, 1, 1, ck_int⟩) (hk : P.defs[k]? = some ⟨u, 1, 2, ck_word⟩) (n : Nat) (v : PV) (hv : Val v) :
    P.call w (n + 7) f [v] = .ok (.bl (nameB v)) := by
  rw [call_at h rfl]
  have h1 := ck_int_ok (w := w) (n := n + 5) hi v
  have h2 := ck_leaf_ok (w := w) hj hi hk 4 n v hv
  have h2' : P.call w (n + 6) j [v, .int 4] = .ok (.int (leavesN 4 v)) := h2
  cases q : intB v with
  | true =>
    rw [q] at h1
    simp [ck_name, h1, nameB, q]
  | false =>
    rw [q] at h1
    simp [ck_name, h1, h2', nameB, q, pvCmp]
    by_cases ha : 1 ≤ leavesN 4 v
    · have ha' : (1 : Int) ≤ leavesN 4 v := by omega
      by_cases hb : leavesN 4 v ≤ 20
      · have hb' : (leavesN 4 v : Int) ≤ 20 := by omega
        simp [ha, hb, ha', hb']
      · have hb' : ¬ (leavesN 4 v : Int) ≤ 20 := by omega
        simp [ha, hb, ha', hb']
    · have ha' : ¬ (1 : Int) ≤ leavesN 4 v := by omega
      simp [ha, ha']
theorem leaves_key : ∀ (d n : Nat) (p : PV), leavesN d p ≠ 0 → d ≤ n → keyB n p = true
  | d, n, .non, h, _ => by cases d <;> simp [leavesN] at h
  | d, n, .bl _, h, _ => by cases d <;> simp [leavesN] at h
  | d, n, .int _, h, _ => keyB_int _ _
  | d, n, .str _, h, _ => keyB_str _ _
  | 0, n, .tup l, h, _ => by simp [leavesN] at h
  | d + 1, 0, .tup l, h, hn => by omega
  | d + 1, n + 1, .tup l, h, hn => by
    simp only [leavesN] at h
    split at h
    · rename_i q
      simp only [keyB]
      have : ∀ r : List PV, (∀ p ∈ r, p ∈ l) → keyBs n r = true := fun r => by
        induction r with
        | nil => intro _; simp only [keyBs]
        | cons a r ih =>
          intro hr
          have ha := List.all_eq_true.mp q.2.2 a (hr a List.mem_cons_self)
          simp only [keyBs, leaves_key d n a (by simpa using ha) (by omega), ih fun p hp => hr p (List.mem_cons_of_mem _ hp), Bool.and_self]
      exact this l fun _ hp => hp
    · exact absurd rfl h
  | d, n, .lst l, h, _ => by cases d <;> simp [leavesN] at h
  | d, n, .dct l, h, _ => by cases d <;> simp [leavesN] at h
theorem nameB_key {p : PV} (h : nameB p = true) : keyB 8 p = true := by
  simp only [nameB, Bool.and_eq_true, decide_eq_true_eq] at h
  exact leaves_key 4 8 p (by omega) (by decide)
theorem ck_names_ok {f i j : Nat} {x z : String} (h : P.defs[f]? = some ⟨x, 3, 4, ck_words i j⟩) (hj : P.defs[j]? = some ⟨z, 1, 3, ck_dist⟩) (n : Nat) (v : PV) (lo hi' : Int)
    (hi : ∀ p, Val p → P.call w (n + 1) i [p] = .ok (.bl (nameB p)))
    (hv : ∀ l, v = .tup l → (∀ p ∈ l, Val p) ∧ l.length ≤ lineMax) : P.call w (n + 2) f [v, .int lo, .int hi'] = .ok (.bl (namesB v lo hi')) := by
  rw [call_at h rfl]
  cases v <;> try (simp [ck_words, tyTest, namesB]; done)
  rename_i l
  obtain ⟨h1, h2⟩ := hv l rfl
  by_cases ha : lo ≤ (l.length : Int)
  · by_cases hb : (l.length : Int) ≤ hi'
    · have W := forL_test (body := denSs P.anc P.nf w (P.call w (n + 1)) (ck_words0 i)) (asn := asg (.one 3)) (mk := fun s => [.sh (.tup l), .sh (.int lo), .sh (.int hi'), s]) (good := nameB) (res := .bl false) (l := l) (fun p hp s => by
        refine ⟨by simp, ?_⟩
        cases hw : nameB p <;> simp [ck_words0, hi p (h1 p hp), hw]) .un
      cases hw : l.all nameB with
      | true =>
        rw [hw] at W
        have hk : ∀ p ∈ l, keyB 8 p = true := fun p hp => nameB_key (List.all_eq_true.mp hw p hp)
        simp [ck_words, tyTest, ha, hb, W, ck_dist_ok (w := w) (n := n) hj l hk h2, namesB, hw]
      | false =>
        rw [hw] at W
        simp [ck_words, tyTest, ha, hb, W, namesB, hw]
    · simp [ck_words, tyTest, ha, hb, namesB]
  · simp [ck_words, tyTest, ha, namesB]
end
/-- a comprehension of which each value is told only by what it keeps -/
theorem lcL_all {asn : PV → Env → Option Env} {tst : Env → R Bool} {elt : Env → R PV} {env : Env} {Q : PV → Prop} : ∀ {l : List PV}, (∀ p ∈ l, ∃ e1 v, asn p env = some e1 ∧ tst e1 = .ok true ∧ elt e1 = .ok v ∧ Q v) →
    ∃ vs, lcL asn tst elt env l = .ok vs ∧ vs.length = l.length ∧ ∀ v ∈ vs, Q v
  | [], _ => ⟨[], rfl, rfl, fun _ h => nomatch h⟩
  | p :: r, h => by
    obtain ⟨e1, v, h1, h2, h3, h4⟩ := h p List.mem_cons_self
    obtain ⟨vs, i1, i2, i3⟩ := lcL_all (l := r) fun q hq => h q (List.mem_cons_of_mem _ hq)
    refine ⟨v :: vs, ?_, by simp [i2], fun u hu => ?_⟩
    · unfold lcL
      rw [h1]
      simp only [h2, h3, noEx]
      show R.bind (lcL asn tst elt env r) _ = _
      rw [i1]
      rfl
    · rcases List.mem_cons.mp hu with e | hu
      · rw [e]; exact h4
      · exact i3 u hu
theorem numS_nat (k : Nat) : numS (k : Int) = Nat.toDigits 10 k := by
  show (Nat.repr k).toList = _
  simp [Nat.repr]
theorem numS_one {k : Nat} (h : k < 10) : numS (k : Int) = [Nat.digitChar k] := by
  rw [numS_nat]
  have : k = 0 ∨ k = 1 ∨ k = 2 ∨ k = 3 ∨ k = 4 ∨ k = 5 ∨ k = 6 ∨ k = 7 ∨ k = 8 ∨ k = 9 := by omega
  rcases this with e | e | e | e | e | e | e | e | e | e <;> subst e <;> rfl
theorem numS_two {k : Nat} (h : 10 ≤ k) (h2 : k < 100) : numS (k : Int) = [Nat.digitChar (k / 10), Nat.digitChar (k % 10)] := by
  rw [numS_nat]
  have : ∀ k : Fin 100, 10 ≤ k.val → Nat.toDigits 10 k.val = [Nat.digitChar (k.val / 10), Nat.digitChar (k.val % 10)] := by decide
  exact this ⟨k, h2⟩ h
end G
namespace G
/-! ### values that may be large -/
def VB (p : PV) : Prop := meas p ≤ 1000000 ∧ dep p ≤ 20
theorem VB.of {p : PV} (h : Val p) : VB p := ⟨by have := h.1; omega, h.2⟩
theorem VB.nod {p : PV} (h : VB p) : nod p = true := meas_nod p (by have := h.1; omega)
theorem VB.flat {p : PV} (h : VB p) : flat 60 p = true := dep_flat 60 p (by have := h.2; omega) h.nod
theorem VB.short {s : List Char} (h : VB (.str s)) : s.length ≤ 30 := by
  have := h.1
  rw [meas_str] at this
  split at this
  · rename_i q; exact q.1
  · omega
theorem VB.shortS {p : PV} (h : VB p) : shortS p = true := by
  cases p <;> try rfl
  have := VB.short h
  simp only [G.shortS, decide_eq_true_eq]
  exact Nat.le_trans this (by simp)
theorem VB.mem {l : List PV} (h : VB (.tup l)) {p : PV} (hp : p ∈ l) : VB p := by
  obtain ⟨h1, h2⟩ := h
  rw [meas_tup] at h1
  rw [dep_tup] at h2
  have := measL_mem hp
  have := depL_mem hp
  exact ⟨by omega, by omega⟩
theorem len_meas : ∀ l : List PV, l.length ≤ measL l
  | [] => by simp
  | a :: r => by
    have := len_meas r
    have := meas_pos a
    rw [measL_cons, List.length_cons]
    omega
theorem VB.len {l : List PV} (h : VB (.tup l)) : l.length ≤ 1000000 := by
  have h1 := h.1
  rw [meas_tup] at h1
  have := len_meas l
  omega
theorem VB.line {l : List PV} (h : VB (.tup l)) : l.length < lineMax := by
  have := h.len
  unfold lineMax
  omega
theorem VB.okEq {p q : PV} (h : VB p) (k : VB q) : okEq p q = true := by simp [G.okEq, h.flat, k.nod]
theorem VB.sm {p : PV} (h1 : meas p ≤ 1000000) (h2 : dep p ≤ 20) : VB p := ⟨h1, h2⟩
section
variable {P : Prog} {w : Nat}
theorem ck_leaf_okV {f i j : Nat} {x y z : String} (h : P.defs[f]? = some ⟨x, 2, 5, ck_leaf f i j⟩) (hi : P.defs[i]? = some ⟨y, 1, 1, ck_int⟩) (hj : P.defs[j]? = some ⟨z, 1, 2, ck_word⟩) :
    ∀ (d n : Nat) (v : PV), VB v → P.call w (n + d + 2) f [v, .int (d : Int)] = .ok (.int (leavesN d v)) := by
  intro d
  induction d with
  | zero =>
    intro n v hv
    rw [call_at h rfl]
    have h1 := ck_int_ok (w := w) (n := n) hi v
    have h2 := ck_word_ok (w := w) (n := n) hj v hv.shortS
    cases v <;> try (simp [ck_leaf, h1, h2, intB, wordB, leavesN, tyTest, G.okEq, G.flat, G.nod]; done)
    · rename_i i
      by_cases q : 0 ≤ i ∧ i ≤ 999 <;> simp [ck_leaf, h1, intB, leavesN, pvCmp, q]
    · rename_i s
      cases q : wordL s <;> simp [ck_leaf, h1, h2, intB, wordB, leavesN, tyTest, q]
  | succ d ih =>
    intro n v hv
    have e : n + (d + 1) + 2 = (n + d + 2) + 1 := by omega
    rw [e, call_at h rfl]
    have h1 := ck_int_ok (w := w) (n := n + d + 1) hi v
    have h2 := ck_word_ok (w := w) (n := n + d + 1) hj v hv.shortS
    cases v <;> try (simp [ck_leaf, h1, h2, intB, wordB, leavesN, tyTest, G.okEq, G.flat, G.nod]; done)
    · rename_i i
      by_cases q : 0 ≤ i ∧ i ≤ 999 <;> simp [ck_leaf, h1, intB, leavesN, pvCmp, q]
    · rename_i s
      cases q : wordL s <;> simp [ck_leaf, h1, h2, intB, wordB, leavesN, tyTest, q]
    · rename_i l
      have hd : ¬ ((d : Int) + 1) = 0 := by omega
      by_cases ha : 1 ≤ l.length
      · have ha' : (1 : Int) ≤ l.length := by omega
        by_cases hb : l.length ≤ 6
        · have hb' : (l.length : Int) ≤ 6 := by omega
          obtain ⟨s3', s4', W⟩ := leaf_walk (w := w) (c := P.call w (n + d + 2)) (anc := P.anc) (nf := P.nf) (f := f) (v := .tup l) (d := .int (d : Int)) (leavesN d) l 0 .un .un (fun p hp => ih n p (hv.mem hp)) ⟨0, rfl⟩ ((d : Int) + 1) (by congr 1; omega)
          simp only [Nat.zero_add] at W
          rw [show ((0 : Nat) : Int) = 0 from rfl] at W
          cases q : l.all fun p => leavesN d p != 0 with
          | true =>
            rw [q] at W
            simp [ck_leaf, h1, intB, tyTest, G.okEq, G.flat, G.nod, hd, ha', hb', W, leavesN, ha, hb, q]
          | false =>
            rw [q] at W
            have ql : ¬ ((l.all fun p => leavesN d p != 0) = true) := by rw [q]; simp
            simp -implicitDefEqProofs only [leavesN]
            rw [if_neg (fun z => ql z.2.2)]
            simp [ck_leaf, h1, intB, tyTest, G.okEq, G.flat, G.nod, hd, ha', hb', W]
        · have hb' : ¬ (l.length : Int) ≤ 6 := by omega
          simp [ck_leaf, h1, intB, tyTest, G.okEq, G.flat, G.nod, hd, ha', hb', leavesN, hb]
      · have ha' : ¬ (1 : Int) ≤ l.length := by omega
        simp [ck_leaf, h1, intB, tyTest, G.okEq, G.flat, G.nod, hd, ha', leavesN, ha]
theorem ck_name_okV {f i j k : Nat} {x y z u : String} (h : P.defs[f]? = some ⟨x, 1, 1, ck_name i j⟩) (hj : P.defs[j]? = some ⟨y, 2, 5, ck_leaf j i k⟩) (hi : P.defs[i]? = some ⟨z, 1, 1, ck_int⟩) (hk : P.defs[k]? = some ⟨u, 1, 2, ck_word⟩) (n : Nat) (v : PV) (hv : VB v) :
    P.call w (n + 7) f [v] = .ok (.bl (nameB v)) := by
  rw [call_at h rfl]
  have h1 := ck_int_ok (w := w) (n := n + 5) hi v
  have h2 := ck_leaf_okV (w := w) hj hi hk 4 n v hv
  have h2' : P.call w (n + 6) j [v, .int 4] = .ok (.int (leavesN 4 v)) := h2
  cases q : intB v with
  | true =>
    rw [q] at h1
    simp [ck_name, h1, nameB, q]
  | false =>
    rw [q] at h1
    simp [ck_name, h1, h2', nameB, q, pvCmp]
    by_cases ha : 1 ≤ leavesN 4 v
    · have ha' : (1 : Int) ≤ leavesN 4 v := by omega
      by_cases hb : leavesN 4 v ≤ 20
      · have hb' : (leavesN 4 v : Int) ≤ 20 := by omega
        simp [ha, hb, ha', hb']
      · have hb' : ¬ (leavesN 4 v : Int) ≤ 20 := by omega
        simp [ha, hb, ha', hb']
    · have ha' : ¬ (1 : Int) ≤ leavesN 4 v := by omega
      simp [ha, ha']
/-! ### games -/
def hasK (d : List PV) (p : PV) : Bool := d.any fun e => eqP e p
def stB : PV → Bool
  | .tup [m, a, e] => nameB m && (nameB a && withinB e 0 1)
  | _ => false
def mvP : PV → PV
  | .tup (m :: _) => m
  | _ => .non
def aftP : PV → PV
  | .tup (_ :: a :: _) => a
  | _ => .non
/-- the moves, if each step is one and no move stands twice -/
def sw (d : List PV) : List PV → Option (List PV)
  | [] => some d
  | p :: r => if stB p && !hasK d (mvP p) then sw (d ++ [mvP p]) r else none
def stepsB (v : PV) : Bool := match v with
  | .tup l => decide (1 ≤ l.length) && decide (l.length ≤ 12) && (sw [] l).isSome
  | _ => false
def ks_b (it nm wi : Nat) : List S := [.ite (.not (.call it [(.var 2), (.con (.int 3))])) [.ret (.con (.bl false))] [],
    .set (.many [(.one 3), (.one 4), (.one 5)]) (.var 2),
    .ite (.or (.not (.call nm [(.var 3)])) (.cmp .isin (.var 3) (.var 1))) [.ret (.con (.bl false))] [],
    .ite (.or (.not (.call nm [(.var 4)])) (.not (.call wi [(.var 5), (.con (.int 0)), (.con (.int 1))]))) [.ret (.con (.bl false))] [],
    .put 1 (.var 3) (.con (.bl true))]
def ks_B (it nm wi : Nat) : List S := [.ite (.or (.not (.isi (.var 0) 3)) (.not (.chn .le .le (.con (.int 1)) (.bi .len [(.var 0)]) (.con (.int 12))))) [.ret (.con (.bl false))] [],
    .own 1 (.dct [] []),
    .loop (.one 2) (.seq (.var 0)) (ks_b it nm wi),
    .ret (.con (.bl true))]
theorem tri_of {l : List PV} (h : (l.length : Int) = 3) : ∃ a b c, l = [a, b, c] := by
  match l, h with
  | [a, b, c], _ => exact ⟨a, b, c, rfl⟩
  | [], h => simp at h
  | [_], h => simp at h
  | [_, _], h => simp at h
  | _ :: _ :: _ :: _ :: _, h => simp at h; omega
/-- what the checks answer -/
structure Cks (P : Prog) (w n it nm wi : Nat) : Prop where
  tu : ∀ (v : PV) (k : Int), P.call w n it [v, .int k] = .ok (.bl (tupB v k))
  na : ∀ v, VB v → P.call w n nm [v] = .ok (.bl (nameB v))
  wt : ∀ (v : PV) (lo hi : Int), P.call w n wi [v, .int lo, .int hi] = .ok (.bl (withinB v lo hi))
theorem steps_walk {n it nm wi : Nat} (C : Cks P w n it nm wi) (v : PV) : ∀ (r d : List PV) (s2 s3 s4 s5 : Slot), (∀ p ∈ r, VB p) → d.length + r.length ≤ 1000 →
    ∃ s2' s3' s4' s5', forL (denSs P.anc P.nf w (P.call w n) (ks_b it nm wi)) (asg (.one 2)) r [.sh v, .od (dk d), s2, s3, s4, s5] =
      match sw d r with
      | some d' => .nx [.sh v, .od (dk d'), s2', s3', s4', s5']
      | none => .rt (.bl false)
  | [], d, s2, s3, s4, s5, _, _ => ⟨s2, s3, s4, s5, rfl⟩
  | p :: r, d, s2, s3, s4, s5, hv, hl => by
    have hp := hv p List.mem_cons_self
    have h1 := C.tu p 3
    have as1 : asg (.one 2) p [.sh v, .od (dk d), s2, s3, s4, s5] = some [.sh v, .od (dk d), .sh p, s3, s4, s5] := by simp
    have bad : (stB p && !hasK d (mvP p)) = false → denSs P.anc P.nf w (P.call w n) (ks_b it nm wi) [.sh v, .od (dk d), .sh p, s3, s4, s5] = .rt (.bl false) →
      ∃ s2' s3' s4' s5', forL (denSs P.anc P.nf w (P.call w n) (ks_b it nm wi)) (asg (.one 2)) (p :: r) [.sh v, .od (dk d), s2, s3, s4, s5] = match sw d (p :: r) with
      | some d' => .nx [.sh v, .od (dk d'), s2', s3', s4', s5']
      | none => .rt (.bl false) := fun hb e => ⟨s2, s3, s4, s5, by rw [forL_stop as1 e]; simp only [sw, hb]; rfl⟩
    by_cases ht : tupB p 3 = true
    · cases p <;> simp only [tupB] at ht <;> try cases ht
      rename_i l
      obtain ⟨m, a, e, rfl⟩ := tri_of (by simpa using ht)
      have ht' : tupB (.tup [m, a, e]) 3 = true := rfl
      rw [ht'] at h1
      have n1 := C.na m (hp.mem (by simp))
      have n2 := C.na a (hp.mem (by simp))
      have n3 := C.wt e 0 1
      have as3 : asg (.many [.one 3, .one 4, .one 5]) (.tup [m, a, e]) [.sh v, .od (dk d), .sh (.tup [m, a, e]), s3, s4, s5] = some [.sh v, .od (dk d), .sh (.tup [m, a, e]), .sh m, .sh a, .sh e] := by simp
      cases q1 : nameB m
      · rw [q1] at n1
        exact bad (by simp [stB, q1]) (by simp [ks_b, h1, n1])
      · rw [q1] at n1
        have hk := nameB_key q1
        cases q2 : hasK d m
        · have q2' : ((dget (dk d) m).isSome) = false := by rw [dget_dk]; exact q2
          cases q3 : nameB a
          · rw [q3] at n2
            exact bad (by simp [stB, q3]) (by simp [ks_b, h1, n1, hk, q2', n2])
          · rw [q3] at n2
            cases q4 : withinB e 0 1
            · rw [q4] at n3
              exact bad (by simp [stB, q4]) (by simp [ks_b, h1, n1, hk, q2', n2, n3])
            · rw [q4] at n3
              have dl : (dk d).length < lineMax := by simp [dk]; simp at hl; unfold lineMax; omega
              have e2 : denSs P.anc P.nf w (P.call w n) (ks_b it nm wi) [.sh v, .od (dk d), .sh (.tup [m, a, e]), s3, s4, s5] = .nx [.sh v, .od (dk (d ++ [m])), .sh (.tup [m, a, e]), .sh m, .sh a, .sh e] := by
                simp [ks_b, h1, n1, hk, q2', n2, n3, dset_dk m q2, dl]
              obtain ⟨t2, t3, t4, t5, W⟩ := steps_walk C v r (d ++ [m]) (.sh (.tup [m, a, e])) (.sh m) (.sh a) (.sh e) (fun p hp => hv p (List.mem_cons_of_mem _ hp)) (by simp at hl ⊢; omega)
              refine ⟨t2, t3, t4, t5, ?_⟩
              rw [forL_step as1 e2, W]
              simp only [sw, stB, q1, q3, q4, mvP, q2, Bool.and_self, Bool.not_false, if_true]
        · have q2' : ((dget (dk d) m).isSome) = true := by rw [dget_dk]; exact q2
          exact bad (by simp [stB, mvP, q2]) (by simp [ks_b, h1, n1, hk, q2'])
    · have hf : tupB p 3 = false := by simpa using ht
      rw [hf] at h1
      refine bad ?_ (by simp [ks_b, h1])
      have : stB p = false := by
        unfold stB
        split
        · simp [tupB] at hf
        · rfl
      rw [this]; rfl
theorem ks_ok {n f it nm wi : Nat} {x : String} (h : P.defs[f]? = some ⟨x, 1, 6, ks_B it nm wi⟩) (C : Cks P w n it nm wi) (v : PV) (hv : VB v) : P.call w (n + 1) f [v] = .ok (.bl (stepsB v)) := by
  rw [call_at h rfl]
  cases v <;> try (simp [ks_B, tyTest, stepsB]; done)
  rename_i l
  by_cases ha : 1 ≤ l.length
  · by_cases hb : l.length ≤ 12
    · have ha' : (1 : Int) ≤ l.length := by omega
      have hb' : (l.length : Int) ≤ 12 := by omega
      obtain ⟨t2, t3, t4, t5, W⟩ := steps_walk C (.tup l) l [] .un .un .un .un (fun p hp => hv.mem hp) (by simp; omega)
      simp only [dk, List.map_nil] at W
      cases q : sw [] l <;> rw [q] at W <;> simp [ks_B, tyTest, ha', hb', W, stepsB, ha, hb, q]
    · have hb' : ¬ (l.length : Int) ≤ 12 := by omega
      simp [ks_B, tyTest, hb', stepsB, hb]
  · have ha' : ¬ (1 : Int) ≤ l.length := by omega
    simp [ks_B, tyTest, ha', stepsB, ha]
def rowB (v : PV) : Bool := match v with
  | .tup [p, s, r] => nameB p && (withinB s (-1) 1 && (if eqP s (.int 0) then withinB r (-1) 1 else stepsB r))
  | _ => false
def kr_B (it nm wi st : Nat) : List S := [.ite (.not (.call it [(.var 0), (.con (.int 3))])) [.ret (.con (.bl false))] [],
    .set (.many [(.one 1), (.one 2), (.one 3)]) (.var 0),
    .ite (.or (.not (.call nm [(.var 1)])) (.not (.call wi [(.var 2), (.neg (.con (.int 1))), (.con (.int 1))]))) [.ret (.con (.bl false))] [],
    .ite (.cmp .eq (.var 2) (.con (.int 0))) [.ret (.call wi [(.var 3), (.neg (.con (.int 1))), (.con (.int 1))])] [],
    .ret (.call st [(.var 3)])]
theorem kr_ok {n f it nm wi st : Nat} {x y : String} (h : P.defs[f]? = some ⟨x, 1, 4, kr_B it nm wi st⟩) (hs : P.defs[st]? = some ⟨y, 1, 6, ks_B it nm wi⟩) (C : Cks P w n it nm wi) (D : Cks P w (n + 1) it nm wi) (v : PV) (hv : VB v) : P.call w (n + 2) f [v] = .ok (.bl (rowB v)) := by
  rw [call_at h rfl]
  have h1 := D.tu v 3
  by_cases ht : tupB v 3 = true
  · cases v <;> simp only [tupB] at ht <;> try cases ht
    rename_i l
    obtain ⟨p, s, r, rfl⟩ := tri_of (by simpa using ht)
    have ht' : tupB (.tup [p, s, r]) 3 = true := rfl
    rw [ht'] at h1
    have n1 := D.na p (hv.mem (by simp))
    have n2 := D.wt s (-1) 1
    have n3 := D.wt r (-1) 1
    have n4 := ks_ok hs C r (hv.mem (by simp))
    cases q1 : nameB p
    · rw [q1] at n1
      simp [kr_B, h1, n1, rowB, q1]
    · rw [q1] at n1
      cases q2 : withinB s (-1) 1
      · rw [q2] at n2
        simp [kr_B, h1, n1, n2, rowB, q1, q2]
      · rw [q2] at n2
        have ho : G.okEq s (.int 0) = true := by simp [G.okEq, (hv.mem (show s ∈ [p, s, r] by simp)).nod, G.flat, G.nod]
        cases q3 : eqP s (.int 0) <;> simp [kr_B, h1, n1, n2, rowB, q1, q2, ho, q3, n3, n4]
  · have hf : tupB v 3 = false := by simpa using ht
    rw [hf] at h1
    have : rowB v = false := by
      unfold rowB
      split
      · simp [tupB] at hf
      · rfl
    simp [kr_B, h1, this]

theorem distL_pre : ∀ (d q : List PV), distL d = false → distL (d ++ q) = false
  | [], q, z => by cases z
  | a :: t, q, z => by
    simp only [distL, Bool.and_eq_false_iff, List.cons_append] at z ⊢
    rcases z with z | z
    · left
      rw [List.all_append, z]; rfl
    · exact .inr (distL_pre t q z)
theorem sw_some : ∀ (r d : List PV), distL d = true → sw d r = if (r.all stB && distL (d ++ r.map mvP)) = true then some (d ++ r.map mvP) else none
  | [], d, h => by simp [sw, h]
  | p :: r, d, h => by
    have hs := distL_snoc (mvP p) d
    rw [h, Bool.true_and] at hs
    change distL (d ++ [mvP p]) = !hasK d (mvP p) at hs
    simp only [sw]
    cases q1 : stB p
    · simp [q1]
    · cases q2 : hasK d (mvP p)
      · rw [q2] at hs
        have ih := sw_some r (d ++ [mvP p]) hs
        simp only [Bool.not_false, Bool.and_self, if_true, ih, List.all_cons, q1, Bool.true_and, List.map_cons, List.append_assoc, List.cons_append, List.nil_append]
      · rw [q2] at hs
        have e := distL_pre (d ++ [mvP p]) (r.map mvP) hs
        simp only [List.append_assoc, List.cons_append, List.nil_append] at e
        simp [q1, e]
theorem stepsB_tup (l : List PV) : stepsB (.tup l) = (decide (1 ≤ l.length) && decide (l.length ≤ 12) && (l.all stB && distL (l.map mvP))) := by
  simp only [stepsB]
  rw [sw_some l [] rfl]
  simp only [List.nil_append]
  split
  · rename_i h; rw [h]; rfl
  · rename_i h
    have : (l.all stB && distL (l.map mvP)) = false := by simpa using h
    rw [this]; rfl
/-! ### the table -/
def plP : PV → PV
  | .tup (p :: _) => p
  | _ => .non
def stsP : PV → List PV
  | .tup [_, s, r] => if eqP s (.int 0) then [] else (match r with | .tup l => l | _ => [])
  | _ => []
def tb (rows : List PV) : List (PV × PV) := rows.map fun r => (plP r, r)
def pls (rows : List PV) : List PV := rows.map plP
theorem dget_tb (k : PV) : ∀ l : List PV, (dget (tb l) k).isSome = hasK (pls l) k
  | [] => rfl
  | a :: r => by
    have ih := dget_tb k r
    unfold dget tb pls hasK at ih ⊢
    rw [List.map_cons, List.map_cons, List.find?_cons, List.any_cons]
    cases h : eqP (plP a) k with
    | true => simp [h]
    | false => simp only [h]; simpa using ih
theorem dset_tb (a : PV) : ∀ {l : List PV}, hasK (pls l) (plP a) = false → dset (tb l) (plP a) a = tb (l ++ [a])
  | [], _ => rfl
  | b :: r, h => by
    unfold hasK pls at h
    rw [List.map_cons, List.any_cons, Bool.or_eq_false_iff] at h
    have ih := dset_tb a (l := r) h.2
    unfold tb at ih ⊢
    simp only [List.map_cons, dset, h.1, List.cons_append, ih]
    rfl
theorem tb_get {r : PV} (hn : nod (plP r) = true) : ∀ {l : List PV}, distL (pls l) = true → r ∈ l → dget (tb l) (plP r) = some r
  | a :: t, hd, h => by
    simp only [pls, List.map_cons, distL, Bool.and_eq_true] at hd
    rcases List.mem_cons.mp h with e | h
    · rw [← e]
      unfold dget tb
      rw [List.map_cons, List.find?_cons]
      simp [eqP_refl _ hn]
    · have h1 := List.all_eq_true.mp hd.1 (plP r) (List.mem_map_of_mem h)
      have h2 : eqP (plP a) (plP r) = false := by simpa using h1
      have ih := tb_get hn (l := t) hd.2 h
      unfold dget tb at ih ⊢
      rw [List.map_cons, List.find?_cons]
      simp only [h2]
      exact ih
theorem tb_fst (l : List PV) : (tb l).map (·.1) = pls l := by simp [tb, pls]
def rk (d : List PV) : List PV → Option (List PV)
  | [] => some d
  | p :: r => if rowB p && !hasK (pls d) (plP p) then rk (d ++ [p]) r else none
theorem rk_some : ∀ (r d : List PV), distL (pls d) = true → rk d r = if (r.all rowB && distL (pls (d ++ r))) = true then some (d ++ r) else none
  | [], d, h => by simp [rk, h]
  | p :: r, d, h => by
    have hs := distL_snoc (plP p) (pls d)
    rw [h, Bool.true_and] at hs
    change distL (pls d ++ [plP p]) = !hasK (pls d) (plP p) at hs
    have e1 : pls d ++ [plP p] = pls (d ++ [p]) := by simp [pls]
    simp only [rk]
    cases q1 : rowB p
    · simp [q1]
    · cases q2 : hasK (pls d) (plP p)
      · rw [q2, e1] at hs
        have ih := rk_some r (d ++ [p]) hs
        simp only [Bool.not_false, Bool.and_self, if_true, ih, List.all_cons, q1, Bool.true_and, List.append_assoc, List.cons_append, List.nil_append]
      · rw [q2] at hs
        have e := distL_pre (pls d ++ [plP p]) (pls r) hs
        have e2 : pls d ++ [plP p] ++ pls r = pls (d ++ p :: r) := by simp [pls]
        rw [e2] at e
        simp [q1, e]
def si_B : List S := [.set (.one 2) (.sub (.var 0) (.var 1)),
    .ite (.cmp .eq (.sub (.var 2) (.con (.int 1))) (.con (.int 0))) [.ret (.tup [])] [],
    .ret (.sub (.var 2) (.con (.int 2)))]
theorem rowB_form {r : PV} (h : rowB r = true) : ∃ p s t, r = .tup [p, s, t] ∧ nameB p = true ∧ withinB s (-1) 1 = true ∧ (if eqP s (.int 0) then withinB t (-1) 1 else stepsB t) = true := by
  unfold rowB at h
  split at h
  · rename_i p s t
    simp only [Bool.and_eq_true] at h
    exact ⟨p, s, t, rfl, h.1, h.2.1, h.2.2⟩
  · cases h
theorem stepsB_form {v : PV} (h : stepsB v = true) : ∃ l, v = .tup l := by
  cases v <;> first | (simp [stepsB] at h; done) | exact ⟨_, rfl⟩
theorem si_ok {n f : Nat} {x : String} (h : P.defs[f]? = some ⟨x, 2, 3, si_B⟩) (T : List (PV × PV)) (k r : PV) (hr : rowB r = true) (hk : keyB 8 k = true) (hg : dget T k = some r) : P.call w (n + 1) f [.dct T, k] = .ok (.tup (stsP r)) := by
  rw [call_at h rfl]
  obtain ⟨p, s, t, rfl, h1, h2, h3⟩ := rowB_form hr
  cases s <;> simp only [withinB] at h2 <;> try cases h2
  rename_i i
  have ho : G.okEq (.int i) (.int 0) = true := by simp [G.okEq, G.flat, G.nod]
  by_cases q : i = 0
  · subst q
    simp [si_B, hk, hg, ixAt, ho, stsP, ofO]
  · rw [if_neg (by simp [q])] at h3
    obtain ⟨l, rfl⟩ := stepsB_form h3
    simp [si_B, hk, hg, ixAt, ho, stsP, ofO, q]
def kg_b0 (rw' : Nat) : List S := [.ite (.or (.not (.call rw' [(.var 4)])) (.cmp .isin (.sub (.var 4) (.con (.int 0))) (.var 3))) [.ret (.con (.bl false))] [],
    .put 3 (.sub (.var 4) (.con (.int 0))) (.var 4)]
def kg_b1 : List S := [.ite (.cmp .nin (.var 7) (.var 3)) [.ret (.con (.bl false))] []]
def kg_b2 (si : Nat) : List S := [.loop (.many [(.one 6), (.one 7), (.one 8)]) (.seq (.call si [(.var 3), (.var 5)])) kg_b1]
def gameS : List Char := ['g', 'a', 'm', 'e']
def kg_B (it nm rw' si : Nat) : List S := [.ite (.or (.not (.call it [(.var 0), (.con (.int 3))])) (.cmp .ne (.sub (.var 0) (.con (.int 0))) (.con (.str gameS)))) [.ret (.con (.bl false))] [],
    .set (.many [(.one 1), (.one 2)]) (.tup [(.sub (.var 0) (.con (.int 1))), (.sub (.var 0) (.con (.int 2)))]),
    .ite (.or (.not (.isi (.var 2) 3)) (.not (.chn .le .le (.con (.int 1)) (.bi .len [(.var 2)]) (.con (.int 600))))) [.ret (.con (.bl false))] [],
    .own 3 (.dct [] []),
    .loop (.one 4) (.seq (.var 2)) (kg_b0 rw'),
    .frz 3,
    .ite (.or (.not (.call nm [(.var 1)])) (.cmp .nin (.var 1) (.var 3))) [.ret (.con (.bl false))] [],
    .loop (.one 5) (.seq (.var 3)) (kg_b2 si),
    .ret (.con (.bl true))]
theorem rows_walk {n f : Nat} (hf : ∀ v, VB v → P.call w n f [v] = .ok (.bl (rowB v))) (v st rs : Slot) (t5 t6 t7 t8 : Slot) : ∀ (r d : List PV) (s4 : Slot), (∀ p ∈ r, VB p) → d.length + r.length ≤ 100000 →
    ∃ s4', forL (denSs P.anc P.nf w (P.call w n) (kg_b0 f)) (asg (.one 4)) r [v, st, rs, .od (tb d), s4, t5, t6, t7, t8] =
      match rk d r with
      | some d' => .nx [v, st, rs, .od (tb d'), s4', t5, t6, t7, t8]
      | none => .rt (.bl false)
  | [], d, s4, _, _ => ⟨s4, rfl⟩
  | p :: r, d, s4, hv, hl => by
    have hp := hv p List.mem_cons_self
    have h1 := hf p hp
    have as1 : asg (.one 4) p [v, st, rs, .od (tb d), s4, t5, t6, t7, t8] = some [v, st, rs, .od (tb d), .sh p, t5, t6, t7, t8] := by simp
    have bad : (rowB p && !hasK (pls d) (plP p)) = false → denSs P.anc P.nf w (P.call w n) (kg_b0 f) [v, st, rs, .od (tb d), .sh p, t5, t6, t7, t8] = .rt (.bl false) →
      ∃ s4', forL (denSs P.anc P.nf w (P.call w n) (kg_b0 f)) (asg (.one 4)) (p :: r) [v, st, rs, .od (tb d), s4, t5, t6, t7, t8] = match rk d (p :: r) with
      | some d' => .nx [v, st, rs, .od (tb d'), s4', t5, t6, t7, t8]
      | none => .rt (.bl false) := fun hb e => ⟨s4, by rw [forL_stop as1 e]; simp only [rk, hb]; rfl⟩
    cases q1 : rowB p
    · rw [q1] at h1
      exact bad (by simp [q1]) (by simp [kg_b0, h1])
    · rw [q1] at h1
      obtain ⟨a, s, t, rfl, g1, g2, g3⟩ := rowB_form q1
      have hk := nameB_key g1
      have ep : plP (.tup [a, s, t]) = a := rfl
      cases q2 : hasK (pls d) a
      · have q2' : (dget (tb d) a).isSome = false := by rw [dget_tb]; exact q2
        have dl : (tb d).length < lineMax := by simp [tb]; simp at hl; unfold lineMax; omega
        have ds : dset (tb d) a (.tup [a, s, t]) = tb (d ++ [.tup [a, s, t]]) := dset_tb (.tup [a, s, t]) q2
        have e2 : denSs P.anc P.nf w (P.call w n) (kg_b0 f) [v, st, rs, .od (tb d), .sh (.tup [a, s, t]), t5, t6, t7, t8] = .nx [v, st, rs, .od (tb (d ++ [.tup [a, s, t]])), .sh (.tup [a, s, t]), t5, t6, t7, t8] := by
          simp [kg_b0, h1, ixAt, hk, q2', ds, dl]
        obtain ⟨s4', W⟩ := rows_walk hf v st rs t5 t6 t7 t8 r (d ++ [.tup [a, s, t]]) (.sh (.tup [a, s, t])) (fun p hp => hv p (List.mem_cons_of_mem _ hp)) (by simp at hl ⊢; omega)
        refine ⟨s4', ?_⟩
        rw [forL_step as1 e2, W]
        simp only [rk, q1, ep, q2, Bool.not_false, Bool.and_self, if_true]
      · have q2' : (dget (tb d) a).isSome = true := by rw [dget_tb]; exact q2
        exact bad (by simp [ep, q2]) (by simp [kg_b0, h1, ixAt, hk, q2'])
def leadB (rows : List PV) : Bool := rows.all fun r => (stsP r).all fun s => hasK (pls rows) (aftP s)
def gameB (v : PV) : Bool := match v with
  | .tup [g, st, .tup rows] => eqP g (.str gameS) && (decide (1 ≤ rows.length) && decide (rows.length ≤ 600)) && (rows.all rowB && distL (pls rows)) && (nameB st && hasK (pls rows) st) && leadB rows
  | _ => false
theorem stB_form {s : PV} (h : stB s = true) : ∃ m a e, s = .tup [m, a, e] ∧ nameB m = true ∧ nameB a = true ∧ withinB e 0 1 = true := by
  unfold stB at h
  split at h
  · rename_i m a e
    simp only [Bool.and_eq_true] at h
    exact ⟨m, a, e, rfl, h.1, h.2.1, h.2.2⟩
  · cases h
theorem sts_st {r : PV} (h : rowB r = true) : ∀ s ∈ stsP r, stB s = true := by
  obtain ⟨p, s, t, rfl, h1, h2, h3⟩ := rowB_form h
  intro x hx
  simp only [stsP] at hx
  split at hx
  · cases hx
  · rename_i q
    rw [if_neg q] at h3
    obtain ⟨l, rfl⟩ := stepsB_form h3
    rw [stepsB_tup] at h3
    simp only [Bool.and_eq_true] at h3
    exact List.all_eq_true.mp h3.2.1 x hx
theorem lead_walk {n si : Nat} {x : String} (hs : P.defs[si]? = some ⟨x, 2, 3, si_B⟩) (rows : List PV) (hr : rows.all rowB = true) (hd : distL (pls rows) = true) (hvb : ∀ r ∈ rows, VB r) (v st rs s4 : Slot) (t : Slot × Slot × Slot × Slot) : ∃ t' : Slot × Slot × Slot × Slot,
    forL (denSs P.anc P.nf w (P.call w (n + 1)) (kg_b2 si)) (asg (.one 5)) (pls rows) [v, st, rs, .sh (.dct (tb rows)), s4, t.1, t.2.1, t.2.2.1, t.2.2.2] =
      if leadB rows then .nx [v, st, rs, .sh (.dct (tb rows)), s4, t'.1, t'.2.1, t'.2.2.1, t'.2.2.2] else .rt (.bl false) := by
  have key : ∀ l : List PV, (∀ r ∈ l, r ∈ rows) → ∀ t : Slot × Slot × Slot × Slot, ∃ t' : Slot × Slot × Slot × Slot, forL (denSs P.anc P.nf w (P.call w (n + 1)) (kg_b2 si)) (asg (.one 5)) (l.map plP) [v, st, rs, .sh (.dct (tb rows)), s4, t.1, t.2.1, t.2.2.1, t.2.2.2] =
      if l.all (fun r => (stsP r).all fun s => hasK (pls rows) (aftP s)) then .nx [v, st, rs, .sh (.dct (tb rows)), s4, t'.1, t'.2.1, t'.2.2.1, t'.2.2.2] else .rt (.bl false) := by
    intro l
    induction l with
    | nil => intro _ t; exact ⟨t, rfl⟩
    | cons r l ih =>
      intro hl t
      have hrm := hl r List.mem_cons_self
      have hrb := List.all_eq_true.mp hr r hrm
      obtain ⟨p, s, q, rfl, g1, g2, g3⟩ := rowB_form hrb
      have hk := nameB_key g1
      have hn : nod p = true := ((hvb _ hrm).mem (show p ∈ [p, s, q] by simp)).nod
      have hg : dget (tb rows) p = some (.tup [p, s, q]) := tb_get (r := .tup [p, s, q]) hn hd hrm
      have hS := si_ok (w := w) (n := n) hs (tb rows) p _ hrb hk hg
      have W := forL_testS (body := denSs P.anc P.nf w (P.call w (n + 1)) kg_b1) (asn := asg (.many [.one 6, .one 7, .one 8])) (mk := fun u : Slot × Slot × Slot => [v, st, rs, .sh (.dct (tb rows)), s4, .sh p, u.1, u.2.1, u.2.2]) (good := fun s => hasK (pls rows) (aftP s)) (res := .bl false) (l := stsP (.tup [p, s, q])) (fun z hz u => by
        obtain ⟨m, a, e, rfl, k1, k2, k3⟩ := stB_form (sts_st hrb z hz)
        have ka := nameB_key k2
        have e1 : (dget (tb rows) a).isSome = hasK (pls rows) a := dget_tb a rows
        refine ⟨_, (.sh m, .sh a, .sh e), rfl, ?_⟩
        cases qq : hasK (pls rows) a <;> rw [qq] at e1 <;> simp [kg_b1, ka, e1, aftP, qq]) (t.2.1, t.2.2.1, t.2.2.2)
      obtain ⟨u, W⟩ := W
      have as1 : asg (.one 5) (plP (.tup [p, s, q])) [v, st, rs, .sh (.dct (tb rows)), s4, t.1, t.2.1, t.2.2.1, t.2.2.2] = some [v, st, rs, .sh (.dct (tb rows)), s4, .sh p, t.2.1, t.2.2.1, t.2.2.2] := by simp [plP]
      rw [List.map_cons, List.all_cons]
      cases qa : (stsP (.tup [p, s, q])).all fun s => hasK (pls rows) (aftP s) with
      | true =>
        rw [qa, if_pos rfl] at W
        obtain ⟨t', W2⟩ := ih (fun r hr => hl r (List.mem_cons_of_mem _ hr)) (.sh p, u)
        refine ⟨t', ?_⟩
        rw [forL_step as1 (e2 := [v, st, rs, .sh (.dct (tb rows)), s4, .sh p, u.1, u.2.1, u.2.2]) (by simp [kg_b2, hS, W]), Bool.true_and]
        exact W2
      | false =>
        rw [qa, if_neg (by simp)] at W
        refine ⟨t, ?_⟩
        rw [forL_stop as1 (r := .bl false) (by simp [kg_b2, hS, W]), Bool.false_and]
        rfl
  exact key rows (fun _ h => h) t
theorem kg_ok {n f it nm wi rw' si : Nat} {x y : String} (h : P.defs[f]? = some ⟨x, 1, 9, kg_B it nm rw' si⟩) (hs : P.defs[si]? = some ⟨y, 2, 3, si_B⟩) (hr : ∀ v, VB v → P.call w (n + 1) rw' [v] = .ok (.bl (rowB v))) (C : Cks P w (n + 1) it nm wi) (v : PV) (hv : VB v) : P.call w (n + 2) f [v] = .ok (.bl (gameB v)) := by
  rw [call_at h rfl]
  have h1 := C.tu v 3
  by_cases ht : tupB v 3 = true
  · cases v <;> simp only [tupB] at ht <;> try cases ht
    rename_i l
    obtain ⟨g, st, rs, rfl⟩ := tri_of (by simpa using ht)
    have ht' : tupB (.tup [g, st, rs]) 3 = true := rfl
    rw [ht'] at h1
    have hg := hv.mem (show g ∈ [g, st, rs] by simp)
    have hst := hv.mem (show st ∈ [g, st, rs] by simp)
    have hrs := hv.mem (show rs ∈ [g, st, rs] by simp)
    have n1 := C.na st hst
    have og : G.okEq g (.str gameS) = true := by simp [G.okEq, hg.nod, G.flat, G.nod]
    cases q1 : eqP g (.str gameS)
    · have e : gameB (.tup [g, st, rs]) = false := by
        cases rs <;> first | rfl | (simp [gameB, q1]; done)
      rw [e]
      simp -implicitDefEqProofs [kg_B, h1, ixAt, og, q1]
    · cases rs <;> try (simp -implicitDefEqProofs [kg_B, h1, ixAt, og, q1, tyTest, gameB]; done)
      rename_i rows
      by_cases ha : 1 ≤ rows.length
      · by_cases hb : rows.length ≤ 600
        · have ha' : (1 : Int) ≤ rows.length := by omega
          have hb' : (rows.length : Int) ≤ 600 := by omega
          obtain ⟨s4, W⟩ := rows_walk hr (.sh (.tup [g, st, .tup rows])) (.sh st) (.sh (.tup rows)) .un .un .un .un rows [] .un (fun p hp => hrs.mem hp) (by simp; omega)
          rw [rk_some rows [] rfl, List.nil_append] at W
          cases q2 : (rows.all rowB && distL (pls rows))
          · rw [q2, if_neg (by simp)] at W
            simp only [tb, List.map_nil] at W
            simp -implicitDefEqProofs [kg_B, h1, ixAt, og, q1, tyTest, gameB, ha', hb', W, q2]
          · rw [q2, if_pos rfl] at W
            simp only [show tb ([] : List PV) = [] from rfl] at W
            have q2' := q2
            simp only [Bool.and_eq_true] at q2'
            have hns : nameB st = true → (dget (tb rows) st).isSome = hasK (pls rows) st := fun _ => dget_tb st rows
            cases q3 : nameB st
            · rw [q3] at n1
              simp -implicitDefEqProofs [kg_B, h1, ixAt, og, q1, tyTest, gameB, ha', hb', W, n1, q3]
            · rw [q3] at n1
              have hk := nameB_key q3
              have e1 := hns q3
              cases q4 : hasK (pls rows) st
              · rw [q4] at e1
                simp -implicitDefEqProofs [kg_B, h1, ixAt, og, q1, tyTest, gameB, ha', hb', W, n1, q3, hk, e1, q4]
              · rw [q4] at e1
                obtain ⟨t', L⟩ := lead_walk (w := w) (n := n) hs rows q2'.1 q2'.2 (fun r hr => hrs.mem hr) (.sh (.tup [g, st, .tup rows])) (.sh st) (.sh (.tup rows)) s4 (.un, .un, .un, .un)
                simp only at L
                cases q5 : leadB rows <;> rw [q5] at L <;> simp -implicitDefEqProofs [kg_B, h1, ixAt, og, q1, tyTest, gameB, ha', hb', W, n1, q3, hk, e1, q4, tb_fst, L, q5, ha, hb, q2'.1, q2'.2] <;> simpa using q2'
        · have hb' : ¬ (rows.length : Int) ≤ 600 := by omega
          simp -implicitDefEqProofs [kg_B, h1, ixAt, og, q1, tyTest, gameB, hb', hb]
      · have ha' : ¬ (1 : Int) ≤ rows.length := by omega
        simp -implicitDefEqProofs [kg_B, h1, ixAt, og, q1, tyTest, gameB, ha', ha]
  · have hf : tupB v 3 = false := by simpa using ht
    rw [hf] at h1
    have : gameB v = false := by
      unfold gameB
      split
      · simp [tupB] at hf
      · rfl
    simp [kg_B, h1, this]
end
end G
namespace G
/-! ### drawn games -/
def lc_B : List S := [.ite (.cmp .lt (.var 1) (.bi .len [(.var 0)])) [.ret (.bi .int [(.sub (.var 0) (.var 1))])] [],
    .ret (.var 1)]
def lr_b0 : List S := [.ite (.var 3) [.app 4 (.bin .mod (.bi .int [(.var 2)]) (.con (.int 1000))),
    .set (.one 2) (.bin .fdiv (.var 2) (.con (.int 1000)))] [.set (.one 6) (.bin .mod (.bi .int [(.bin .mul (.bin .add (.var 2) (.bin .mul (.con (.int 7919)) (.bin .add (.var 5) (.con (.int 1))))) (.con (.int 48271)))]) (.con (.int 100003))),
    .app 4 (.bin .mod (.bi .int [(.bin .mod (.bi .int [(.bin .mul (.var 6) (.var 6))]) (.con (.int 99991)))]) (.con (.int 1000)))]]
def lr_B : List S := [.set (.one 2) (.bi .abs [(.bi .int [(.var 0)])]),
    .set (.one 3) (.cmp .ge (.var 2) (.bin .pow (.con (.int 10)) (.con (.int 18)))),
    .own 4 (.lst []),
    .loop (.one 5) (.rng [(.var 1)]) lr_b0,
    .frz 4,
    .ret (.var 4)]
theorem mul_l {a b : Int} (h : small64 a = true) : mulOk a b = true := by simp only [mulOk, h, Bool.true_or]
theorem mul_r {a b : Int} (h : small64 b = true) : mulOk a b = true := by simp [mulOk, h]
theorem oeq (a b : Int) : okEq (.int a) (.int b) = true := by simp [okEq, flat, nod]
theorem oes (x y : List Char) : okEq (.str x) (.str y) = true := by simp [okEq, flat, nod]
theorem oeb (a b : Bool) : okEq (.bl a) (.bl b) = true := by simp [okEq, flat, nod]
theorem mod_nat (y : Int) (m : Nat) (hm : 0 < m) : ∃ a : Nat, a < m ∧ y % (m : Int) = (a : Int) := ⟨(y % (m : Int)).toNat, by have := Int.emod_nonneg y (b := (m : Int)) (by omega); have := Int.emod_lt_of_pos y (b := (m : Int)) (by omega); omega, by have := Int.emod_nonneg y (b := (m : Int)) (by omega); omega⟩
theorem app_den {P : Prog} {w : Nat} (c : Orc) (a b : List S) (e : Env) : denSs P.anc P.nf w c (a ++ b) e = (denSs P.anc P.nf w c a e).thn (denSs P.anc P.nf w c b) := by
  induction a generalizing e with
  | nil => simp
  | cons s r ih =>
    rw [List.cons_append, Ss_cons, Ss_cons]
    cases denS P.anc P.nf w c s e <;> simp [F.thn, ih]
section
variable {P : Prog} {w : Nat}
theorem lc_ok {n f : Nat} {x : String} (h : P.defs[f]? = some ⟨x, 2, 2, lc_B⟩) (ns : List Int) (k : Nat) : ∃ c, P.call w (n + 1) f [.lst (il ns), .int k] = .ok (.int c) := by
  rw [call_at h rfl]
  by_cases hk : k < ns.length
  · have hk' : (k : Int) < ns.length := by omega
    have e : ixAt (il ns) (k : Int) = some (.int ns[k]) := by rw [ixAt_nat, il_get, List.getElem?_eq_getElem hk]; rfl
    exact ⟨ns[k], by simp [lc_B, hk', e]⟩
  · have hk' : ¬ (k : Int) < ns.length := by omega
    exact ⟨k, by simp [lc_B, hk']⟩
theorem lr_step {n : Nat} (c cn : Slot) (rest : Int) (great : Bool) (l : List Int) (k : Nat) (hl : l.length = k) (hk : k < 10000) (hr : inR 1000 l) (s6 : Slot) : ∃ rest' l' s6', denSs P.anc P.nf w (P.call w n) lr_b0 [c, cn, .sh (.int rest), .sh (.bl great), .ol (il l), .sh (.int (k : Int)), s6] =
    .nx [c, cn, .sh (.int rest'), .sh (.bl great), .ol (il l'), .sh (.int (k : Int)), s6'] ∧ l'.length = k + 1 ∧ inR 1000 l' := by
  have hlt : l.length < lineMax := by unfold lineMax; omega
  have hm := Int.emod_nonneg
  cases great with
  | true => exact ⟨rest / 1000, l ++ [rest % 1000], s6, by simp -implicitDefEqProofs [lr_b0, hlt], by simp [hl], inR_app hr (Int.emod_nonneg _ (by decide)) (Int.emod_lt_of_pos _ (by decide))⟩
  | false =>
    have m1 : mulOk 7919 ((k : Int) + 1) = true := mul_l (by decide)
    have m2 : mulOk (rest + 7919 * ((k : Int) + 1)) 48271 = true := mul_r (by decide)
    have q0 := Int.emod_nonneg ((rest + 7919 * ((k : Int) + 1)) * 48271) (b := 100003) (by decide)
    have q1 := Int.emod_lt_of_pos ((rest + 7919 * ((k : Int) + 1)) * 48271) (b := 100003) (by decide)
    generalize hx : (rest + 7919 * ((k : Int) + 1)) * 48271 % 100003 = x at *
    have m3 : mulOk x x = true := mul_l (small_ok q0 (by omega))
    exact ⟨rest, l ++ [x * x % 99991 % 1000], .sh (.int x), by simp -implicitDefEqProofs [lr_b0, hlt, m1, m2, m3, hx], by simp [hl], inR_app hr (Int.emod_nonneg _ (by decide)) (Int.emod_lt_of_pos _ (by decide))⟩
theorem lr_ok {n f : Nat} {x : String} (h : P.defs[f]? = some ⟨x, 2, 7, lr_B⟩) (c : Int) (m : Nat) (hm : m ≤ 1000) : ∃ ds, P.call w (n + 1) f [.int c, .int (m : Int)] = .ok (.lst (il ds)) ∧ ds.length = m ∧ inR 1000 ds := by
  rw [call_at h rfl]
  have p18 : (10 : Int) ^ 18 = 1000000000000000000 := by decide
  have s10 : small64 10 = true := by decide
  have rm : rngOk (m : Int) = true := by simp [rngOk]; omega
  obtain ⟨r0, hr0⟩ : ∃ r, biAbs (.int c) = .ok (.int r) := ⟨_, rfl⟩
  have L := forL_inv (body := denSs P.anc P.nf w (P.call w n) lr_b0) (asn := asg (.one 5)) (fun k e => ∃ rest l s5 s6, e = [.sh (.int c), .sh (.int m), .sh (.int rest), .sh (.bl (decide ((10 : Int) ^ 18 ≤ r0))), .ol (il l), s5, s6] ∧ l.length = k ∧ inR 1000 l) (range1 0 m) 0
    [.sh (.int c), .sh (.int m), .sh (.int r0), .sh (.bl (decide ((10 : Int) ^ 18 ≤ r0))), .ol [], .un, .un] ⟨r0, [], .un, .un, rfl, rfl, fun _ h => nomatch h⟩ (fun i p hp e he => by
      obtain ⟨rest, l, s5, s6, rfl, g1, g2⟩ := he
      obtain ⟨hp1, hp2⟩ := range1_get hp
      rw [Int.zero_add] at hp1 hp2
      subst hp1
      obtain ⟨rest', l', s6', W, g3, g4⟩ := lr_step (P := P) (w := w) (n := n) (.sh (.int c)) (.sh (.int m)) rest (decide ((10 : Int) ^ 18 ≤ r0)) l i (by omega) (by omega) g2 s6
      exact ⟨_, _, rfl, W, rest', l', _, s6', rfl, by omega, g4⟩)
  obtain ⟨e, l1, rest, l, s5, s6, rfl, g1, g2⟩ := L
  rw [range1_len] at g1
  refine ⟨l, ?_, by omega, g2⟩
  simp -implicitDefEqProofs [-abs_int, -Int.reducePow, lr_B, hr0, s10, rm, l1]
/-! the parts -/
def deeds : List PV := [.str ['x'], .str ['g', 'o'], .str ['m', '1'], .tup [.str ['x'], .int 1], .str ['y', 'y'], .tup [.str ['k'], .tup [.str ['x'], .int 0]]]
def gwords : List PV := [.str ['a'], .str ['b', 'c'], .str ['d', '1', '0'], .tup [.str ['a'], .int 0], .tup [.str ['p'], .tup [.str ['q'], .int 3]], .str ['z', 'z', '9'], .tup [.str ['a'], .int 1]]
def ls_b0 : List S := [.set (.one 8) (.sub (.var 1) (.bin .add (.con (.int 1)) (.var 7))),
    .app 6 (.tup [(.sub (.var 2) (.bin .mod (.bi .int [(.bin .add (.bin .fdiv (.sub (.var 1) (.con (.int 0))) (.con (.int 21))) (.var 7))]) (.con (.int 6)))), (.sub (.var 0) (.bin .mod (.bi .int [(.var 8)]) (.var 5))), (.bin .mod (.bi .int [(.bin .fdiv (.var 8) (.var 5))]) (.con (.int 2)))])]
def ls_B : List S := [.set (.one 2) (.lst [(.con (.str ['x'])), (.con (.str ['g', 'o'])), (.con (.str ['m', '1'])), (.tup [(.con (.str ['x'])), (.con (.int 1))]), (.con (.str ['y', 'y'])), (.tup [(.con (.str ['k'])), (.tup [(.con (.str ['x'])), (.con (.int 0))])])]),
    .set (.one 3) (.bin .mod (.bi .int [(.sub (.var 1) (.con (.int 0)))]) (.con (.int 7))),
    .ite (.cmp .lt (.var 3) (.con (.int 2))) [.ret (.tup [(.con (.int 0)), (.bin .sub (.bin .mod (.bi .int [(.bin .fdiv (.sub (.var 1) (.con (.int 0))) (.con (.int 7)))]) (.con (.int 3))) (.con (.int 1)))])] [],
    .set (.one 4) (.con (.int 1)),
    .ite (.cmp .gt (.var 3) (.con (.int 4))) [.set (.one 4) (.neg (.con (.int 1)))] [],
    .set (.one 5) (.bi .len [(.var 0)]),
    .own 6 (.lst []),
    .loop (.one 7) (.rng [(.bin .add (.con (.int 1)) (.bin .mod (.bi .int [(.bin .fdiv (.sub (.var 1) (.con (.int 0))) (.con (.int 7)))]) (.con (.int 3))))]) ls_b0,
    .frz 6,
    .ret (.tup [(.var 4), (.bi .tuple [(.var 6)])])]
def dAt (i : Nat) : PV := (deeds[i % 6]?).getD .non
def wAt (i : Nat) : PV := (gwords[i % 7]?).getD .non
def StpOk (ps l : List PV) : Prop := 1 ≤ l.length ∧ l.length ≤ 3 ∧ (∀ s ∈ l, ∃ d a e, s = .tup [d, a, .int e] ∧ d ∈ deeds ∧ a ∈ ps ∧ (e = 0 ∨ e = 1)) ∧ distL (l.map mvP) = true
def RestOk (ps : List PV) (s : Int) (r : PV) : Prop := (s = 0 ∧ ∃ e : Int, r = .int e ∧ -1 ≤ e ∧ e ≤ 1) ∨ ((s = 1 ∨ s = -1) ∧ ∃ l, r = .tup l ∧ StpOk ps l)
theorem deeds_dist (a m : Nat) (hm : m ≤ 3) : distL ((List.range m).map fun j => dAt (a + j)) = true := by
  have e : (fun j => dAt (a + j)) = fun j => dAt (a % 6 + j) := by
    funext j
    simp only [dAt]
    rw [show (a + j) % 6 = (a % 6 + j) % 6 by omega]
  rw [e]
  have : ∀ a : Fin 6, ∀ m : Fin 4, distL ((List.range m.val).map fun j => dAt (a.val + j)) = true := by decide +kernel
  exact this ⟨a % 6, Nat.mod_lt _ (by decide)⟩ ⟨m, by omega⟩
theorem words_dist (a m : Nat) (hm : m ≤ 7) : distL ((List.range m).map fun j => wAt (a + j)) = true := by
  have e : (fun j => wAt (a + j)) = fun j => wAt (a % 7 + j) := by
    funext j
    simp only [wAt]
    rw [show (a + j) % 7 = (a % 7 + j) % 7 by omega]
  rw [e]
  have : ∀ a : Fin 7, ∀ m : Fin 8, distL ((List.range m.val).map fun j => wAt (a.val + j)) = true := by decide +kernel
  exact this ⟨a % 7, Nat.mod_lt _ (by decide)⟩ ⟨m, by omega⟩
theorem dAt_mem (i : Nat) : dAt i ∈ deeds := by
  have h : i % 6 < deeds.length := Nat.mod_lt _ (by decide)
  simp only [dAt, List.getElem?_eq_getElem h, Option.getD_some]
  exact List.getElem_mem h
theorem wAt_mem (i : Nat) : wAt i ∈ gwords := by
  have h : i % 7 < gwords.length := Nat.mod_lt _ (by decide)
  simp only [wAt, List.getElem?_eq_getElem h, Option.getD_some]
  exact List.getElem_mem h
theorem ix_d (y : Int) (a : Nat) (h : y = (a : Int)) : ixAt deeds (y % 6) = some (dAt a) := by
  have : y % 6 = ((a % 6 : Nat) : Int) := by omega
  have h2 : a % 6 < deeds.length := Nat.mod_lt _ (by decide)
  rw [this, ixAt_nat, List.getElem?_eq_getElem h2]
  simp only [dAt, List.getElem?_eq_getElem h2, Option.getD_some]
theorem ix_w (y : Int) (a : Nat) (h : y = (a : Int)) : ixAt gwords (y % 7) = some (wAt a) := by
  have : y % 7 = ((a % 7 : Nat) : Int) := by omega
  have h2 : a % 7 < gwords.length := Nat.mod_lt _ (by decide)
  rw [this, ixAt_nat, List.getElem?_eq_getElem h2]
  simp only [wAt, List.getElem?_eq_getElem h2, Option.getD_some]
theorem ix_mod {l : List PV} {m : Nat} (hl : l.length = m) (hm : 0 < m) (y : Int) : ∃ p, ixAt l (y % (m : Int)) = some p ∧ p ∈ l := by
  obtain ⟨a, ha, e⟩ := mod_nat y m hm
  rw [e, ixAt_nat]
  have : a < l.length := by omega
  exact ⟨l[a], List.getElem?_eq_getElem this, List.getElem_mem this⟩
theorem ls_step {n : Nat} (ps : List PV) (hps : 1 ≤ ps.length ∧ ps.length ≤ 7) (ns : List Int) (hn : ns.length = 4) (hr : inR 1000 ns) (q : Nat) (hq : ∃ x, ixAt (il ns) 0 = some (.int x) ∧ x / 21 = (q : Int)) (l : List PV) (k : Nat) (hk : k < 3) (hl : l.length = k) (s3 s4 s8 : Slot) :
    ∃ p s8', denSs P.anc P.nf w (P.call w n) ls_b0 [.sh (.lst ps), .sh (.lst (il ns)), .sh (.lst deeds), s3, s4, .sh (.int ps.length), .ol l, .sh (.int (k : Int)), s8] =
      .nx [.sh (.lst ps), .sh (.lst (il ns)), .sh (.lst deeds), s3, s4, .sh (.int ps.length), .ol (l ++ [p]), .sh (.int (k : Int)), s8'] ∧
      ∃ a e, p = .tup [dAt (q + k), a, .int e] ∧ a ∈ ps ∧ (e = 0 ∨ e = 1) := by
  obtain ⟨x0, i0, e0⟩ := hq
  obtain ⟨y, i1, -, y0, y1⟩ := il_at hr (i := 1 + (k : Int)) (by omega) (by omega)
  obtain ⟨a, ha, hap⟩ := ix_mod (l := ps) rfl (by omega) y
  have hd := ix_d (x0 / 21 + (k : Int)) (q + k) (by omega)
  have hlt : l.length < lineMax := by unfold lineMax; omega
  have hp : (0 : Int) < (ps.length : Int) := by omega
  have hp2 : (ps.length : Int) < 1073741824 := by omega
  have hpn : 0 < ps.length := by omega
  have hne : ¬ ps = [] := fun z => by rw [z] at hpn; simp at hpn
  generalize deeds = D at *
  refine ⟨.tup [dAt (q + k), a, .int (y / (ps.length : Int) % 2)], .sh (.int y), ?_, a, _, rfl, hap, by omega⟩
  simp -implicitDefEqProofs [ls_b0, i0, i1, hd, hp, hp2, hpn, ha, hlt, hne]
theorem ls_ok {n f : Nat} {x : String} (h : P.defs[f]? = some ⟨x, 2, 9, ls_B⟩) (ps : List PV) (hps : 1 ≤ ps.length ∧ ps.length ≤ 7) (ns : List Int) (hn : ns.length = 4) (hr : inR 1000 ns) : ∃ s r, P.call w (n + 1) f [.lst ps, .lst (il ns)] = .ok (.tup [.int s, r]) ∧ RestOk ps s r := by
  rw [call_at h rfl]
  obtain ⟨x0, i0, -, x1, x2⟩ := il_at hr (i := 0) (by omega) (by omega)
  by_cases h2 : x0 % 7 < 2
  · refine ⟨0, .int (x0 / 7 % 3 - 1), ?_, .inl ⟨rfl, _, rfl, by omega, by omega⟩⟩
    simp -implicitDefEqProofs [ls_B, i0, h2]
  · obtain ⟨q, hq⟩ := Int.eq_ofNat_of_zero_le (show 0 ≤ x0 / 21 by omega)
    obtain ⟨m, hm⟩ := Int.eq_ofNat_of_zero_le (show 0 ≤ 1 + x0 / 7 % 3 by omega)
    have hm3 : 1 ≤ m ∧ m ≤ 3 := by omega
    obtain ⟨sd, hsd, hs4⟩ : ∃ sd : Int, (sd = 1 ∨ sd = -1) ∧ sd = if x0 % 7 > 4 then -1 else 1 := by
      by_cases h4 : x0 % 7 > 4
      · exact ⟨-1, .inr rfl, by rw [if_pos h4]⟩
      · exact ⟨1, .inl rfl, by rw [if_neg h4]⟩
    have L := forL_inv (body := denSs P.anc P.nf w (P.call w n) ls_b0) (asn := asg (.one 7)) (fun k e => ∃ l s7 s8, e = [.sh (.lst ps), .sh (.lst (il ns)), .sh (.lst deeds), .sh (.int (x0 % 7)), .sh (.int sd), .sh (.int ps.length), .ol l, s7, s8] ∧ l.length = k ∧ (∀ s ∈ l, ∃ d a e, s = .tup [d, a, .int e] ∧ d ∈ deeds ∧ a ∈ ps ∧ (e = 0 ∨ e = 1)) ∧ l.map mvP = (List.range k).map fun j => dAt (q + j)) (range1 0 m) 0
      [.sh (.lst ps), .sh (.lst (il ns)), .sh (.lst deeds), .sh (.int (x0 % 7)), .sh (.int sd), .sh (.int ps.length), .ol [], .un, .un] ⟨[], .un, .un, rfl, rfl, (fun _ h => nomatch h), rfl⟩ (fun i p hp e he => by
        obtain ⟨l, s7, s8, rfl, g1, g2, g3⟩ := he
        obtain ⟨hp1, hp2⟩ := range1_get hp
        rw [Int.zero_add] at hp1 hp2
        subst hp1
        rw [Nat.zero_add] at g1 g3
        obtain ⟨p, s8', W, a, e, rfl, k1, k2⟩ := ls_step (P := P) (w := w) (n := n) ps hps ns hn hr q ⟨x0, i0, hq⟩ l i (by omega) g1 (.sh (.int (x0 % 7))) (.sh (.int sd)) s8
        refine ⟨_, _, rfl, W, _, _, s8', rfl, by simp [g1], fun s hs => ?_, ?_⟩
        · rcases List.mem_append.mp hs with hs | hs
          · exact g2 s hs
          · rw [List.mem_singleton] at hs
            exact ⟨_, _, _, hs, dAt_mem _, k1, k2⟩
        · rw [List.map_append, g3, Nat.zero_add, List.range_succ, List.map_append]
          rfl)
    obtain ⟨e, l1, l, s7, s8, rfl, g1, g2, g3⟩ := L
    rw [range1_len] at g1 g3
    have g1' : l.length = m := by omega
    have g3' : l.map mvP = (List.range m).map fun j => dAt (q + j) := by
      have e : (0 + ((m : Int) - 0).toNat) = m := by omega
      rw [e] at g3
      exact g3
    refine ⟨sd, .tup l, ?_, .inr ⟨hsd, l, rfl, by omega, by omega, g2, by rw [g3']; exact deeds_dist q m hm3.2⟩⟩
    have rm : rngOk (m : Int) = true := by simp [rngOk]; omega
    have hll : l.length ≤ lineMax := by unfold lineMax; omega
    unfold deeds at l1
    by_cases h4 : x0 % 7 > 4
    · rw [if_pos h4] at hs4
      subst hs4
      simp -implicitDefEqProofs [ls_B, i0, h2, h4, hm, rm, l1]
    · rw [if_neg h4] at hs4
      subst hs4
      simp -implicitDefEqProofs [ls_B, i0, h2, h4, hm, rm, l1]

def lg_b0 (f : Nat) : List S := [.set (.one 6) (.call f [(.var 3), (.slc (.var 0) (some (.bin .add (.con (.int 2)) (.bin .mul (.con (.int 4)) (.var 4)))) (some (.bin .add (.con (.int 6)) (.bin .mul (.con (.int 4)) (.var 4)))))]),
    .app 5 (.tup [(.sub (.var 3) (.var 4)), (.sub (.var 6) (.con (.int 0))), (.sub (.var 6) (.con (.int 1)))])]
def lg_B (f : Nat) : List S := [.set (.one 1) (.lst [(.con (.str ['a'])), (.con (.str ['b', 'c'])), (.con (.str ['d', '1', '0'])), (.tup [(.con (.str ['a'])), (.con (.int 0))]), (.tup [(.con (.str ['p'])), (.tup [(.con (.str ['q'])), (.con (.int 3))])]), (.con (.str ['z', 'z', '9'])), (.tup [(.con (.str ['a'])), (.con (.int 1))])]),
    .set (.one 2) (.bin .add (.con (.int 1)) (.bin .mod (.bi .int [(.sub (.var 0) (.con (.int 0)))]) (.con (.int 7)))),
    .set (.one 3) (.lc [4] (.one 4) (.rng [(.var 2)]) none (.sub (.var 1) (.bin .mod (.bi .int [(.bin .add (.var 4) (.sub (.var 0) (.con (.int 1))))]) (.con (.int 7))))),
    .own 5 (.lst []),
    .loop (.one 4) (.rng [(.var 2)]) (lg_b0 f),
    .frz 5,
    .ret (.tup [(.con (.str ['g', 'a', 'm', 'e'])), (.sub (.var 3) (.bin .mod (.bi .int [(.bin .fdiv (.sub (.var 0) (.con (.int 1))) (.con (.int 7)))]) (.var 2))), (.bi .tuple [(.var 5)])])]
/-- a drawn game: its start and its rows -/
structure DG (st : PV) (rows : List PV) : Prop where
  n1 : 1 ≤ rows.length
  n7 : rows.length ≤ 7
  row : ∀ r ∈ rows, ∃ p s t, r = .tup [p, .int s, t] ∧ p ∈ gwords ∧ RestOk (pls rows) s t
  dist : distL (pls rows) = true
  start : st ∈ pls rows
theorem cut_both {α : Type} (l : List α) (a b : Nat) (ha : a ≤ l.length) (hb : b ≤ l.length) : cut l (some (a : Int)) (some (b : Int)) = (l.drop a).take (b - a) := by
  have h1 : cl l.length 0 (some (a : Int)) = a := by
    show (if (a : Int) < 0 then ((a : Int) + l.length).toNat else min (a : Int).toNat l.length) = _
    rw [if_neg (by omega), Int.toNat_natCast]
    omega
  have h2 : cl l.length l.length (some (b : Int)) = b := by
    show (if (b : Int) < 0 then ((b : Int) + l.length).toNat else min (b : Int).toNat l.length) = _
    rw [if_neg (by omega), Int.toNat_natCast]
    omega
  unfold cut
  rw [h1, h2]
theorem lg_ok {n f g : Nat} {x y : String} (h : P.defs[f]? = some ⟨x, 1, 7, lg_B g⟩) (hg : P.defs[g]? = some ⟨y, 2, 9, ls_B⟩) (ds : List Int) (hd : ds.length = 30) (hr : inR 1000 ds) : ∃ st rows, P.call w (n + 2) f [.lst (il ds)] = .ok (.tup [.str gameS, st, .tup rows]) ∧ DG st rows := by
  rw [call_at h rfl]
  obtain ⟨x0, i0, -, x1, x2⟩ := il_at hr (i := 0) (by omega) (by omega)
  obtain ⟨y0, i1, -, y1, y2⟩ := il_at hr (i := 1) (by omega) (by omega)
  obtain ⟨a, ha, ea⟩ := mod_nat x0 7 (by decide)
  simp only [Int.cast_ofNat_Int] at ea
  obtain ⟨b, rfl⟩ := Int.eq_ofNat_of_zero_le y1
  obtain ⟨ps, hps⟩ : ∃ ps, ps = (List.range (1 + a)).map fun j => wAt (b + j) := ⟨_, rfl⟩
  have pl : ps.length = 1 + a := by rw [hps]; simp
  have pw : ∀ p ∈ ps, p ∈ gwords := fun p hp => by
    rw [hps] at hp
    obtain ⟨j, -, rfl⟩ := List.mem_map.mp hp
    exact wAt_mem _
  have pd : distL ps = true := by rw [hps]; exact words_dist b (1 + a) (by omega)
  have L0 : lcL (asg (.one 4)) (tstQ (P.call w (n + 1)) P.anc none) (eltF (P.call w (n + 1)) P.anc (.sub (.var 1) (.bin .mod (.bi .int [(.bin .add (.var 4) (.sub (.var 0) (.con (.int 1))))]) (.con (.int 7))))) [.sh (.lst (il ds)), .sh (.lst gwords), .sh (.int (1 + (a : Int))), .un, .un, .un, .un] (range1 0 (1 + (a : Int))) = .ok ps := by
    rw [show (1 + (a : Int)) = ((1 + a : Nat) : Int) by omega, range1_nat, hps]
    refine lcL_fn (f := fun k : Nat => PV.int (k : Int)) (g := fun j => wAt (b + j)) fun k hk => ?_
    have hx := ix_w ((k : Int) + (b : Int)) (b + k) (by omega)
    refine ⟨_, rfl, rfl, ?_⟩
    generalize gwords = W at *
    simp -implicitDefEqProofs [eltF, i1, hx]
  have key : ∀ k : Nat, k < 1 + a → ∃ s r, P.call w (n + 1) g [.lst ps, .lst (il ((ds.drop (2 + 4 * k)).take 4))] = .ok (.tup [.int s, r]) ∧ RestOk ps s r := fun k hk =>
    ls_ok hg ps (by omega) _ (by simp; omega) (fun d hd' => hr d (List.mem_of_mem_drop (List.mem_of_mem_take hd')))
  have L := forL_inv (body := denSs P.anc P.nf w (P.call w (n + 1)) (lg_b0 g)) (asn := asg (.one 4)) (fun k e => ∃ rows s4 s6, e = [.sh (.lst (il ds)), .sh (.lst gwords), .sh (.int (1 + (a : Int))), .sh (.lst ps), s4, .ol rows, s6] ∧ rows.length = k ∧ pls rows = ps.take k ∧ ∀ r ∈ rows, ∃ p s t, r = .tup [p, .int s, t] ∧ p ∈ gwords ∧ RestOk ps s t) (range1 0 (1 + (a : Int))) 0
    [.sh (.lst (il ds)), .sh (.lst gwords), .sh (.int (1 + (a : Int))), .sh (.lst ps), .un, .ol [], .un] ⟨[], .un, .un, rfl, rfl, rfl, fun _ h => nomatch h⟩ (fun i p hp e he => by
      obtain ⟨rows, s4, s6, rfl, g1, g2, g3⟩ := he
      obtain ⟨hp1, hp2⟩ := range1_get hp
      rw [Int.zero_add] at hp1 hp2
      subst hp1
      rw [Nat.zero_add] at g1 g2
      have hi : i < 1 + a := by omega
      obtain ⟨s, r, hc, hR⟩ := key i hi
      have hpi : i < ps.length := by omega
      have hix : ixAt ps (i : Int) = some ps[i] := by rw [ixAt_nat, List.getElem?_eq_getElem hpi]
      have hiq : ps[i]? = some ps[i] := List.getElem?_eq_getElem hpi
      have m4 : mulOk 4 (i : Int) = true := mul_l (by decide)
      have hc1 : cut (il ds) (some (2 + 4 * (i : Int))) (some (6 + 4 * (i : Int))) = il ((ds.drop (2 + 4 * i)).take 4) := by
        rw [show (2 + 4 * (i : Int)) = ((2 + 4 * i : Nat) : Int) by omega, show (6 + 4 * (i : Int)) = ((6 + 4 * i : Nat) : Int) by omega, cut_both _ _ _ (by simp; omega) (by simp; omega), show 6 + 4 * i - (2 + 4 * i) = 4 by omega]
        simp [il, List.map_take, List.map_drop]
      have hlt : rows.length < lineMax := by unfold lineMax; omega
      have hm : ps[i] ∈ ps := List.getElem_mem hpi
      refine ⟨_, [.sh (.lst (il ds)), .sh (.lst gwords), .sh (.int (1 + (a : Int))), .sh (.lst ps), .sh (.int (i : Int)), .ol (rows ++ [.tup [ps[i], .int s, r]]), .sh (.tup [.int s, r])], rfl, ?_, _, _, _, rfl, by simp [g1], ?_, ?_⟩
      · generalize ps[i] = pk at *
        generalize gwords = W at *
        simp -implicitDefEqProofs [lg_b0, m4, hc1, hc, hiq, hlt, ixAt]
      · have e1 : pls (rows ++ [.tup [ps[i], .int s, r]]) = pls rows ++ [ps[i]] := by simp [pls, plP]
        rw [e1, g2, Nat.zero_add, List.take_add_one, List.getElem?_eq_getElem hpi]
        rfl
      · intro r' hr'
        rcases List.mem_append.mp hr' with hr' | hr'
        · exact g3 r' hr'
        · rw [List.mem_singleton] at hr'
          exact ⟨_, _, _, hr', pw _ hm, hR⟩)
  obtain ⟨e, l1, rows, s4, s6, rfl, g1, g2, g3⟩ := L
  rw [range1_len] at g1 g2
  have g1' : rows.length = 1 + a := by omega
  have g2' : pls rows = ps := by rw [g2, List.take_of_length_le (by omega)]
  obtain ⟨st, hst, hsm⟩ := ix_mod pl (by omega) ((b : Int) / 7)
  rw [show ((1 + a : Nat) : Int) = 1 + (a : Int) by omega] at hst
  refine ⟨st, rows, ?_, ⟨by omega, by omega, by rw [g2']; exact g3, by rw [g2']; exact pd, by rw [g2']; exact hsm⟩⟩
  have r1 : rngOk (1 + (a : Int)) = true := by simp [rngOk]; omega
  have h0 : (0 : Int) < 1 + (a : Int) := by omega
  have h1 : (1 : Int) + (a : Int) < 1073741824 := by omega
  have hpl : ps.length < lineMax := by unfold lineMax; omega
  unfold gwords at L0 l1
  clear g2 g3 key
  simp -implicitDefEqProofs [lg_B, i0, ea, r1, L0, hpl, l1, i1, h0, h1, hst, gameS]
/-! what a drawn game is -/
theorem gwords_nm : ∀ p ∈ gwords, nameB p = true ∧ meas p ≤ 6 ∧ dep p ≤ 2 := by decide +kernel
theorem deeds_nm : ∀ p ∈ deeds, nameB p = true ∧ meas p ≤ 6 ∧ dep p ≤ 2 := by decide +kernel
theorem DG.pw {st : PV} {rows : List PV} (h : DG st rows) : ∀ p ∈ pls rows, p ∈ gwords := by
  intro p hp
  obtain ⟨r, hr, rfl⟩ := List.mem_map.mp hp
  obtain ⟨p, s, t, rfl, h1, -⟩ := h.row r hr
  exact h1
theorem StpOk.steps {ps l : List PV} (hp : ∀ p ∈ ps, p ∈ gwords) (h : StpOk ps l) : stepsB (.tup l) = true ∧ meas (.tup l) ≤ 46 ∧ dep (.tup l) ≤ 4 := by
  obtain ⟨h1, h2, h3, h4⟩ := h
  have hs : ∀ s ∈ l, stB s = true ∧ meas s ≤ 15 ∧ dep s ≤ 3 := by
    intro s hs
    obtain ⟨d, a, e, rfl, k1, k2, k3⟩ := h3 s hs
    obtain ⟨d1, d2, d3⟩ := deeds_nm d k1
    obtain ⟨a1, a2, a3⟩ := gwords_nm a (hp a k2)
    have he : e.natAbs < 1000000 := by omega
    refine ⟨?_, ?_, ?_⟩
    · simp only [stB, d1, a1, withinB_int, Bool.true_and]
      simp; omega
    · rw [meas_tup, measL_cons, measL_cons, measL_cons, measL_nil, meas_int, if_pos he]; omega
    · rw [dep_tup, depL_cons, depL_cons, depL_cons, depL_nil, dep_int]; omega
  have m := measL_le (k := 15) fun s h => (hs s h).2.1
  have d := depL_le (k := 3) fun s h => (hs s h).2.2
  refine ⟨?_, by rw [meas_tup]; omega, by rw [dep_tup]; omega⟩
  rw [stepsB_tup, h4, List.all_eq_true.mpr fun s h => (hs s h).1]
  simp; omega
theorem RestOk.row {ps : List PV} (hp : ∀ p ∈ ps, p ∈ gwords) {p t : PV} {s : Int} (hw : p ∈ gwords) (h : RestOk ps s t) : rowB (.tup [p, .int s, t]) = true ∧ meas (.tup [p, .int s, t]) ≤ 60 ∧ dep (.tup [p, .int s, t]) ≤ 6 := by
  obtain ⟨a1, a2, a3⟩ := gwords_nm p hw
  rcases h with ⟨rfl, e, rfl, h1, h2⟩ | ⟨hs, l, rfl, hl⟩
  · have he : e.natAbs < 1000000 := by omega
    refine ⟨?_, ?_, ?_⟩
    · simp [rowB, a1]; omega
    · rw [meas_tup, measL_cons, measL_cons, measL_cons, measL_nil, meas_int, meas_int, if_pos he]; simp; omega
    · rw [dep_tup, depL_cons, depL_cons, depL_cons, depL_nil, dep_int, dep_int]; omega
  · obtain ⟨b1, b2, b3⟩ := hl.steps hp
    have he : s.natAbs < 1000000 := by omega
    refine ⟨?_, ?_, ?_⟩
    · have : ¬ s = 0 := by omega
      simp [rowB, a1, b1, this]; omega
    · rw [meas_tup, measL_cons, measL_cons, measL_cons, measL_nil, meas_int, if_pos he]; omega
    · rw [dep_tup, depL_cons, depL_cons, depL_cons, depL_nil, dep_int]; omega
theorem hasK_mem {l : List PV} {p : PV} (h : p ∈ l) (hn : nod p = true) : hasK l p = true := List.any_eq_true.mpr ⟨p, h, eqP_refl p hn⟩
theorem gw_nod {p : PV} (h : p ∈ gwords) : nod p = true := meas_nod p (by have := (gwords_nm p h).2.1; omega)
theorem DG.rows_ok {st : PV} {rows : List PV} (h : DG st rows) : ∀ r ∈ rows, rowB r = true ∧ meas r ≤ 60 ∧ dep r ≤ 6 := by
  intro r hr
  obtain ⟨p, s, t, rfl, h1, h2⟩ := h.row r hr
  exact h2.row h.pw h1
theorem DG.leads {st : PV} {rows : List PV} (h : DG st rows) : ∀ r ∈ rows, ∀ s ∈ stsP r, aftP s ∈ pls rows := by
  intro r hr s hs
  obtain ⟨p, sd, t, rfl, h1, h2⟩ := h.row r hr
  rcases h2 with ⟨rfl, e, rfl, -, -⟩ | ⟨hsd, l, rfl, -, -, hl, -⟩
  · simp [stsP] at hs
  · have : ¬ sd = 0 := by omega
    simp [stsP, this] at hs
    obtain ⟨d, a, e, rfl, -, k, -⟩ := hl s hs
    exact k
theorem DG.game {st : PV} {rows : List PV} (h : DG st rows) : gameB (.tup [.str gameS, st, .tup rows]) = true := by
  have h1 : rows.all rowB = true := List.all_eq_true.mpr fun r hr => (h.rows_ok r hr).1
  have hs := h.pw _ h.start
  have h2 : leadB rows = true := List.all_eq_true.mpr fun r hr => List.all_eq_true.mpr fun s hs => hasK_mem (h.leads r hr s hs) (gw_nod (h.pw _ (h.leads r hr s hs)))
  have := h.n1
  have := h.n7
  simp [gameB, h1, h.dist, (gwords_nm st hs).1, hasK_mem h.start (gw_nod hs), h2]
  omega
theorem DG.vb {st : PV} {rows : List PV} (h : DG st rows) : VB (.tup [.str gameS, st, .tup rows]) ∧ meas (.tup [.str gameS, st, .tup rows]) ≤ 430 ∧ dep (.tup [.str gameS, st, .tup rows]) ≤ 8 := by
  have m := measL_le (k := 60) fun r hr => (h.rows_ok r hr).2.1
  have d := depL_le (k := 6) fun r hr => (h.rows_ok r hr).2.2
  have s := gwords_nm st (h.pw _ h.start)
  have := h.n7
  have e : meas (.str gameS) = 1 := by rw [meas_str, if_pos (by decide)]
  have a : meas (.tup [.str gameS, st, .tup rows]) ≤ 430 := by rw [meas_tup, measL_cons, measL_cons, measL_cons, measL_nil, meas_tup, e]; omega
  have b : dep (.tup [.str gameS, st, .tup rows]) ≤ 8 := by rw [dep_tup, depL_cons, depL_cons, depL_cons, depL_nil, dep_tup, dep_str]; omega
  exact ⟨⟨by omega, by omega⟩, a, b⟩
end
end G
namespace G
/-! ### values of tuples alone -/
mutual
def tupy : PV → Bool
  | .non | .bl _ | .int _ | .str _ => true
  | .tup l => tupyL l
  | .lst _ | .dct _ => false
def tupyL : List PV → Bool
  | [] => true
  | a :: r => tupy a && tupyL r
end
@[simp] theorem tupy_non : tupy .non = true := by simp only [tupy]
@[simp] theorem tupy_bl (b : Bool) : tupy (.bl b) = true := by simp only [tupy]
@[simp] theorem tupy_int (b : Int) : tupy (.int b) = true := by simp only [tupy]
@[simp] theorem tupy_str (b : List Char) : tupy (.str b) = true := by simp only [tupy]
@[simp] theorem tupy_tup (l : List PV) : tupy (.tup l) = tupyL l := by simp only [tupy]
@[simp] theorem tupyL_nil : tupyL [] = true := by simp only [tupyL]
@[simp] theorem tupyL_cons (a : PV) (r : List PV) : tupyL (a :: r) = (tupy a && tupyL r) := by simp only [tupyL]
theorem tupyL_iff : ∀ {l : List PV}, tupyL l = true ↔ ∀ p ∈ l, tupy p = true
  | [] => by simp
  | a :: r => by simp [tupyL_iff (l := r)]
theorem leaves_tupy : ∀ (d : Nat) (p : PV), leavesN d p ≠ 0 → tupy p = true
  | d, .non, h => by cases d <;> simp [leavesN] at h
  | d, .bl _, h => by simp
  | d, .int _, h => by simp
  | d, .str _, h => by simp
  | 0, .tup l, h => by simp [leavesN] at h
  | d + 1, .tup l, h => by
    simp only [leavesN] at h
    split at h
    · rename_i q
      rw [tupy_tup, tupyL_iff]
      intro p hp
      exact leaves_tupy d p (by simpa using List.all_eq_true.mp q.2.2 p hp)
    · exact absurd rfl h
  | d, .lst l, h => by cases d <;> simp [leavesN] at h
  | d, .dct l, h => by cases d <;> simp [leavesN] at h
theorem nameB_tupy {p : PV} (h : nameB p = true) : tupy p = true := by
  simp only [nameB, Bool.and_eq_true, decide_eq_true_eq] at h
  exact leaves_tupy 4 p (by omega)
def zs_b (f : Nat) : List S := [.ite (.not (.call f [(.var 2), (.var 3)])) [.ret (.con (.bl false))] []]
def zs_B (f : Nat) : List S := [.ite (.isi (.var 1) 3) [.ite (.or (.not (.isi (.var 0) 3)) (.cmp .ne (.bi .len [(.var 0)]) (.bi .len [(.var 1)]))) [.ret (.con (.bl false))] [],
    .loop (.many [(.one 2), (.one 3)]) (.zip (.var 0) (.var 1)) (zs_b f),
    .ret (.con (.bl true))] [],
    .ite (.cmp .is (.var 1) (.con .non)) [.ret (.cmp .is (.var 0) (.con .non))] [],
    .ite (.isi (.var 1) 2) [.ret (.and (.isi (.var 0) 2) (.cmp .eq (.var 0) (.var 1)))] [],
    .ite (.cmp .ne (.isi (.var 0) 1) (.isi (.var 1) 1)) [.ret (.con (.bl false))] [],
    .ret (.and (.isi (.var 0) 0) (.cmp .eq (.var 0) (.var 1)))]
theorem pairs_self (l : List PV) : pairs l l = l.map fun p => .tup [p, p] := by
  unfold pairs
  induction l with
  | nil => rfl
  | cons a r ih => simp only [List.zip_cons_cons, List.map_cons, ih]
section
variable {P : Prog} {w : Nat}
theorem zs_refl {f : Nat} {x : String} (h : P.defs[f]? = some ⟨x, 2, 4, zs_B f⟩) : ∀ (d n : Nat) (v : PV), dep v ≤ d → tupy v = true → VB v → P.call w (n + d + 1) f [v, v] = .ok (.bl true) := by
  intro d
  induction d with
  | zero =>
    intro n v hd ht hv
    rw [call_at h rfl]
    cases v with
    | non => simp [zs_B, tyTest]
    | bl b => simp [zs_B, tyTest, oeb]
    | int i => simp [zs_B, tyTest, oeq, oeb]
    | str s => simp [zs_B, tyTest, oes]
    | tup l => rw [dep_tup] at hd; omega
    | lst l => simp [tupy] at ht
    | dct l => simp [tupy] at ht
  | succ d ih =>
    intro n v hd ht hv
    rw [show n + (d + 1) + 1 = (n + d + 1) + 1 by omega, call_at h rfl]
    cases v with
    | non => simp [zs_B, tyTest]
    | bl b => simp [zs_B, tyTest, oeb]
    | int i => simp [zs_B, tyTest, oeq, oeb]
    | str s => simp [zs_B, tyTest, oes]
    | lst l => simp [tupy] at ht
    | dct l => simp [tupy] at ht
    | tup l =>
      rw [dep_tup] at hd
      rw [tupy_tup, tupyL_iff] at ht
      have W := forL_testS (body := denSs P.anc P.nf w (P.call w (n + d + 1)) (zs_b f)) (asn := asg (.many [.one 2, .one 3])) (mk := fun s : Slot × Slot => [.sh (.tup l), .sh (.tup l), s.1, s.2]) (good := fun _ => true) (res := .bl false) (l := l.map fun p => .tup [p, p]) (fun p hp s => by
        obtain ⟨q, hq, rfl⟩ := List.mem_map.mp hp
        have h := ih n q (by have := depL_mem hq; omega) (ht _ hq) (hv.mem hq)
        exact ⟨_, (.sh q, .sh q), rfl, by simp [zs_b, h]⟩) (.un, .un)
      obtain ⟨s', W⟩ := W
      rw [show ((l.map fun p => PV.tup [p, p]).all fun _ => true) = true by simp, if_pos rfl] at W
      simp only at W
      simp [zs_B, tyTest, oeq, zipR, pairs_self, W]
/-! ### looking a place up -/
theorem exC (n k : Nat) : True := trivial
theorem dcL_tb {c : Orc} {anc : List (List Nat)} {env : Env} (he : ∃ v, env = [.sh v, .un]) : ∀ (r d : List PV), r.all rowB = true → distL (pls (d ++ r)) = true → d.length + r.length ≤ 100000 →
    dcL (asg (.one 1)) (tstQ c anc none) (eltF c anc (.sub (.var 1) (.con (.int 0)))) (eltF c anc (.var 1)) env r (tb d) = .ok (tb (d ++ r))
  | [], d, _, _, _ => by simp [dcL]
  | p :: r, d, hr, hd, hl => by
    obtain ⟨v, rfl⟩ := he
    simp only [List.all_cons, Bool.and_eq_true] at hr
    obtain ⟨a, s, t, rfl, g1, -⟩ := rowB_form hr.1
    have hk := nameB_key g1
    have hd2 : distL (pls (d ++ [.tup [a, s, t]])) = true := by
      cases q : distL (pls (d ++ [.tup [a, s, t]])) with
      | true => rfl
      | false =>
        have := distL_pre _ (pls r) q
        rw [show pls (d ++ [.tup [a, s, t]]) ++ pls r = pls (d ++ .tup [a, s, t] :: r) by simp [pls]] at this
        rw [this] at hd
        cases hd
    have hno : hasK (pls d) a = false := by
      rw [show pls (d ++ [.tup [a, s, t]]) = pls d ++ [a] by simp [pls, plP], distL_snoc, Bool.and_eq_true] at hd2
      simpa [hasK] using hd2.2
    have ds : dset (tb d) a (.tup [a, s, t]) = tb (d ++ [.tup [a, s, t]]) := dset_tb (.tup [a, s, t]) hno
    have dl : (tb d).length < lineMax := by simp [tb]; simp at hl; unfold lineMax; omega
    have ih := dcL_tb (c := c) (anc := anc) (env := [.sh v, .un]) ⟨v, rfl⟩ r (d ++ [.tup [a, s, t]]) hr.2 (by simpa using hd) (by simp at hl ⊢; omega)
    unfold dcL
    have e1 : asg (.one 1) (.tup [a, s, t]) [Slot.sh v, .un] = some [.sh v, .sh (.tup [a, s, t])] := by simp
    rw [e1]
    have e2 : eltF c anc (.sub (.var 1) (.con (.int 0))) [.sh v, .sh (.tup [a, s, t])] = .ok a := by simp [eltF, ixAt, ofO]
    have e3 : eltF c anc (.var 1) [.sh v, .sh (.tup [a, s, t])] = .ok (.tup [a, s, t]) := by simp [eltF]
    have e4 : tstQ c anc none [.sh v, .sh (.tup [a, s, t])] = .ok true := rfl
    simp only [e2, e3, e4, noEx, bind_ok, if_true, hk, dl, decide_true, Bool.and_self, ds]
    rw [ih]
    simp
def to_B : List S := [.ret (.dc [1] (.one 1) (.seq (.sub (.var 0) (.con (.int 2)))) none (.sub (.var 1) (.con (.int 0))) (.var 1))]
theorem gameB_all {g st : PV} {rows : List PV} (h : gameB (.tup [g, st, .tup rows]) = true) : g = .str gameS ∧ (1 ≤ rows.length ∧ rows.length ≤ 600) ∧ rows.all rowB = true ∧ distL (pls rows) = true ∧ nameB st = true ∧ hasK (pls rows) st = true ∧ leadB rows = true := by
  simp only [gameB, Bool.and_eq_true, decide_eq_true_eq] at h
  obtain ⟨⟨⟨⟨h1, h2⟩, h3⟩, h4⟩, h5⟩ := h
  refine ⟨?_, h2, h3.1, h3.2, h4.1, h4.2, h5⟩
  cases g <;> simp [eqP] at h1
  rw [h1]
theorem gameB_form {v : PV} (h : gameB v = true) : ∃ g st rows, v = .tup [g, st, .tup rows] := by
  unfold gameB at h
  split at h
  · rename_i g st rows
    exact ⟨g, st, rows, rfl⟩
  · cases h
theorem to_ok {n f : Nat} {x : String} (h : P.defs[f]? = some ⟨x, 1, 2, to_B⟩) {g st : PV} {rows : List PV} (hg : gameB (.tup [g, st, .tup rows]) = true) : P.call w (n + 1) f [.tup [g, st, .tup rows]] = .ok (.dct (tb rows)) := by
  rw [call_at h rfl]
  obtain ⟨-, h1, h2, h3, -⟩ := gameB_all hg
  have L := dcL_tb (c := P.call w n) (anc := P.anc) (env := [.sh (.tup [g, st, .tup rows]), .un]) ⟨_, rfl⟩ rows [] h2 h3 (by simp; omega)
  simp only [show tb ([] : List PV) = [] from rfl, List.nil_append] at L
  simp [to_B, ixAt, L]
def ip_B (nm : Nat) : List S := [.ret (.and (.call nm [(.var 1)]) (.cmp .isin (.var 1) (.var 0)))]
def placeB (rows : List PV) (p : PV) : Bool := nameB p && hasK (pls rows) p
theorem ip_ok {n f nm : Nat} {x : String} (h : P.defs[f]? = some ⟨x, 2, 2, ip_B nm⟩) (hn : ∀ v, VB v → P.call w n nm [v] = .ok (.bl (nameB v))) (rows : List PV) (p : PV) (hp : VB p) : P.call w (n + 1) f [.dct (tb rows), p] = .ok (.bl (placeB rows p)) := by
  rw [call_at h rfl]
  have h1 := hn p hp
  have h2 := dget_tb p rows
  unfold placeB
  cases q : nameB p
  · rw [q] at h1
    simp [ip_B, h1]
  · rw [q] at h1
    have hk := nameB_key q
    simp [ip_B, h1, hk, h2]
def cp_B (ip : Nat) (k : Nat) : List S := [.ite (.not (.call ip [(.var 0), (.var 1)])) [.rse k []] []]
theorem cp_ok {n f ip k : Nat} {x : String} (h : P.defs[f]? = some ⟨x, 2, 2, cp_B ip k⟩) (hk : P.nf[k]? = some 0) {rows : List PV} {p : PV} (hi : P.call w n ip [.dct (tb rows), p] = .ok (.bl (placeB rows p))) : P.call w (n + 1) f [.dct (tb rows), p] = if placeB rows p then .ok .non else .ex ⟨k, []⟩ := by
  rw [call_at h rfl]
  cases q : placeB rows p <;> rw [q] at hi <;> simp [cp_B, hi, hk]
/-- the row of a place -/
def rowAt (rows : List PV) (p : PV) : PV := (dget (tb rows) p).getD .non
theorem rowAt_ok {rows : List PV} {p : PV} (h : placeB rows p = true) : dget (tb rows) p = some (rowAt rows p) ∧ rowAt rows p ∈ rows := by
  simp only [placeB, Bool.and_eq_true] at h
  have h2 := dget_tb p rows
  rw [h.2] at h2
  obtain ⟨r, hr⟩ := Option.isSome_iff_exists.mp h2
  have e : rowAt rows p = r := by simp [rowAt, hr]
  rw [e]
  refine ⟨hr, ?_⟩
  unfold dget tb at hr
  rw [Option.map_eq_some_iff] at hr
  obtain ⟨q, q1, rfl⟩ := hr
  obtain ⟨r', hr', rfl⟩ := List.mem_map.mp (List.mem_of_find?_eq_some q1)
  exact hr'
def ra_B (cg to cp : Nat) : List S := [.exp (.call cg [(.var 0)]),
    .set (.one 2) (.call to [(.var 0)]),
    .exp (.call cp [(.var 2), (.var 1)]),
    .ret (.sub (.var 2) (.var 1))]
/-- the step of a row with a move: the next place and the event -/
def stepV (row m : PV) : PV := match (stsP row).find? fun s => eqP (mvP s) m with
  | some (.tup [_, a, e]) => .tup [a, e]
  | _ => .non
def so_b : List S := [.ite (.cmp .eq (.var 2) (.var 1)) [.ret (.tup [(.var 3), (.var 4)])] []]
def so_B (nm : Nat) : List S := [.ite (.or (.cmp .eq (.sub (.var 0) (.con (.int 1))) (.con (.int 0))) (.not (.call nm [(.var 1)]))) [.ret (.con .non)] [],
    .loop (.many [(.one 2), (.one 3), (.one 4)]) (.seq (.sub (.var 0) (.con (.int 2)))) so_b,
    .ret (.con .non)]
theorem so_walk {c : Orc} {anc : List (List Nat)} {nf : List Nat} (row m : PV) (hm : VB m) : ∀ (l : List PV) (s2 s3 s4 : Slot), (∀ s ∈ l, stB s = true ∧ VB s) → ∃ s2' s3' s4', forL (denSs anc nf w c so_b) (asg (.many [.one 2, .one 3, .one 4])) l [.sh row, .sh m, s2, s3, s4] =
    match l.find? fun s => eqP (mvP s) m with
    | some (.tup [_, a, e]) => .rt (.tup [a, e])
    | _ => .nx [.sh row, .sh m, s2', s3', s4']
  | [], s2, s3, s4, _ => ⟨s2, s3, s4, rfl⟩
  | s :: r, s2, s3, s4, hs => by
    obtain ⟨h1, h2⟩ := hs s List.mem_cons_self
    obtain ⟨x, a, e, rfl, -⟩ := stB_form h1
    have as1 : asg (.many [.one 2, .one 3, .one 4]) (.tup [x, a, e]) [.sh row, .sh m, s2, s3, s4] = some [.sh row, .sh m, .sh x, .sh a, .sh e] := by simp
    have ho := (h2.mem (show x ∈ [x, a, e] by simp)).okEq hm
    cases q : eqP x m with
    | true =>
      refine ⟨s2, s3, s4, ?_⟩
      rw [forL_stop as1 (r := .tup [a, e]) (by simp [so_b, ho, q]), List.find?_cons]
      simp [mvP, q]
    | false =>
      obtain ⟨t2, t3, t4, ih⟩ := so_walk (c := c) (anc := anc) (nf := nf) row m hm r (.sh x) (.sh a) (.sh e) fun s hs' => hs s (List.mem_cons_of_mem _ hs')
      refine ⟨t2, t3, t4, ?_⟩
      rw [forL_step as1 (e2 := [.sh row, .sh m, .sh x, .sh a, .sh e]) (by simp [so_b, ho, q]), ih, List.find?_cons]
      simp [mvP, q]
theorem so_ok {n f nm : Nat} {x : String} (h : P.defs[f]? = some ⟨x, 2, 5, so_B nm⟩) (hn : ∀ v, VB v → P.call w n nm [v] = .ok (.bl (nameB v))) (row m : PV) (hr : rowB row = true) (hv : VB row) (hm : VB m) : P.call w (n + 1) f [row, m] = .ok (if nameB m then stepV row m else .non) := by
  rw [call_at h rfl]
  have h1 := hn m hm
  have hst := sts_st hr
  obtain ⟨p, s, t, rfl, g1, g2, g3⟩ := rowB_form hr
  have hs := hv.mem (show s ∈ [p, s, t] by simp)
  have ho : G.okEq s (.int 0) = true := by simp [G.okEq, hs.nod, G.flat, G.nod]
  cases q : eqP s (.int 0) with
  | true =>
    have : stepV (.tup [p, s, t]) m = .non := by simp [stepV, stsP, q]
    rw [this]
    simp [so_B, ixAt, ofO, ho, q]
  | false =>
    rw [q, if_neg (by simp)] at g3
    obtain ⟨l, rfl⟩ := stepsB_form g3
    have el : stsP (.tup [p, s, .tup l]) = l := by simp [stsP, q]
    rw [el] at hst
    cases q2 : nameB m with
    | false =>
      rw [q2] at h1
      simp [so_B, ixAt, ofO, ho, q, h1]
    | true =>
      rw [q2] at h1
      obtain ⟨t2, t3, t4, W⟩ := so_walk (w := w) (c := P.call w n) (anc := P.anc) (nf := P.nf) (.tup [p, s, .tup l]) m hm l .un .un .un fun z hz => ⟨hst z hz, (hv.mem (show PV.tup l ∈ [p, s, .tup l] by simp)).mem hz⟩
      cases qf : l.find? fun s => eqP (mvP s) m with
      | none =>
        rw [qf] at W
        simp [so_B, ixAt, ofO, ho, q, h1, W, stepV, el, qf]
      | some z =>
        obtain ⟨mz, a, e, rfl, -⟩ := stB_form (hst z (List.mem_of_find?_eq_some qf))
        rw [qf] at W
        simp [so_B, ixAt, ofO, ho, q, h1, W, stepV, el, qf]
end
end G
namespace G
/-! ### names: equal is the same -/
theorem leaves_eq : ∀ (d e : Nat) (a b : PV), leavesN d a ≠ 0 → leavesN e b ≠ 0 → eqP a b = true → a = b
  | d, e, .non, b, h, _, _ => by cases d <;> simp [leavesN] at h
  | d, e, .bl _, b, h, _, _ => by cases d <;> simp [leavesN] at h
  | d, e, .lst _, b, h, _, _ => by cases d <;> simp [leavesN] at h
  | d, e, .dct _, b, h, _, _ => by cases d <;> simp [leavesN] at h
  | d, e, .int i, b, _, hb, q => by
    cases b with
    | int j => simpa using q
    | bl c => cases e <;> simp [leavesN] at hb
    | _ => simp [eqP] at q
  | d, e, .str i, b, _, _, q => by
    cases b with
    | str j => simpa using q
    | _ => simp [eqP] at q
  | 0, e, .tup l, b, h, _, _ => by simp [leavesN] at h
  | d + 1, e, .tup l, b, h, hb, q => by
    cases b with
    | tup m =>
      cases e with
      | zero => simp [leavesN] at hb
      | succ e =>
        simp only [leavesN] at h hb
        split at h
        · rename_i g1
          split at hb
          · rename_i g2
            simp only [eqP] at q
            have key : ∀ l m : List PV, (∀ p ∈ l, leavesN d p ≠ 0) → (∀ p ∈ m, leavesN e p ≠ 0) → eqL l m = true → l = m := by
              intro l
              induction l with
              | nil => intro m _ _ q; cases m <;> simp [eqL] at q; rfl
              | cons x r ih =>
                intro m h1 h2 q
                cases m with
                | nil => simp [eqL] at q
                | cons y t =>
                  simp only [eqL, Bool.and_eq_true] at q
                  rw [leaves_eq d e x y (h1 x List.mem_cons_self) (h2 y List.mem_cons_self) q.1, ih t (fun p hp => h1 p (List.mem_cons_of_mem _ hp)) (fun p hp => h2 p (List.mem_cons_of_mem _ hp)) q.2]
            rw [key l m (fun p hp => by simpa using List.all_eq_true.mp g1.2.2 p hp) (fun p hp => by simpa using List.all_eq_true.mp g2.2.2 p hp) q]
          · exact absurd rfl hb
        · exact absurd rfl h
    | _ => simp [eqP] at q
theorem name_eq {a b : PV} (ha : nameB a = true) (hb : nameB b = true) (h : eqP a b = true) : a = b := by
  simp only [nameB, Bool.and_eq_true, decide_eq_true_eq] at ha hb
  exact leaves_eq 4 4 a b (by omega) (by omega) h
theorem leaves_nod : ∀ (d : Nat) (p : PV), leavesN d p ≠ 0 → nod p = true
  | d, .non, h => by cases d <;> simp [leavesN] at h
  | d, .bl _, h => by simp [nod]
  | d, .int _, h => by simp [nod]
  | d, .str _, h => by simp [nod]
  | 0, .tup l, h => by simp [leavesN] at h
  | d + 1, .tup l, h => by
    simp only [leavesN] at h
    split at h
    · rename_i q
      simp only [nod]
      have : ∀ l : List PV, (∀ p ∈ l, leavesN d p ≠ 0) → nodL l = true := by
        intro l
        induction l with
        | nil => intro _; simp only [nodL]
        | cons x r ih => intro h1; simp only [nodL, leaves_nod d x (h1 x List.mem_cons_self), ih fun p hp => h1 p (List.mem_cons_of_mem _ hp), Bool.and_self]
      exact this l fun p hp => by simpa using List.all_eq_true.mp q.2.2 p hp
    · exact absurd rfl h
  | d, .lst l, h => by cases d <;> simp [leavesN] at h
  | d, .dct l, h => by cases d <;> simp [leavesN] at h
theorem nameB_nod {p : PV} (h : nameB p = true) : nod p = true := by
  simp only [nameB, Bool.and_eq_true, decide_eq_true_eq] at h
  exact leaves_nod 4 p (by omega)
theorem hasK_iff {l : List PV} {a : PV} (hl : ∀ x ∈ l, nameB x = true) (ha : nameB a = true) : hasK l a = true ↔ a ∈ l := by
  constructor
  · intro h
    obtain ⟨e, he, hq⟩ := List.any_eq_true.mp h
    rw [← name_eq (hl e he) ha hq]
    exact he
  · exact fun h => hasK_mem h (nameB_nod ha)
theorem dist_nodup : ∀ {l : List PV}, (∀ x ∈ l, nameB x = true) → distL l = true → l.Nodup
  | [], _, _ => .nil
  | a :: r, hl, h => by
    simp only [distL, Bool.and_eq_true] at h
    refine List.nodup_cons.mpr ⟨fun hm => ?_, dist_nodup (fun x hx => hl x (List.mem_cons_of_mem _ hx)) h.2⟩
    have := List.all_eq_true.mp h.1 a hm
    rw [eqP_refl a (nameB_nod (hl a List.mem_cons_self))] at this
    cases this
theorem nodup_dist : ∀ {l : List PV}, (∀ x ∈ l, nameB x = true) → l.Nodup → distL l = true
  | [], _, _ => rfl
  | a :: r, hl, h => by
    obtain ⟨h1, h2⟩ := List.nodup_cons.mp h
    simp only [distL, Bool.and_eq_true]
    refine ⟨List.all_eq_true.mpr fun q hq => ?_, nodup_dist (fun x hx => hl x (List.mem_cons_of_mem _ hx)) h2⟩
    cases e : eqP a q with
    | false => rfl
    | true => exact absurd (name_eq (hl a List.mem_cons_self) (hl q (List.mem_cons_of_mem _ hq)) e ▸ hq) h1
theorem nodup_le : ∀ {l m : List PV}, l.Nodup → (∀ x ∈ l, x ∈ m) → l.length ≤ m.length
  | [], m, _, _ => by simp
  | a :: t, m, h, hs => by
    obtain ⟨h1, h2⟩ := List.nodup_cons.mp h
    obtain ⟨m1, m2, rfl⟩ := List.append_of_mem (hs a List.mem_cons_self)
    have := nodup_le (l := t) (m := m1 ++ m2) h2 fun x hx => by
      have hx' := hs x (List.mem_cons_of_mem _ hx)
      simp only [List.mem_append, List.mem_cons] at hx' ⊢
      rcases hx' with q | q | q
      · exact .inl q
      · exact absurd (q ▸ hx) h1
      · exact .inr q
    simp only [List.length_append, List.length_cons] at this ⊢
    omega
/-! ### the rows of a game -/
structure GRows (rows : List PV) : Prop where
  rb : ∀ r ∈ rows, rowB r = true
  di : distL (pls rows) = true
  ld : ∀ r ∈ rows, ∀ s ∈ stsP r, hasK (pls rows) (aftP s) = true
  vb : ∀ r ∈ rows, VB r
  n : rows.length ≤ 1000
theorem GRows.of {g st : PV} {rows : List PV} (h : gameB (.tup [g, st, .tup rows]) = true) (hv : VB (.tup [g, st, .tup rows])) : GRows rows := by
  obtain ⟨-, h1, h2, h3, -, -, h4⟩ := gameB_all h
  exact ⟨fun r hr => List.all_eq_true.mp h2 r hr, h3, fun r hr s hs => List.all_eq_true.mp (List.all_eq_true.mp h4 r hr) s hs, fun r hr => (hv.mem (show PV.tup rows ∈ [g, st, .tup rows] by simp)).mem hr, by omega⟩
section
variable {rows : List PV} (R : GRows rows)
include R
theorem GRows.nm : ∀ p ∈ pls rows, nameB p = true := by
  intro p hp
  obtain ⟨r, hr, rfl⟩ := List.mem_map.mp hp
  obtain ⟨a, s, t, rfl, h, -⟩ := rowB_form (R.rb r hr)
  exact h
theorem GRows.aft {r s : PV} (hr : r ∈ rows) (hs : s ∈ stsP r) : aftP s ∈ pls rows := by
  obtain ⟨m, a, e, rfl, h1, h2, h3⟩ := stB_form (sts_st (R.rb r hr) s hs)
  exact (hasK_iff R.nm h2).mp (R.ld r hr _ hs)
theorem GRows.at {p : PV} (hp : p ∈ pls rows) : dget (tb rows) p = some (rowAt rows p) ∧ rowAt rows p ∈ rows ∧ plP (rowAt rows p) = p := by
  have hn := R.nm p hp
  have h1 : placeB rows p = true := by rw [placeB, hn, hasK_mem hp (nameB_nod hn)]; rfl
  obtain ⟨h2, h3⟩ := rowAt_ok h1
  refine ⟨h2, h3, ?_⟩
  obtain ⟨r, hr, rfl⟩ := List.mem_map.mp hp
  have := tb_get (nameB_nod hn) R.di hr
  have e : rowAt rows (plP r) = r := by simp [rowAt, this]
  rw [e]
end
/-! ### the order of reach -/
abbrev FD := List (PV × PV)
def ks (F : FD) : List PV := F.map (·.1)
def addF (h : PV) (F : FD) (s : PV) : FD := if hasK (ks F) (aftP s) then F else F ++ [(aftP s, .tup [h, mvP s])]
def expF (h : PV) (F : FD) (l : List PV) : FD := l.foldl (addF h) F
def turnF (rows : List PV) (i : Nat) (F : FD) : FD := match F[i]? with
  | some e => expF e.1 F (stsP (rowAt rows e.1))
  | none => F
def itF (rows : List PV) : Nat → Nat → FD → FD
  | 0, _, F => F
  | n + 1, i, F => itF rows n (i + 1) (turnF rows i F)
def foundF (rows : List PV) (p : PV) : FD := itF rows rows.length 0 [(p, .non)]
def orderL (rows : List PV) (p : PV) : List PV := ks (foundF rows p)
/-- places of the game, none twice -/
structure OkF (rows : List PV) (F : FD) : Prop where
  mem : ∀ x ∈ ks F, x ∈ pls rows
  nd : (ks F).Nodup
section
variable {rows : List PV} (R : GRows rows)
include R
theorem addF_ok {h : PV} {F : FD} {s : PV} (o : OkF rows F) (hs : aftP s ∈ pls rows) : OkF rows (addF h F s) := by
  unfold addF
  split
  · exact o
  · rename_i hk
    have hno : aftP s ∉ ks F := fun z => hk ((hasK_iff (fun x hx => R.nm x (o.mem x hx)) (R.nm _ hs)).mpr z)
    have e : ks (F ++ [(aftP s, PV.tup [h, mvP s])]) = ks F ++ [aftP s] := by simp [ks]
    refine ⟨fun x hx => ?_, ?_⟩
    · rw [e] at hx
      rcases List.mem_append.mp hx with q | q
      · exact o.mem x q
      · rw [List.mem_singleton] at q; rw [q]; exact hs
    · rw [e]
      refine List.nodup_append.mpr ⟨o.nd, by simp, fun a ha b hb e => ?_⟩
      rw [List.mem_singleton] at hb
      exact hno (hb ▸ e ▸ ha)
theorem expF_ok {h : PV} : ∀ {l : List PV} {F : FD}, OkF rows F → (∀ s ∈ l, aftP s ∈ pls rows) → OkF rows (expF h F l)
  | [], F, o, _ => o
  | s :: r, F, o, hl => expF_ok (l := r) (addF_ok R o (hl s List.mem_cons_self)) fun x hx => hl x (List.mem_cons_of_mem _ hx)
theorem turnF_ok {i : Nat} {F : FD} (o : OkF rows F) : OkF rows (turnF rows i F) := by
  unfold turnF
  split
  · rename_i e he
    have hm : e.1 ∈ pls rows := o.mem _ (List.mem_map_of_mem (List.mem_of_getElem? he))
    exact expF_ok R o fun s hs => R.aft (R.at hm).2.1 hs
  · exact o
theorem itF_ok : ∀ {n i : Nat} {F : FD}, OkF rows F → OkF rows (itF rows n i F)
  | 0, i, F, o => o
  | n + 1, i, F, o => itF_ok (n := n) (turnF_ok R o)
theorem OkF.le {F : FD} (o : OkF rows F) : F.length ≤ rows.length := by
  have := nodup_le o.nd o.mem
  simpa [ks, pls] using this
end
theorem addF_len (h : PV) (F : FD) (s : PV) : F.length ≤ (addF h F s).length := by
  unfold addF; split <;> simp
theorem expF_len (h : PV) : ∀ (l : List PV) (F : FD), F.length ≤ (expF h F l).length
  | [], F => Nat.le_refl _
  | s :: r, F => Nat.le_trans (addF_len h F s) (expF_len h r (addF h F s))
theorem turnF_len (rows : List PV) (i : Nat) (F : FD) : F.length ≤ (turnF rows i F).length := by
  unfold turnF
  split
  · exact expF_len _ _ _
  · exact Nat.le_refl _
theorem itF_stop (rows : List PV) : ∀ (n i : Nat) (F : FD), F.length ≤ i → itF rows n i F = F
  | 0, i, F, _ => rfl
  | n + 1, i, F, h => by
    have : turnF rows i F = F := by
      unfold turnF
      rw [List.getElem?_eq_none h]
    rw [itF, this]
    exact itF_stop rows n (i + 1) F (by omega)
theorem start_ok {rows : List PV} {p : PV} (hp : p ∈ pls rows) : OkF rows [(p, .non)] := ⟨fun x hx => by simp [ks] at hx; rw [hx]; exact hp, by simp [ks]⟩
theorem dget_F (k : PV) : ∀ F : FD, (dget F k).isSome = hasK (ks F) k
  | [] => rfl
  | a :: r => by
    have ih := dget_F k r
    unfold dget ks hasK at ih ⊢
    rw [List.map_cons, List.find?_cons, List.any_cons]
    cases h : eqP a.1 k with
    | true => simp [h]
    | false => simp only [h]; simpa using ih
theorem dset_F (k v : PV) : ∀ {F : FD}, hasK (ks F) k = false → dset F k v = F ++ [(k, v)]
  | [], _ => rfl
  | a :: r, h => by
    unfold hasK ks at h
    rw [List.map_cons, List.any_cons, Bool.or_eq_false_iff] at h
    have ih := dset_F k v (F := r) h.2
    simp only [dset, h.1, ih, List.cons_append]
    rfl
/-! the program's walk -/
def of_b0 : List S := [.ite (.cmp .nin (.var 7) (.var 2)) [.put 2 (.var 7) (.tup [(.var 5), (.var 6)]),
    .app 3 (.var 7)] []]
def of_b1 (si : Nat) : List S := [.set (.one 5) (.sub (.var 3) (.var 4)),
    .loop (.many [(.one 6), (.one 7), (.one 8)]) (.seq (.call si [(.var 0), (.var 5)])) of_b0,
    .set (.one 4) (.bin .add (.var 4) (.con (.int 1)))]
def of_B (si : Nat) : List S := [.own 2 (.dct [(.var 1)] [(.con .non)]),
    .own 3 (.lst [(.var 1)]),
    .set (.one 4) (.con (.int 0)),
    .whl (.cmp .lt (.var 4) (.bi .len [(.var 3)])) (of_b1 si),
    .frz 2,
    .frz 3,
    .ret (.tup [(.var 3), (.var 2)])]
section
variable {P : Prog} {w : Nat}
theorem of_in {c : Orc} {rows : List PV} (R : GRows rows) (tbl p i h : PV) : ∀ (l : List PV) (F : FD) (s6 s7 s8 : Slot), OkF rows F → (∀ s ∈ l, stB s = true ∧ aftP s ∈ pls rows) → ∃ s6' s7' s8',
    forL (denSs P.anc P.nf w c of_b0) (asg (.many [.one 6, .one 7, .one 8])) l [.sh tbl, .sh p, .od F, .ol (ks F), .sh i, .sh h, s6, s7, s8] =
      .nx [.sh tbl, .sh p, .od (expF h F l), .ol (ks (expF h F l)), .sh i, .sh h, s6', s7', s8']
  | [], F, s6, s7, s8, _, _ => ⟨s6, s7, s8, rfl⟩
  | s :: r, F, s6, s7, s8, o, hl => by
    obtain ⟨h1, h2⟩ := hl s List.mem_cons_self
    obtain ⟨m, a, e, rfl, g1, g2, g3⟩ := stB_form h1
    have hk := nameB_key g2
    have as1 : asg (.many [.one 6, .one 7, .one 8]) (.tup [m, a, e]) [.sh tbl, .sh p, .od F, .ol (ks F), .sh i, .sh h, s6, s7, s8] = some [.sh tbl, .sh p, .od F, .ol (ks F), .sh i, .sh h, .sh m, .sh a, .sh e] := by simp
    have hg := dget_F a F
    have hle := o.le R
    have hn := R.n
    have hFl : F.length < lineMax := by unfold lineMax; omega
    have hkl : (ks F).length < lineMax := by simp [ks]; unfold lineMax; omega
    have o' := addF_ok R (h := h) o h2
    obtain ⟨t6, t7, t8, ih⟩ := of_in (c := c) R tbl p i h r (addF h F (.tup [m, a, e])) (.sh m) (.sh a) (.sh e) o' fun x hx => hl x (List.mem_cons_of_mem _ hx)
    refine ⟨t6, t7, t8, ?_⟩
    have e2 : denSs P.anc P.nf w c of_b0 [.sh tbl, .sh p, .od F, .ol (ks F), .sh i, .sh h, .sh m, .sh a, .sh e] =
        .nx [.sh tbl, .sh p, .od (addF h F (.tup [m, a, e])), .ol (ks (addF h F (.tup [m, a, e]))), .sh i, .sh h, .sh m, .sh a, .sh e] := by
      cases q : hasK (ks F) a with
      | true =>
        rw [q] at hg
        have : addF h F (.tup [m, a, e]) = F := by simp [addF, aftP, q]
        rw [this]
        simp [of_b0, hk, hg]
      | false =>
        rw [q] at hg
        have : addF h F (.tup [m, a, e]) = F ++ [(a, .tup [h, m])] := by simp [addF, aftP, mvP, q]
        rw [this]
        have ek : ks (F ++ [(a, PV.tup [h, m])]) = ks F ++ [a] := by simp [ks]
        rw [ek]
        simp [of_b0, hk, hg, dset_F a _ q, hFl, hkl]
    rw [forL_step as1 e2, ih]
    rfl
theorem of_whl {n si : Nat} {x : String} (hs : P.defs[si]? = some ⟨x, 2, 3, si_B⟩) {rows : List PV} (R : GRows rows) (p : PV) : ∀ (k fu i : Nat) (F : FD) (s5 s6 s7 s8 : Slot), OkF rows F → i ≤ F.length → rows.length ≤ i + k → k < fu → ∃ i' s5' s6' s7' s8',
    whlL (kWhl (P.call w (n + 1)) P.anc (.cmp .lt (.var 4) (.bi .len [(.var 3)]))) (denSs P.anc P.nf w (P.call w (n + 1)) (of_b1 si)) fu [.sh (.dct (tb rows)), .sh p, .od F, .ol (ks F), .sh (.int (i : Int)), s5, s6, s7, s8] =
      .nx [.sh (.dct (tb rows)), .sh p, .od (itF rows k i F), .ol (ks (itF rows k i F)), .sh (.int (i' : Int)), s5', s6', s7', s8'] := by
  intro k
  induction k with
  | zero =>
    intro fu i F s5 s6 s7 s8 o hi hr hf
    have := o.le R
    have e : i = F.length := by omega
    cases fu with
    | zero => omega
    | succ fu =>
      refine ⟨i, s5, s6, s7, s8, ?_⟩
      have hnl : ¬ ((i : Int) < (ks F).length) := by simp [ks]; omega
      unfold whlL
      simp [kWhl, hnl]
      exact ⟨rfl, rfl⟩
  | succ k ih =>
    intro fu i F s5 s6 s7 s8 o hi hr hf
    cases fu with
    | zero => omega
    | succ fu =>
      by_cases hlt : i < F.length
      · have hl : ((i : Int) < (ks F).length) := by simp [ks]; omega
        obtain ⟨e, he⟩ : ∃ e, F[i]? = some e := ⟨_, List.getElem?_eq_getElem hlt⟩
        have hx : (ks F)[i]? = some e.1 := by simp [ks, he]
        have hm : e.1 ∈ pls rows := o.mem _ (List.mem_map_of_mem (List.mem_of_getElem? he))
        obtain ⟨a1, a2, a3⟩ := R.at hm
        have hS := si_ok (w := w) (n := n) hs (tb rows) e.1 _ (R.rb _ a2) (nameB_key (R.nm _ hm)) a1
        obtain ⟨t6, t7, t8, W⟩ := of_in (P := P) (w := w) (c := P.call w (n + 1)) R (.dct (tb rows)) p (.int (i : Int)) e.1 (stsP (rowAt rows e.1)) F s6 s7 s8 o fun s hs => ⟨sts_st (R.rb _ a2) s hs, R.aft a2 hs⟩
        have ht : turnF rows i F = expF e.1 F (stsP (rowAt rows e.1)) := by unfold turnF; rw [he]
        have o' := turnF_ok R (i := i) o
        rw [ht] at o'
        obtain ⟨i', u5, u6, u7, u8, ih⟩ := ih fu (i + 1) (expF e.1 F (stsP (rowAt rows e.1))) (.sh e.1) t6 t7 t8 o' (by have := expF_len e.1 (stsP (rowAt rows e.1)) F; omega) (by omega) (by omega)
        refine ⟨i', u5, u6, u7, u8, ?_⟩
        have hb : denSs P.anc P.nf w (P.call w (n + 1)) (of_b1 si) [.sh (.dct (tb rows)), .sh p, .od F, .ol (ks F), .sh (.int (i : Int)), s5, s6, s7, s8] =
            .nx [.sh (.dct (tb rows)), .sh p, .od (expF e.1 F (stsP (rowAt rows e.1))), .ol (ks (expF e.1 F (stsP (rowAt rows e.1)))), .sh (.int ((i + 1 : Nat) : Int)), .sh e.1, t6, t7, t8] := by
          have hix : ixAt (ks F) (i : Int) = some e.1 := by rw [ixAt_nat]; exact hx
          simp [of_b1, hix, ofO, hS, W]
        have hc : kWhl (P.call w (n + 1)) P.anc (.cmp .lt (.var 4) (.bi .len [(.var 3)])) [.sh (.dct (tb rows)), .sh p, .od F, .ol (ks F), .sh (.int (i : Int)), s5, s6, s7, s8] = .ok true := by
          simp [hl]
        unfold whlL
        rw [hc]
        simp only [ofR_ok, if_true, hb]
        rw [ih, itF, ht]
      · have e : i = F.length := by omega
        refine ⟨i, s5, s6, s7, s8, ?_⟩
        have hnl : ¬ ((i : Int) < (ks F).length) := by simp [ks]; omega
        rw [itF_stop rows (k + 1) i F (by omega)]
        have hc : kWhl (P.call w (n + 1)) P.anc (.cmp .lt (.var 4) (.bi .len [(.var 3)])) [.sh (.dct (tb rows)), .sh p, .od F, .ol (ks F), .sh (.int (i : Int)), s5, s6, s7, s8] = .ok false := by
          simp [hnl]
        unfold whlL
        rw [hc]
        rfl
theorem of_ok {n f si : Nat} {x y : String} (h : P.defs[f]? = some ⟨x, 2, 9, of_B si⟩) (hs : P.defs[si]? = some ⟨y, 2, 3, si_B⟩) (hw : 1000 < w) {rows : List PV} (R : GRows rows) {p : PV} (hp : p ∈ pls rows) : P.call w (n + 2) f [.dct (tb rows), p] = .ok (.tup [.lst (orderL rows p), .dct (foundF rows p)]) := by
  rw [call_at h rfl]
  have hk := nameB_key (R.nm p hp)
  have hn := R.n
  obtain ⟨i', u5, u6, u7, u8, W⟩ := of_whl (P := P) (w := w) (n := n) hs R p rows.length w 0 [(p, .non)] .un .un .un .un (start_ok hp) (by simp) (by omega) (by omega)
  have e1 : ks [(p, PV.non)] = [p] := rfl
  rw [e1] at W
  simp only [show ((0 : Nat) : Int) = 0 from rfl] at W
  simp [of_B, keyBs, hk, dset, W, orderL, foundF]
end
end G
namespace G
theorem itF_add (rows : List PV) : ∀ (a b i : Nat) (F : FD), itF rows (a + b) i F = itF rows b (i + a) (itF rows a i F)
  | 0, b, i, F => by simp [itF]
  | a + 1, b, i, F => by
    rw [show a + 1 + b = (a + b) + 1 by omega, itF, itF_add rows a b (i + 1) (turnF rows i F), itF, show i + 1 + a = i + (a + 1) by omega]
theorem itF_succ (rows : List PV) (a i : Nat) (F : FD) : itF rows (a + 1) i F = turnF rows (i + a) (itF rows a i F) := by
  rw [itF_add rows a 1 i F]
  rfl
theorem addF_pre (h : PV) (F : FD) (s : PV) : F <+: addF h F s := by
  unfold addF
  split
  · exact List.prefix_refl F
  · exact List.prefix_append F _
theorem expF_pre (h : PV) : ∀ (l : List PV) (F : FD), F <+: expF h F l
  | [], F => List.prefix_refl F
  | s :: r, F => (addF_pre h F s).trans (expF_pre h r (addF h F s))
theorem turnF_pre (rows : List PV) (i : Nat) (F : FD) : F <+: turnF rows i F := by
  unfold turnF
  split
  · exact expF_pre _ _ _
  · exact List.prefix_refl F
theorem itF_pre (rows : List PV) : ∀ (n i : Nat) (F : FD), F <+: itF rows n i F
  | 0, i, F => List.prefix_refl F
  | n + 1, i, F => (turnF_pre rows i F).trans (itF_pre rows n (i + 1) (turnF rows i F))
theorem pre_get {F F' : FD} (h : F <+: F') {j : Nat} {e : PV × PV} (he : F[j]? = some e) : F'[j]? = some e := by
  obtain ⟨t, rfl⟩ := h
  have := (List.getElem?_eq_some_iff.mp he).1
  rw [List.getElem?_append_left this]
  exact he
theorem pre_ks {F F' : FD} (h : F <+: F') {x : PV} (hx : x ∈ ks F) : x ∈ ks F' := by
  obtain ⟨t, rfl⟩ := h
  unfold ks at hx ⊢
  rw [List.map_append]
  exact List.mem_append_left _ hx
section
variable {rows : List PV} (R : GRows rows)
/-- the first i are done -/
def Closed (rows : List PV) (i : Nat) (F : FD) : Prop := ∀ (j : Nat) (e : PV × PV), j < i → F[j]? = some e → ∀ s ∈ stsP (rowAt rows e.1), aftP s ∈ ks F
include R
theorem addF_has {h : PV} {F : FD} {s : PV} (o : OkF rows F) (hs : aftP s ∈ pls rows) : aftP s ∈ ks (addF h F s) := by
  unfold addF
  split
  · rename_i hk
    exact (hasK_iff (fun x hx => R.nm x (o.mem x hx)) (R.nm _ hs)).mp hk
  · simp [ks]
theorem expF_has {h : PV} : ∀ {l : List PV} {F : FD}, OkF rows F → (∀ s ∈ l, aftP s ∈ pls rows) → ∀ s ∈ l, aftP s ∈ ks (expF h F l)
  | a :: r, F, o, hl, s, hs => by
    have o' := addF_ok R (h := h) o (hl a List.mem_cons_self)
    rcases List.mem_cons.mp hs with e | hs
    · rw [e]
      exact pre_ks (expF_pre h r (addF h F a)) (addF_has R o (hl a List.mem_cons_self))
    · exact expF_has (l := r) o' (fun x hx => hl x (List.mem_cons_of_mem _ hx)) s hs
theorem turnF_closed {i : Nat} {F : FD} (o : OkF rows F) (c : Closed rows i F) : Closed rows (i + 1) (turnF rows i F) := by
  have pre := turnF_pre rows i F
  intro j e hj he s hs
  by_cases hF : ∃ e', F[j]? = some e'
  · obtain ⟨e', he'⟩ := hF
    have hee := pre_get pre he'
    rw [he] at hee
    have hee : e = e' := Option.some.inj hee
    subst hee
    by_cases hji : j < i
    · exact pre_ks pre (c j e hji he' s hs)
    · have : j = i := by omega
      subst this
      have hm : e.1 ∈ pls rows := o.mem _ (List.mem_map_of_mem (List.mem_of_getElem? he'))
      unfold turnF
      rw [he']
      exact expF_has R o (fun s hs => R.aft (R.at hm).2.1 hs) s hs
  · have hn : F.length ≤ j := by
      rcases Nat.lt_or_ge j F.length with q | q
      · exact absurd ⟨_, List.getElem?_eq_getElem q⟩ hF
      · exact q
    have : F.length ≤ i ∨ i < F.length := by omega
    rcases this with q | q
    · have e0 : turnF rows i F = F := by unfold turnF; rw [List.getElem?_eq_none q]
      rw [e0, List.getElem?_eq_none hn] at he
      cases he
    · omega
theorem itF_closed : ∀ {n i : Nat} {F : FD}, OkF rows F → Closed rows i F → Closed rows (i + n) (itF rows n i F)
  | 0, i, F, _, c => c
  | n + 1, i, F, o, c => by
    have := itF_closed (n := n) (turnF_ok R (i := i) o) (turnF_closed R o c)
    rw [itF, show i + (n + 1) = i + 1 + n by omega]
    exact this
variable {p : PV} (hp : p ∈ pls rows)
include hp
theorem found_ok : OkF rows (foundF rows p) := itF_ok R (start_ok hp)
theorem order_closed : ∀ x ∈ orderL rows p, ∀ s ∈ stsP (rowAt rows x), aftP s ∈ orderL rows p := by
  intro x hx s hs
  obtain ⟨e, he, rfl⟩ := List.mem_map.mp hx
  obtain ⟨j, hj⟩ := List.getElem?_of_mem he
  have c := itF_closed R (n := rows.length) (i := 0) (start_ok hp) (fun j e h => absurd h (Nat.not_lt_zero _))
  have hl := (found_ok R hp).le R
  have := (List.getElem?_eq_some_iff.mp hj).1
  exact c j e (by unfold foundF at this hl; omega) hj s hs
theorem order_start : p ∈ orderL rows p := pre_ks (itF_pre rows rows.length 0 [(p, .non)]) (by simp [ks])
theorem order_mem : ∀ x ∈ orderL rows p, x ∈ pls rows := (found_ok R hp).mem
theorem order_nd : (orderL rows p).Nodup := (found_ok R hp).nd
theorem order_len : (orderL rows p).length ≤ rows.length := by
  have := (found_ok R hp).le R
  simpa [orderL, ks] using this
end
/-! ### trimmed -/
def trimR (rows : List PV) (p : PV) : List PV := (orderL rows p).map (rowAt rows)
section
variable {rows : List PV} (R : GRows rows) {p : PV} (hp : p ∈ pls rows)
include R hp
theorem trim_pls : pls (trimR rows p) = orderL rows p := by
  unfold pls trimR
  rw [List.map_map]
  conv => rhs; rw [← List.map_id (orderL rows p)]
  refine List.map_congr_left fun x hx => ?_
  exact (R.at (order_mem R hp x hx)).2.2
theorem trim_rows : ∀ r ∈ trimR rows p, r ∈ rows := by
  intro r hr
  obtain ⟨x, hx, rfl⟩ := List.mem_map.mp hr
  exact (R.at (order_mem R hp x hx)).2.1
theorem trim_ok : GRows (trimR rows p) := by
  have e := trim_pls R hp
  have nm : ∀ x ∈ orderL rows p, nameB x = true := fun x hx => R.nm x (order_mem R hp x hx)
  refine ⟨fun r hr => R.rb r (trim_rows R hp r hr), by rw [e]; exact nodup_dist nm (order_nd R hp), fun r hr s hs => ?_, fun r hr => R.vb r (trim_rows R hp r hr), by
    have := order_len R hp
    have := R.n
    simp [trimR]; omega⟩
  rw [e]
  obtain ⟨x, hx, rfl⟩ := List.mem_map.mp hr
  have := order_closed R hp x hx s hs
  exact hasK_mem this (nameB_nod (nm _ this))
theorem trim_at {x : PV} (hx : x ∈ orderL rows p) : rowAt (trimR rows p) x = rowAt rows x := by
  have T := trim_ok R hp
  have e := trim_pls R hp
  have h1 : rowAt rows x ∈ trimR rows p := List.mem_map_of_mem hx
  have h2 := (R.at (order_mem R hp x hx)).2.2
  have hn := R.nm x (order_mem R hp x hx)
  have := tb_get (r := rowAt rows x) (by rw [h2]; exact nameB_nod hn) T.di h1
  rw [h2] at this
  simp [rowAt] at this ⊢
  rw [this]
  rfl
theorem trim_it : ∀ (n i : Nat) (F : FD), itF rows n i F <+: foundF rows p → itF (trimR rows p) n i F = itF rows n i F
  | 0, i, F, _ => rfl
  | n + 1, i, F, h => by
    have h1 : turnF (trimR rows p) i F = turnF rows i F := by
      unfold turnF
      cases q : F[i]? with
      | none => rfl
      | some e =>
        have hx : e.1 ∈ orderL rows p := by
          have h0 : F <+: foundF rows p := (itF_pre rows (n + 1) i F).trans h
          exact pre_ks h0 (List.mem_map_of_mem (List.mem_of_getElem? q))
        simp only [trim_at R hp hx]
    rw [itF, itF, h1]
    exact trim_it n (i + 1) (turnF rows i F) h
theorem trim_found : foundF (trimR rows p) p = foundF rows p := by
  have hl : (trimR rows p).length = (foundF rows p).length := by simp [trimR, orderL, ks]
  have hle := (found_ok R hp).le R
  have e1 : foundF rows p = itF rows (foundF rows p).length 0 [(p, .non)] := by
    have := itF_add rows (foundF rows p).length (rows.length - (foundF rows p).length) 0 [(p, .non)]
    rw [show (foundF rows p).length + (rows.length - (foundF rows p).length) = rows.length by omega] at this
    have hpre : (itF rows (foundF rows p).length 0 [(p, .non)]).length ≤ (foundF rows p).length := by
      have hp2 : itF rows (foundF rows p).length 0 [(p, .non)] <+: foundF rows p := by
        conv => rhs; rw [foundF, this]
        exact itF_pre _ _ _ _
      exact hp2.length_le
    have hs := itF_stop rows (rows.length - (foundF rows p).length) (0 + (foundF rows p).length) (itF rows (foundF rows p).length 0 [(p, .non)]) (by rw [Nat.zero_add]; exact hpre)
    rw [hs] at this
    exact this
  have e2 : foundF (trimR rows p) p = itF (trimR rows p) (foundF rows p).length 0 [(p, .non)] := by rw [foundF, hl]
  rw [e2, trim_it R hp _ 0 _ (by rw [← e1]; exact List.prefix_refl _), ← e1]
theorem trim_trim : trimR (trimR rows p) p = trimR rows p := by
  have e : orderL (trimR rows p) p = orderL rows p := by rw [orderL, trim_found R hp]; rfl
  unfold trimR at e ⊢
  rw [e]
  exact List.map_congr_left fun x hx => trim_at R hp hx
end
end G
namespace G
def lt_b0 : List S := [.put 1 (.sub (.var 2) (.con (.int 0))) (.var 2)]
def lt_B : List S := [.own 1 (.dct [] []),
    .loop (.one 2) (.seq (.sub (.var 0) (.con (.int 2)))) lt_b0,
    .frz 1,
    .ret (.var 1)]
def lst_B : List S := [.ite (.cmp .eq (.sub (.var 0) (.con (.int 1))) (.con (.int 0))) [.ret (.tup [])] [],
    .ret (.sub (.var 0) (.con (.int 2)))]
def lo_b0 : List S := [.ite (.cmp .nin (.sub (.var 5) (.con (.int 1))) (.var 2)) [.put 2 (.sub (.var 5) (.con (.int 1))) (.con (.bl true)),
    .app 3 (.sub (.var 5) (.con (.int 1)))] []]
def lo_b1 (st : Nat) : List S := [.ite (.cmp .lt (.var 4) (.bi .len [(.var 3)])) [.loop (.one 5) (.seq (.call st [(.sub (.var 0) (.sub (.var 3) (.var 4)))])) lo_b0] []]
def lo_B (st : Nat) : List S := [.own 2 (.dct [(.var 1)] [(.con (.bl true))]),
    .own 3 (.lst [(.var 1)]),
    .loop (.one 4) (.rng [(.bi .len [(.var 0)])]) (lo_b1 st),
    .frz 3,
    .ret (.bi .tuple [(.var 3)])]
def rc_B (cg to cp of : Nat) : List S := [.exp (.call cg [(.var 0)]),
    .set (.one 2) (.call to [(.var 0)]),
    .exp (.call cp [(.var 2), (.var 1)]),
    .ret (.bi .tuple [(.sub (.call of [(.var 2), (.var 1)]) (.con (.int 0)))])]
def tm_B (cg to of : Nat) : List S := [.exp (.call cg [(.var 0)]),
    .set (.one 1) (.call to [(.var 0)]),
    .set (.one 2) (.sub (.call of [(.var 1), (.sub (.var 0) (.con (.int 1)))]) (.con (.int 0))),
    .ret (.tup [(.con (.str ['g', 'a', 'm', 'e'])), (.sub (.var 0) (.con (.int 1))), (.bi .tuple [(.lc [3] (.one 3) (.seq (.var 2)) none (.sub (.var 1) (.var 3)))])])]

section
variable {P : Prog} {w : Nat}
theorem lt_walk {c : Orc} (v : Slot) : ∀ (r d : List PV) (s2 : Slot), (∀ x ∈ r, rowB x = true) → distL (pls (d ++ r)) = true → d.length + r.length ≤ 1000 →
    ∃ s2', forL (denSs P.anc P.nf w c lt_b0) (asg (.one 2)) r [v, .od (tb d), s2] = .nx [v, .od (tb (d ++ r)), s2']
  | [], d, s2, _, _, _ => ⟨s2, by rw [List.append_nil]; rfl⟩
  | a :: r, d, s2, hr, hd, hl => by
    have ha := hr a List.mem_cons_self
    obtain ⟨p, s, t, rfl, h1, h2, h3⟩ := rowB_form ha
    have e : d ++ PV.tup [p, s, t] :: r = (d ++ [.tup [p, s, t]]) ++ r := by simp
    have hno : hasK (pls d) (plP (.tup [p, s, t])) = false := by
      have e1 : pls (d ++ PV.tup [p, s, t] :: r) = (pls d ++ [p]) ++ pls r := by simp [pls, plP]
      rw [e1] at hd
      have : distL (pls d ++ [p]) = true := by
        cases q : distL (pls d ++ [p]) with
        | true => rfl
        | false => rw [distL_pre _ _ q] at hd; cases hd
      rw [distL_snoc] at this
      simp only [Bool.and_eq_true, Bool.not_eq_true'] at this
      exact this.2
    have hs := dset_tb (.tup [p, s, t]) hno
    simp only [plP] at hs
    simp only [List.length_cons] at hl
    obtain ⟨t2, ih⟩ := lt_walk (c := c) v r (d ++ [.tup [p, s, t]]) (.sh (.tup [p, s, t])) (fun x hx => hr x (List.mem_cons_of_mem _ hx)) (by rw [← e]; exact hd) (by simp; omega)
    refine ⟨t2, ?_⟩
    have hk := nameB_key h1
    have hlt : (tb d).length < lineMax := by simp [tb]; unfold lineMax; omega
    have hdl : d.length < lineMax := by unfold lineMax; omega
    rw [e, ← ih]
    exact forL_step (e1 := [v, .od (tb d), .sh (.tup [p, s, t])]) (by simp) (by simp [lt_b0, ixAt, ofO, hk, hs, hlt, hdl])
theorem lt_ok {n f : Nat} {x : String} (h : P.defs[f]? = some ⟨x, 1, 3, lt_B⟩) {rows : List PV} (R : GRows rows) (g st : PV) : P.call w (n + 1) f [.tup [g, st, .tup rows]] = .ok (.dct (tb rows)) := by
  rw [call_at h rfl]
  have hn := R.n
  obtain ⟨s2, W⟩ := lt_walk (P := P) (w := w) (c := P.call w n) (.sh (.tup [g, st, .tup rows])) rows [] .un R.rb R.di (by simp; omega)
  rw [List.nil_append, show tb ([] : List PV) = [] from rfl] at W
  have g2 : pvSub (.tup [g, st, .tup rows]) (.int 2) = .ok (.tup rows) := rfl
  generalize PV.tup [g, st, .tup rows] = A at *
  simp [lt_B, keyBs, g2, W]
theorem lst_ok {n f : Nat} {x : String} (h : P.defs[f]? = some ⟨x, 1, 1, lst_B⟩) {r : PV} (hr : rowB r = true) : P.call w (n + 1) f [r] = .ok (.tup (stsP r)) := by
  rw [call_at h rfl]
  obtain ⟨p, s, t, rfl, h1, h2, h3⟩ := rowB_form hr
  cases s <;> simp only [withinB] at h2 <;> try cases h2
  rename_i i
  have ho : G.okEq (.int i) (.int 0) = true := by simp [G.okEq, G.flat, G.nod]
  by_cases q : i = 0
  · subst q
    simp [lst_B, ixAt, ho, stsP, ofO]
  · rw [if_neg (by simp [q])] at h3
    obtain ⟨l, rfl⟩ := stepsB_form h3
    simp [lst_B, ixAt, ho, stsP, ofO, q]
/-! the law's own walk -/
def dF (F : FD) : FD := F.map fun e => (e.1, .bl true)
theorem ks_dF (F : FD) : ks (dF F) = ks F := by simp [ks, dF]
theorem lo_in {c : Orc} {rows : List PV} (R : GRows rows) (tbl p i h : PV) : ∀ (l : List PV) (F : FD) (s5 : Slot), OkF rows F → (∀ s ∈ l, stB s = true ∧ aftP s ∈ pls rows) → ∃ s5',
    forL (denSs P.anc P.nf w c lo_b0) (asg (.one 5)) l [.sh tbl, .sh p, .od (dF F), .ol (ks F), .sh i, s5] =
      .nx [.sh tbl, .sh p, .od (dF (expF h F l)), .ol (ks (expF h F l)), .sh i, s5']
  | [], F, s5, _, _ => ⟨s5, rfl⟩
  | s :: r, F, s5, o, hl => by
    obtain ⟨h1, h2⟩ := hl s List.mem_cons_self
    obtain ⟨m, a, e, rfl, g1, g2, g3⟩ := stB_form h1
    have hk := nameB_key g2
    have hg := dget_F a (dF F)
    rw [ks_dF] at hg
    have hle := o.le R
    have hn := R.n
    have hFl : (dF F).length < lineMax := by simp [dF]; unfold lineMax; omega
    have hkl : (ks F).length < lineMax := by simp [ks]; unfold lineMax; omega
    have o' := addF_ok R (h := h) o h2
    obtain ⟨t5, ih⟩ := lo_in (c := c) R tbl p i h r (addF h F (.tup [m, a, e])) (.sh (.tup [m, a, e])) o' fun x hx => hl x (List.mem_cons_of_mem _ hx)
    refine ⟨t5, ?_⟩
    have e2 : denSs P.anc P.nf w c lo_b0 [.sh tbl, .sh p, .od (dF F), .ol (ks F), .sh i, .sh (.tup [m, a, e])] =
        .nx [.sh tbl, .sh p, .od (dF (addF h F (.tup [m, a, e]))), .ol (ks (addF h F (.tup [m, a, e]))), .sh i, .sh (.tup [m, a, e])] := by
      cases q : hasK (ks F) a with
      | true =>
        rw [q] at hg
        have : addF h F (.tup [m, a, e]) = F := by simp [addF, aftP, q]
        rw [this]
        generalize dF F = D at *
        simp [lo_b0, ixAt, ofO, hk, hg]
      | false =>
        rw [q] at hg
        have : addF h F (.tup [m, a, e]) = F ++ [(a, .tup [h, m])] := by simp [addF, aftP, mvP, q]
        rw [this]
        have ek : ks (F ++ [(a, PV.tup [h, m])]) = ks F ++ [a] := by simp [ks]
        have ed : dF (F ++ [(a, PV.tup [h, m])]) = dset (dF F) a (.bl true) := by
          rw [dset_F a _ (by rw [ks_dF]; exact q)]
          simp [dF]
        rw [ek, ed]
        generalize dF F = D at *
        generalize ks F = K at *
        simp [lo_b0, ixAt, ofO, hk, hg, hFl, hkl]
    rw [forL_step (e1 := [.sh tbl, .sh p, .od (dF F), .ol (ks F), .sh i, .sh (.tup [m, a, e])]) (by simp) e2, ih]
    rfl
theorem lo_out {n st : Nat} {x : String} (hs : P.defs[st]? = some ⟨x, 1, 1, lst_B⟩) {rows : List PV} (R : GRows rows) (p : PV) : ∀ (k i : Nat) (F : FD) (s4 s5 : Slot), OkF rows F → ∃ s4' s5',
    forL (denSs P.anc P.nf w (P.call w (n + 1)) (lo_b1 st)) (asg (.one 4)) ((List.range' i k).map fun j : Nat => .int (j : Int)) [.sh (.dct (tb rows)), .sh p, .od (dF F), .ol (ks F), s4, s5] =
      .nx [.sh (.dct (tb rows)), .sh p, .od (dF (itF rows k i F)), .ol (ks (itF rows k i F)), s4', s5']
  | 0, i, F, s4, s5, _ => ⟨s4, s5, rfl⟩
  | k + 1, i, F, s4, s5, o => by
    have step : ∃ s5', denSs P.anc P.nf w (P.call w (n + 1)) (lo_b1 st) [.sh (.dct (tb rows)), .sh p, .od (dF F), .ol (ks F), .sh (.int (i : Int)), s5] = .nx [.sh (.dct (tb rows)), .sh p, .od (dF (turnF rows i F)), .ol (ks (turnF rows i F)), .sh (.int (i : Int)), s5'] := by
      by_cases hlt : i < F.length
      · have hl : ((i : Int) < (ks F).length) := by simp [ks]; omega
        obtain ⟨e, he⟩ : ∃ e, F[i]? = some e := ⟨_, List.getElem?_eq_getElem hlt⟩
        have hx : (ks F)[i]? = some e.1 := by simp [ks, he]
        have hm : e.1 ∈ pls rows := o.mem _ (List.mem_map_of_mem (List.mem_of_getElem? he))
        obtain ⟨a1, a2, a3⟩ := R.at hm
        have hS := lst_ok (w := w) (n := n) hs (R.rb _ a2)
        have hk := nameB_key (R.nm _ hm)
        obtain ⟨t5, W⟩ := lo_in (P := P) (w := w) (c := P.call w (n + 1)) R (.dct (tb rows)) p (.int (i : Int)) e.1 (stsP (rowAt rows e.1)) F s5 o fun s hs => ⟨sts_st (R.rb _ a2) s hs, R.aft a2 hs⟩
        have ht : turnF rows i F = expF e.1 F (stsP (rowAt rows e.1)) := by unfold turnF; rw [he]
        have hix : ixAt (ks F) (i : Int) = some e.1 := by rw [ixAt_nat]; exact hx
        refine ⟨t5, ?_⟩
        rw [ht]
        generalize dF F = D at *
        generalize ks F = K at *
        simp [lo_b1, hl, hix, ofO, hk, a1, hS, W]
      · have hnl : ¬ ((i : Int) < (ks F).length) := by simp [ks]; omega
        have ht : turnF rows i F = F := by unfold turnF; rw [List.getElem?_eq_none (by omega)]
        refine ⟨s5, ?_⟩
        rw [ht]
        generalize dF F = D at *
        generalize ks F = K at *
        simp [lo_b1, hnl]
    obtain ⟨t5, W⟩ := step
    obtain ⟨u4, u5, ih⟩ := lo_out (n := n) hs R p k (i + 1) (turnF rows i F) (.sh (.int (i : Int))) t5 (turnF_ok R o)
    refine ⟨u4, u5, ?_⟩
    rw [List.range'_succ, List.map_cons, forL_step (e1 := [.sh (.dct (tb rows)), .sh p, .od (dF F), .ol (ks F), .sh (.int (i : Int)), s5]) (by simp) W, ih]
    rfl
theorem lo_ok {n f st : Nat} {x y : String} (h : P.defs[f]? = some ⟨x, 2, 6, lo_B st⟩) (hs : P.defs[st]? = some ⟨y, 1, 1, lst_B⟩) {rows : List PV} (R : GRows rows) {p : PV} (hp : p ∈ pls rows) : P.call w (n + 2) f [.dct (tb rows), p] = .ok (.tup (orderL rows p)) := by
  rw [call_at h rfl]
  have hk := nameB_key (R.nm p hp)
  have hn := R.n
  obtain ⟨u4, u5, W⟩ := lo_out (P := P) (w := w) (n := n) hs R p rows.length 0 [(p, .non)] .un .un (start_ok hp)
  rw [← List.range_eq_range', ← range1_nat] at W
  have e1 : ks [(p, PV.non)] = [p] := rfl
  have e2 : dF [(p, PV.non)] = [(p, .bl true)] := rfl
  have e3 : biLen (.dct (tb rows)) = .ok (.int (rows.length : Int)) := by simp [biLen, tb]; unfold lineMax; omega
  have rm : rngOk (rows.length : Int) = true := by simp [rngOk]; omega
  have ol : (orderL rows p).length < lineMax := by have := order_len R hp; unfold lineMax; omega
  rw [e1, e2] at W
  have u : ks (itF rows rows.length 0 [(p, .non)]) = orderL rows p := rfl
  rw [u] at W
  generalize dF (itF rows rows.length 0 [(p, .non)]) = D at *
  generalize orderL rows p = K at *
  simp [lo_B, keyBs, hk, dset, e3, rm, W, ol]
/-! reach and trim -/
theorem rc_ok {n f cg to cp of si : Nat} {x y z u : String} (h : P.defs[f]? = some ⟨x, 2, 3, rc_B cg to cp of⟩) (ht : P.defs[to]? = some ⟨y, 1, 2, to_B⟩) (ho : P.defs[of]? = some ⟨z, 2, 9, of_B si⟩) (hs : P.defs[si]? = some ⟨u, 2, 3, si_B⟩) (hw : 1000 < w)
    {g st p : PV} {rows : List PV} (R : GRows rows) (hg : gameB (.tup [g, st, .tup rows]) = true) (hp : p ∈ pls rows)
    (h1 : P.call w (n + 2) cg [.tup [g, st, .tup rows]] = .ok .non) (h2 : P.call w (n + 2) cp [.dct (tb rows), p] = .ok .non) : P.call w (n + 3) f [.tup [g, st, .tup rows], p] = .ok (.tup (orderL rows p)) := by
  rw [call_at h rfl]
  have h3 := to_ok (w := w) (n := n + 1) ht hg
  have h4 := of_ok (w := w) (n := n) ho hs hw R hp
  have ol : (orderL rows p).length < lineMax := by have := order_len R hp; have := R.n; unfold lineMax; omega
  generalize PV.tup [g, st, .tup rows] = A at *
  generalize orderL rows p = K at *
  simp [rc_B, h1, h2, h3, h4, ixAt, ofO, ol]
theorem tm_lc {c : Orc} {anc : List (List Nat)} {A : Slot} {s2 s3 : Slot} {rows : List PV} (R : GRows rows) (l : List PV) (hl : ∀ x ∈ l, x ∈ pls rows) :
    lcL (asg (.one 3)) (tstQ c anc none) (eltF c anc (.sub (.var 1) (.var 3))) [A, .sh (.dct (tb rows)), s2, s3] l = .ok (l.map (rowAt rows)) :=
  lcL_map fun x hx => by
    have hk := nameB_key (R.nm x (hl x hx))
    have hd := (R.at (hl x hx)).1
    exact ⟨[A, .sh (.dct (tb rows)), s2, .sh x], by simp, rfl, by simp [eltF, hk, hd, ofO]⟩
theorem tm_ok {n f cg to of si : Nat} {x y z u : String} (h : P.defs[f]? = some ⟨x, 1, 4, tm_B cg to of⟩) (ht : P.defs[to]? = some ⟨y, 1, 2, to_B⟩) (ho : P.defs[of]? = some ⟨z, 2, 9, of_B si⟩) (hs : P.defs[si]? = some ⟨u, 2, 3, si_B⟩) (hw : 1000 < w)
    {g st : PV} {rows : List PV} (R : GRows rows) (hg : gameB (.tup [g, st, .tup rows]) = true) (hp : st ∈ pls rows)
    (h1 : P.call w (n + 2) cg [.tup [g, st, .tup rows]] = .ok .non) : P.call w (n + 3) f [.tup [g, st, .tup rows]] = .ok (.tup [.str gameS, st, .tup (trimR rows st)]) := by
  rw [call_at h rfl]
  have h3 := to_ok (w := w) (n := n + 1) ht hg
  have h4 := of_ok (w := w) (n := n) ho hs hw R hp
  have L := tm_lc (c := P.call w (n + 2)) (anc := P.anc) (A := .sh (.tup [g, st, .tup rows])) (s2 := .sh (.lst (orderL rows st))) (s3 := .un) R (orderL rows st) (order_mem R hp)
  have ol : (trimR rows st).length < lineMax := by have := order_len R hp; have := R.n; simp [trimR]; unfold lineMax; omega
  have u : (orderL rows st).map (rowAt rows) = trimR rows st := rfl
  rw [u] at L
  have g1 : pvSub (.tup [g, st, .tup rows]) (.int 1) = .ok st := rfl
  generalize PV.tup [g, st, .tup rows] = A at *
  generalize trimR rows st = T at *
  generalize orderL rows st = K at *
  simp [tm_B, gameS, h1, h3, h4, g1, ixAt, ofO, L, ol]
end
end G
namespace G
/-! ### games of all sizes -/
structure WG (st : PV) (rows : List PV) : Prop where
  game : gameB (.tup [.str gameS, st, .tup rows]) = true
  sz : ∀ r ∈ rows, meas r ≤ 60 ∧ dep r ≤ 6
  q0 : hasK (pls rows) (.str ['q', '0']) = false
theorem stB_tupy {s : PV} (h : stB s = true) : tupy s = true := by
  obtain ⟨m, a, e, rfl, h1, h2, h3⟩ := stB_form h
  have : tupy e = true := by cases e <;> simp only [withinB] at h3 <;> first | (cases h3; done) | simp
  simp [nameB_tupy h1, nameB_tupy h2, this]
theorem rowB_tupy {r : PV} (h : rowB r = true) : tupy r = true := by
  have hs := sts_st h
  obtain ⟨p, s, t, rfl, h1, h2, h3⟩ := rowB_form h
  have e : tupy s = true := by cases s <;> simp only [withinB] at h2 <;> first | (cases h2; done) | simp
  have : tupy t = true := by
    cases q : eqP s (.int 0) with
    | true =>
      rw [q, if_pos rfl] at h3
      cases t <;> simp only [withinB] at h3 <;> first | (cases h3; done) | simp
    | false =>
      rw [q, if_neg (by simp)] at h3
      obtain ⟨l, rfl⟩ := stepsB_form h3
      have el : stsP (.tup [p, s, .tup l]) = l := by simp [stsP, q]
      rw [el] at hs
      rw [tupy_tup, tupyL_iff]
      exact fun x hx => stB_tupy (hs x hx)
  simp [nameB_tupy h1, e, this]
section
variable {st : PV} {rows : List PV} (W : WG st rows)
include W
theorem WG.sp : st ∈ pls rows := by
  obtain ⟨-, h1, h2, h3, h4, h5, h6⟩ := gameB_all W.game
  refine (hasK_iff (fun x hx => ?_) h4).mp h5
  obtain ⟨r, hr, rfl⟩ := List.mem_map.mp hx
  obtain ⟨a, s, t, rfl, h, -⟩ := rowB_form (List.all_eq_true.mp h2 r hr)
  exact h
theorem WG.pz : ∀ p ∈ pls rows, meas p ≤ 60 ∧ dep p ≤ 6 := by
  intro p hp
  obtain ⟨-, h1, h2, h3, h4, h5, h6⟩ := gameB_all W.game
  obtain ⟨r, hr, rfl⟩ := List.mem_map.mp hp
  have := W.sz r hr
  obtain ⟨a, s, t, rfl, h, -⟩ := rowB_form (List.all_eq_true.mp h2 r hr)
  rw [meas_tup, measL_cons, dep_tup, depL_cons] at this
  show meas a ≤ 60 ∧ dep a ≤ 6
  omega
theorem WG.vb : VB (.tup [.str gameS, st, .tup rows]) ∧ meas (.tup [.str gameS, st, .tup rows]) ≤ 40000 ∧ dep (.tup [.str gameS, st, .tup rows]) ≤ 8 := by
  have m := measL_le (k := 60) fun r hr => (W.sz r hr).1
  have d := depL_le (k := 6) fun r hr => (W.sz r hr).2
  have s := W.pz st W.sp
  obtain ⟨-, h1, -⟩ := gameB_all W.game
  have e : meas (.str gameS) = 1 := by rw [meas_str, if_pos (by decide)]
  have a : meas (.tup [.str gameS, st, .tup rows]) ≤ 40000 := by rw [meas_tup, measL_cons, measL_cons, measL_cons, measL_nil, meas_tup, e]; omega
  have b : dep (.tup [.str gameS, st, .tup rows]) ≤ 8 := by rw [dep_tup, depL_cons, depL_cons, depL_cons, depL_nil, dep_tup, dep_str]; omega
  exact ⟨⟨by omega, by omega⟩, a, b⟩
theorem WG.R : GRows rows := GRows.of W.game W.vb.1
theorem WG.ty : tupy (.tup [.str gameS, st, .tup rows]) = true := by
  have hs := nameB_tupy (W.R.nm _ W.sp)
  have : tupyL rows = true := tupyL_iff.mpr fun r hr => rowB_tupy (W.R.rb r hr)
  simp [hs, this]
theorem WG.trim : WG st (trimR rows st) := by
  have R := W.R
  have T := trim_ok R W.sp
  have e := trim_pls R W.sp
  obtain ⟨-, h1, h2, h3, h4, h5, h6⟩ := gameB_all W.game
  have hl : (trimR rows st).length ≤ rows.length := by have := order_len R W.sp; simpa [trimR] using this
  have h0 := order_start R W.sp
  have n1 : 1 ≤ (trimR rows st).length := by
    have : 0 < (orderL rows st).length := List.length_pos_of_mem h0
    simp only [trimR, List.length_map]; omega
  refine ⟨?_, fun r hr => W.sz r (trim_rows R W.sp r hr), ?_⟩
  · have a1 : (trimR rows st).all rowB = true := List.all_eq_true.mpr T.rb
    have a2 : leadB (trimR rows st) = true := List.all_eq_true.mpr fun r hr => List.all_eq_true.mpr fun s hs => T.ld r hr s hs
    have a3 : hasK (pls (trimR rows st)) st = true := by rw [e]; exact hasK_mem h0 (nameB_nod h4)
    have a4 : eqP (PV.str gameS) (.str gameS) = true := by decide
    have a5 : (trimR rows st).length ≤ 600 := by omega
    simp only [gameB, a1, a2, a3, a4, T.di, h4]
    simp [n1, a5]
  · rw [e]
    cases q : hasK (orderL rows st) (.str ['q', '0']) with
    | false => rfl
    | true =>
      obtain ⟨x, hx, hq⟩ := List.any_eq_true.mp q
      have : hasK (pls rows) (.str ['q', '0']) = true := List.any_eq_true.mpr ⟨x, order_mem R W.sp x hx, hq⟩
      rw [W.q0] at this
      cases this
end
theorem DG.wg {st : PV} {rows : List PV} (h : DG st rows) : WG st rows := by
  refine ⟨h.game, fun r hr => (h.rows_ok r hr).2, ?_⟩
  cases q : hasK (pls rows) (.str ['q', '0']) with
  | false => rfl
  | true =>
    obtain ⟨e, he, hq⟩ := List.any_eq_true.mp q
    have : hasK gwords (.str ['q', '0']) = true := List.any_eq_true.mpr ⟨e, h.pw _ he, hq⟩
    exact absurd this (by decide)
/-! ### the long ones -/
def en (k : Nat) : PV := .tup [.str ['p'], .int (k : Int)]
theorem en_dist (m : Nat) : distL ((List.range m).map en) = true := by
  induction m with
  | zero => rfl
  | succ m ih =>
    rw [List.range_succ, List.map_append, List.map_cons, List.map_nil, distL_snoc, ih, Bool.true_and]
    simp only [Bool.not_eq_true', List.any_eq_false]
    intro p hp
    obtain ⟨i, hi, rfl⟩ := List.mem_map.mp hp
    have := List.mem_range.mp hi
    simp [en]
    omega
theorem en_name (k : Nat) (h : k < 1000) : nameB (en k) = true := by
  have hw : wordL ['p'] = true := by decide
  have h4 : leavesN 3 (.str ['p']) = 1 := by simp [leavesN, hw]
  have h5 : leavesN 3 (.int (k : Int)) = 1 := by simp [leavesN]; omega
  have h6 : leavesN 4 (en k) = 2 := by
    rw [en, leavesN]
    simp [h4, h5]
  simp [nameB, h6]
  rfl
theorem en_sz (k : Nat) (h : k < 1000) : meas (en k) ≤ 3 ∧ dep (en k) ≤ 1 := by
  have h1 : ((k : Int)).natAbs < 1000000 := by omega
  have h2 : meas (.str ['p']) = 1 := by rw [meas_str, if_pos (by decide)]
  exact ⟨by rw [en, meas_tup, measL_cons, measL_cons, measL_nil, h2, meas_int, if_pos h1]; omega, by simp [en]⟩
def LRow (m : Nat) (r : PV) : Prop := ∃ (k : Nat) (s : Int) (t : PV), k < m ∧ r = .tup [en k, .int s, t] ∧
  ((s = 0 ∧ ∃ e : Int, t = .int e ∧ -1 ≤ e ∧ e ≤ 1) ∨ ((s = 1 ∨ s = -1) ∧ ∃ (j b : Nat) (a : Int), j < m ∧ b < m ∧ (a = 0 ∨ a = 1) ∧ t = .tup [.tup [.str ['x'], en j, .int a], .tup [.str ['g', 'o'], en b, .int 0]]))
structure LG (m : Nat) (st : PV) (rows : List PV) : Prop where
  ps : pls rows = (List.range m).map en
  row : ∀ r ∈ rows, LRow m r
  start : ∃ k, k < m ∧ st = en k
theorem LRow.ok {m : Nat} (hm : m ≤ 600) {r : PV} (h : LRow m r) : rowB r = true ∧ meas r ≤ 60 ∧ dep r ≤ 6 ∧ ∀ s ∈ stsP r, aftP s ∈ (List.range m).map en := by
  obtain ⟨k, s, t, hk, rfl, h⟩ := h
  have a1 := en_name k (by omega)
  obtain ⟨a2, a3⟩ := en_sz k (by omega)
  rcases h with ⟨rfl, e, rfl, h1, h2⟩ | ⟨hs, j, b, a, hj, hb, ha, rfl⟩
  · have he : e.natAbs < 1000000 := by omega
    refine ⟨?_, ?_, ?_, ?_⟩
    · simp [rowB, a1]; omega
    · rw [meas_tup, measL_cons, measL_cons, measL_cons, measL_nil, meas_int, meas_int, if_pos he]; simp; omega
    · rw [dep_tup, depL_cons, depL_cons, depL_cons, depL_nil, dep_int, dep_int]; omega
    · simp [stsP]
  · have b1 := en_name j (by omega)
    obtain ⟨b2, b3⟩ := en_sz j (by omega)
    have c1 := en_name b (by omega)
    obtain ⟨c2, c3⟩ := en_sz b (by omega)
    have x1 : nameB (.str ['x']) = true := by decide
    have x2 : nameB (.str ['g', 'o']) = true := by decide
    have y1 : meas (.str ['x']) = 1 := by rw [meas_str, if_pos (by decide)]
    have y2 : meas (.str ['g', 'o']) = 1 := by rw [meas_str, if_pos (by decide)]
    have h0 : ¬ s = 0 := by omega
    have hsa : s.natAbs < 1000000 := by omega
    have haa : a.natAbs < 1000000 := by omega
    have st1 : stB (.tup [.str ['x'], en j, .int a]) = true := by
      simp only [stB, x1, b1, withinB_int, Bool.true_and]; simp; omega
    have st2 : stB (.tup [.str ['g', 'o'], en b, .int 0]) = true := by
      simp only [stB, x2, c1, withinB_int, Bool.true_and]; simp
    have sb : stepsB (.tup [.tup [.str ['x'], en j, .int a], .tup [.str ['g', 'o'], en b, .int 0]]) = true := by
      rw [stepsB_tup]
      simp [st1, st2, mvP, distL]
    refine ⟨?_, ?_, ?_, ?_⟩
    · simp [rowB, a1, sb, h0]; omega
    · simp only [meas_tup, measL_cons, measL_nil, meas_int, if_pos hsa, if_pos haa, y1, y2]; simp; omega
    · simp only [dep_tup, depL_cons, depL_nil, dep_int, dep_str]; omega
    · intro x hx
      simp [stsP, h0] at hx
      rcases hx with rfl | rfl
      · exact List.mem_map.mpr ⟨j, List.mem_range.mpr hj, rfl⟩
      · exact List.mem_map.mpr ⟨b, List.mem_range.mpr hb, rfl⟩
theorem LG.wg {m : Nat} (h1 : 1 ≤ m) (hm : m ≤ 600) {st : PV} {rows : List PV} (h : LG m st rows) : WG st rows := by
  have hl : rows.length = m := by
    have := congrArg List.length h.ps
    simpa [pls] using this
  have hd : distL (pls rows) = true := by rw [h.ps]; exact en_dist m
  have nm : ∀ x ∈ pls rows, nameB x = true := fun x hx => by
    rw [h.ps] at hx
    obtain ⟨k, hk, rfl⟩ := List.mem_map.mp hx
    exact en_name k (by have := List.mem_range.mp hk; omega)
  obtain ⟨k, hk, rfl⟩ := h.start
  have hs : en k ∈ pls rows := by rw [h.ps]; exact List.mem_map.mpr ⟨k, List.mem_range.mpr hk, rfl⟩
  refine ⟨?_, fun r hr => ⟨((h.row r hr).ok hm).2.1, ((h.row r hr).ok hm).2.2.1⟩, ?_⟩
  · have a1 : rows.all rowB = true := List.all_eq_true.mpr fun r hr => ((h.row r hr).ok hm).1
    have a2 : leadB rows = true := List.all_eq_true.mpr fun r hr => List.all_eq_true.mpr fun s hs => by
      have := ((h.row r hr).ok hm).2.2.2 s hs
      rw [← h.ps] at this
      exact hasK_mem this (nameB_nod (nm _ this))
    have a3 : hasK (pls rows) (en k) = true := hasK_mem hs (nameB_nod (nm _ hs))
    have a4 : eqP (PV.str gameS) (.str gameS) = true := by decide
    simp only [gameB, a1, a2, a3, a4, hd, nm _ hs]
    simp; omega
  · rw [h.ps]
    cases q : hasK ((List.range m).map en) (.str ['q', '0']) with
    | false => rfl
    | true =>
      obtain ⟨e, he, hq⟩ := List.any_eq_true.mp q
      obtain ⟨k, hk, rfl⟩ := List.mem_map.mp he
      simp [en, eqP] at hq
def ll_b0 : List S := [.set (.one 4) (.bin .mod (.bi .int [(.bin .mul (.var 3) (.sub (.var 1) (.con (.int 0))))]) (.var 0)),
    .ite (.cmp .eq (.bin .mod (.bi .int [(.sub (.var 1) (.con (.int 1)))]) (.con (.int 2))) (.con (.int 1))) [.set (.one 4) (.bin .add (.bin .add (.var 3) (.con (.int 1))) (.bin .mod (.bi .int [(.bin .mul (.var 3) (.sub (.var 1) (.con (.int 0))))]) (.bin .sub (.bin .sub (.var 0) (.con (.int 1))) (.var 3))))] [],
    .set (.one 5) (.tup [(.tup [(.con (.str ['x'])), (.tup [(.con (.str ['p'])), (.bin .add (.var 3) (.con (.int 1)))]), (.bin .mod (.bi .int [(.bin .fdiv (.var 3) (.con (.int 3)))]) (.con (.int 2)))]), (.tup [(.con (.str ['g', 'o'])), (.tup [(.con (.str ['p'])), (.var 4)]), (.con (.int 0))])]),
    .app 2 (.tup [(.tup [(.con (.str ['p'])), (.var 3)]), (.bin .sub (.con (.int 1)) (.bin .mul (.con (.int 2)) (.bin .mod (.bi .int [(.bin .add (.var 3) (.sub (.var 1) (.con (.int 2))))]) (.con (.int 2))))), (.var 5)])]
def ll_B : List S := [.own 2 (.lst []),
    .loop (.one 3) (.rng [(.bin .sub (.var 0) (.con (.int 1)))]) ll_b0,
    .app 2 (.tup [(.tup [(.con (.str ['p'])), (.bin .sub (.var 0) (.con (.int 1)))]), (.con (.int 0)), (.bin .sub (.bin .mod (.bi .int [(.sub (.var 1) (.con (.int 3)))]) (.con (.int 3))) (.con (.int 1)))]),
    .frz 2,
    .ret (.tup [(.con (.str ['g', 'a', 'm', 'e'])), (.tup [(.con (.str ['p'])), (.bin .mod (.bi .int [(.sub (.var 1) (.con (.int 4)))]) (.var 0))]), (.bi .tuple [(.var 2)])])]
def lw_B (lc lr lg ll : Nat) : List S := [.set (.one 1) (.call lr [(.call lc [(.var 0), (.con (.int 2))]), (.con (.int 8))]),
    .ite (.cmp .eq (.bin .mod (.sub (.var 1) (.con (.int 7))) (.con (.int 4))) (.con (.int 1))) [.ret (.call ll [(.bin .add (.con (.int 2)) (.bin .mod (.bin .add (.bin .mul (.sub (.var 1) (.con (.int 5))) (.con (.int 7))) (.sub (.var 1) (.con (.int 6)))) (.con (.int 599)))), (.var 1)])] [],
    .ret (.call lg [(.call lr [(.call lc [(.var 0), (.con (.int 0))]), (.con (.int 30))])])]

section
variable {P : Prog} {w : Nat}
theorem ll_step {c : Orc} (ds : List Int) (hd : ds.length = 8) (hr : inR 1000 ds) (m : Nat) (h2 : 2 ≤ m) (h6 : m ≤ 600) (rows : List PV) (k : Nat) (hk : k + 1 < m) (hl : rows.length = k) (s4 s5 : Slot) : ∃ r s4' s5', LRow m r ∧ plP r = en k ∧
    denSs P.anc P.nf w c ll_b0 [.sh (.int (m : Int)), .sh (.lst (il ds)), .ol rows, .sh (.int (k : Int)), s4, s5] = .nx [.sh (.int (m : Int)), .sh (.lst (il ds)), .ol (rows ++ [r]), .sh (.int (k : Int)), s4', s5'] := by
  obtain ⟨x0, i0, -, x1, x2⟩ := il_at hr (i := 0) (by omega) (by omega)
  obtain ⟨y0, i1, -, y1, y2⟩ := il_at hr (i := 1) (by omega) (by omega)
  obtain ⟨z0, i2, -, z1, z2⟩ := il_at hr (i := 2) (by omega) (by omega)
  have sk : mulOk (k : Int) x0 = true := mul_l (by simp [small64]; omega)
  obtain ⟨b, hb, eb⟩ := mod_nat ((k : Int) * x0) m (by omega)
  obtain ⟨b2, hb2, eb2⟩ := mod_nat ((k : Int) * x0) (m - 1 - k) (by omega)
  have em : ((m - 1 - k : Nat) : Int) = (m : Int) - 1 - (k : Int) := by omega
  rw [em] at eb2
  have hm0 : (0 : Int) < (m : Int) := by omega
  have hm1 : (0 : Int) < (m : Int) - 1 - (k : Int) := by omega
  have hm2 : (k : Int) < (m : Int) - 1 := by omega
  have hm3 : 0 < m := by omega
  have hlt : rows.length < lineMax := by unfold lineMax; omega
  have ms : mulOk 2 (((k : Int) + z0) % 2) = true := mul_l (by decide)
  obtain ⟨s, hs, es⟩ : ∃ s : Int, (s = 1 ∨ s = -1) ∧ 1 - 2 * (((k : Int) + z0) % 2) = s := ⟨_, by omega, rfl⟩
  obtain ⟨a, ha, ea⟩ : ∃ a : Int, (a = 0 ∨ a = 1) ∧ ((k : Int) / 3) % 2 = a := ⟨_, by omega, rfl⟩
  by_cases q : y0 % 2 = 1
  · refine ⟨.tup [en k, .int s, .tup [.tup [.str ['x'], en (k + 1), .int a], .tup [.str ['g', 'o'], en (k + 1 + b2), .int 0]]], .sh (.int ((k : Int) + 1 + b2)), .sh (.tup [.tup [.str ['x'], en (k + 1), .int a], .tup [.str ['g', 'o'], en (k + 1 + b2), .int 0]]),
      ⟨k, s, _, by omega, rfl, .inr ⟨hs, k + 1, k + 1 + b2, a, by omega, by omega, ha, rfl⟩⟩, rfl, ?_⟩
    simp -implicitDefEqProofs [ll_b0, i0, i1, i2, sk, eb, eb2, hm0, hm1, hm2, hm3, oeq, q, ms, es, ea, hlt, en]
  · refine ⟨.tup [en k, .int s, .tup [.tup [.str ['x'], en (k + 1), .int a], .tup [.str ['g', 'o'], en b, .int 0]]], .sh (.int b), .sh (.tup [.tup [.str ['x'], en (k + 1), .int a], .tup [.str ['g', 'o'], en b, .int 0]]),
      ⟨k, s, _, by omega, rfl, .inr ⟨hs, k + 1, b, a, by omega, by omega, ha, rfl⟩⟩, rfl, ?_⟩
    simp -implicitDefEqProofs [ll_b0, i0, i1, i2, sk, eb, eb2, hm0, hm1, hm2, hm3, oeq, q, ms, es, ea, hlt, en]
theorem ll_ok {n f : Nat} {x : String} (h : P.defs[f]? = some ⟨x, 2, 6, ll_B⟩) (ds : List Int) (hd : ds.length = 8) (hr : inR 1000 ds) (m : Nat) (h2 : 2 ≤ m) (h6 : m ≤ 600) : ∃ st rows, P.call w (n + 1) f [.int (m : Int), .lst (il ds)] = .ok (.tup [.str gameS, st, .tup rows]) ∧ LG m st rows := by
  rw [call_at h rfl]
  obtain ⟨x3, i3, -, -, -⟩ := il_at hr (i := 3) (by omega) (by omega)
  obtain ⟨x4, i4, -, -, -⟩ := il_at hr (i := 4) (by omega) (by omega)
  have em : ((m - 1 : Nat) : Int) = (m : Int) - 1 := by omega
  have L := forL_inv (body := denSs P.anc P.nf w (P.call w n) ll_b0) (asn := asg (.one 3)) (fun k e => ∃ rows s3 s4 s5, e = [.sh (.int (m : Int)), .sh (.lst (il ds)), .ol rows, s3, s4, s5] ∧ rows.length = k ∧ pls rows = (List.range k).map en ∧ ∀ r ∈ rows, LRow m r) (range1 0 ((m - 1 : Nat) : Int)) 0
    [.sh (.int (m : Int)), .sh (.lst (il ds)), .ol [], .un, .un, .un] ⟨[], .un, .un, .un, rfl, rfl, rfl, fun _ h => nomatch h⟩ (fun i p hp e he => by
      obtain ⟨rows, s3, s4, s5, rfl, g1, g2, g3⟩ := he
      obtain ⟨hp1, hp2⟩ := range1_get hp
      rw [Int.zero_add] at hp1 hp2
      subst hp1
      rw [Nat.zero_add] at g1 g2
      obtain ⟨r, t4, t5, hL, hpl, W⟩ := ll_step (P := P) (w := w) (c := P.call w n) ds hd hr m h2 h6 rows i (by omega) g1 s4 s5
      refine ⟨_, _, by simp, W, _, _, _, _, rfl, by simp [g1], ?_, ?_⟩
      · rw [show 0 + i + 1 = i + 1 by omega, List.range_succ, List.map_append, ← g2]
        simp [pls, hpl]
      · intro x hx
        rcases List.mem_append.mp hx with hx | hx
        · exact g3 x hx
        · rw [List.mem_singleton] at hx
          rw [hx]
          exact hL)
  obtain ⟨e, l1, rows, s3, s4, s5, rfl, g1, g2, g3⟩ := L
  rw [range1_len, em] at g1
  rw [em] at l1
  rw [range1_len, em] at g2
  have hk : 0 + ((m : Int) - 1 - 0).toNat = m - 1 := by omega
  rw [hk] at g1 g2
  obtain ⟨v, hv, ev⟩ : ∃ v : Int, (-1 ≤ v ∧ v ≤ 1) ∧ x3 % 3 - 1 = v := ⟨_, by omega, rfl⟩
  obtain ⟨b, hb, eb⟩ := mod_nat x4 m (by omega)
  have hm0 : (0 : Int) < (m : Int) := by omega
  have hm3 : 0 < m := by omega
  have rm : rngOk ((m : Int) - 1) = true := by simp [rngOk]; omega
  have hlt : rows.length < lineMax := by unfold lineMax; omega
  have e1 : (PV.tup [.str ['p'], .int ((m : Int) - 1)]) = en (m - 1) := by rw [en, em]
  have hl2 : (rows ++ [PV.tup [en (m - 1), .int 0, .int v]]).length < lineMax := by simp; unfold lineMax; omega
  refine ⟨en b, rows ++ [.tup [en (m - 1), .int 0, .int v]], ?_, ⟨?_, ?_, ⟨b, hb, rfl⟩⟩⟩
  · have e2 : en b = .tup [.str ['p'], .int (b : Int)] := rfl
    rw [← e1] at hl2 ⊢
    rw [e2]
    simp -implicitDefEqProofs [ll_B, rm, l1, hlt, i3, ev, i4, eb, hm0, hm3, gameS]
  · conv => rhs; rw [show m = (m - 1) + 1 by omega, List.range_succ, List.map_append, ← g2]
    simp [pls, plP]
  · intro x hx
    rcases List.mem_append.mp hx with hx | hx
    · exact g3 x hx
    · rw [List.mem_singleton] at hx
      rw [hx]
      exact ⟨m - 1, 0, _, by omega, rfl, .inl ⟨rfl, v, rfl, hv.1, hv.2⟩⟩
theorem lw_ok {n f lc lr ls lg ll : Nat} {x a b c d e : String} (h : P.defs[f]? = some ⟨x, 1, 2, lw_B lc lr lg ll⟩) (hc : P.defs[lc]? = some ⟨a, 2, 2, lc_B⟩) (hr : P.defs[lr]? = some ⟨b, 2, 7, lr_B⟩)
    (hg : P.defs[lg]? = some ⟨c, 1, 7, lg_B ls⟩) (hs : P.defs[ls]? = some ⟨d, 2, 9, ls_B⟩) (hl : P.defs[ll]? = some ⟨e, 2, 6, ll_B⟩) (ns : List Int) : ∃ st rows, P.call w (n + 3) f [.lst (il ns)] = .ok (.tup [.str gameS, st, .tup rows]) ∧ WG st rows := by
  rw [call_at h rfl]
  obtain ⟨c2, h2⟩ := lc_ok (P := P) (w := w) (n := n + 1) hc ns 2
  obtain ⟨d2, h3, hd, hr2⟩ := lr_ok (P := P) (w := w) (n := n + 1) hr c2 8 (by decide)
  obtain ⟨c0, h0⟩ := lc_ok (P := P) (w := w) (n := n + 1) hc ns 0
  obtain ⟨d0, h1, hd0, hr0⟩ := lr_ok (P := P) (w := w) (n := n + 1) hr c0 30 (by decide)
  obtain ⟨x7, i7, -, -, -⟩ := il_at hr2 (i := 7) (by omega) (by omega)
  obtain ⟨x5, i5, -, y1, y2⟩ := il_at hr2 (i := 5) (by omega) (by omega)
  obtain ⟨x6, i6, -, -, -⟩ := il_at hr2 (i := 6) (by omega) (by omega)
  simp only [Int.cast_ofNat_Int] at h0 h1 h2 h3
  by_cases q : x7 % 4 = 1
  · obtain ⟨b, hb, eb⟩ := mod_nat (x5 * 7 + x6) 599 (by decide)
    simp only [Int.cast_ofNat_Int] at eb
    obtain ⟨st, rows, h4, L⟩ := ll_ok (w := w) (n := n + 1) hl d2 hd hr2 (2 + b) (by omega) (by omega)
    have m7 : mulOk x5 7 = true := mul_r (by decide)
    refine ⟨st, rows, ?_, L.wg (by omega) (by omega)⟩
    rw [show ((2 + b : Nat) : Int) = 2 + (b : Int) by omega] at h4
    generalize PV.tup [.str gameS, st, .tup rows] = A at *
    simp -implicitDefEqProofs [lw_B, h2, h3, i7, q, i5, i6, oeq, m7, eb, h4]
  · obtain ⟨st, rows, h4, D⟩ := lg_ok (w := w) (n := n) hg hs d0 hd0 hr0
    refine ⟨st, rows, ?_, D.wg⟩
    generalize PV.tup [.str gameS, st, .tup rows] = A at *
    simp -implicitDefEqProofs [lw_B, h2, h3, i7, q, oeq, h0, h1, h4]
end
end G
namespace G
/-! ### how a place was found -/
def gF (rows : List PV) (p : PV) (n : Nat) : FD := itF rows n 0 [(p, .non)]
section
variable {rows : List PV} {p : PV}
theorem gF_succ (n : Nat) : gF rows p (n + 1) = turnF rows n (gF rows p n) := by
  unfold gF
  rw [itF_succ, Nat.zero_add]
theorem gF_pre : ∀ {n m : Nat}, n ≤ m → gF rows p n <+: gF rows p m := by
  intro n m h
  obtain ⟨k, rfl⟩ := Nat.exists_eq_add_of_le h
  unfold gF
  rw [itF_add]
  exact itF_pre _ _ _ _
theorem gF_len {n m : Nat} (h : n ≤ m) : (gF rows p n).length ≤ (gF rows p m).length := (gF_pre h).length_le
theorem gF_lt {n m : Nat} (h : (gF rows p n).length < (gF rows p m).length) : n < m := by
  rcases Nat.lt_or_ge n m with q | q
  · exact q
  · have := gF_len (rows := rows) (p := p) q
    omega
theorem gF_stop {n m : Nat} (h : (gF rows p n).length ≤ n) (hm : n ≤ m) : gF rows p m = gF rows p n := by
  obtain ⟨k, rfl⟩ := Nat.exists_eq_add_of_le hm
  unfold gF at h ⊢
  rw [itF_add, itF_stop rows k (0 + n) _ (by rw [Nat.zero_add]; exact h)]
theorem expF_new (h : PV) : ∀ (l : List PV) (F : FD) (j : Nat) (e : PV × PV), (expF h F l)[j]? = some e → F[j]? = some e ∨ (F.length ≤ j ∧ ∃ s ∈ l, e = (aftP s, .tup [h, mvP s]))
  | [], F, j, e, he => .inl he
  | s :: r, F, j, e, he => by
    rcases expF_new h r (addF h F s) j e he with g | ⟨g, x, hx, rfl⟩
    · unfold addF at g
      split at g
      · exact .inl g
      · rcases Nat.lt_or_ge j F.length with q | q
        · rw [List.getElem?_append_left q] at g
          exact .inl g
        · rw [List.getElem?_append_right q, List.getElem?_singleton] at g
          split at g
          · exact .inr ⟨q, s, List.mem_cons_self, (Option.some.inj g).symm⟩
          · cases g
    · exact .inr ⟨Nat.le_trans (addF_len h F s) g, x, List.mem_cons_of_mem _ hx, rfl⟩
def Par (rows : List PV) (p : PV) (n j : Nat) (e : PV × PV) : Prop := ∃ (i : Nat) (x : PV × PV) (m a ev : PV), i < n ∧ i < j ∧ (gF rows p n)[i]? = some x ∧ e = (a, .tup [x.1, m]) ∧ PV.tup [m, a, ev] ∈ stsP (rowAt rows x.1) ∧ (gF rows p i).length ≤ j ∧ j < (gF rows p (i + 1)).length
theorem gF_ok (R : GRows rows) (hp : p ∈ pls rows) (n : Nat) : OkF rows (gF rows p n) := itF_ok R (start_ok hp)
theorem gF_par (R : GRows rows) (hp : p ∈ pls rows) : ∀ (n j : Nat) (e : PV × PV), (gF rows p n)[j]? = some e → (j = 0 ∧ e = (p, .non)) ∨ Par rows p n j e
  | 0, j, e, he => by
    cases j with
    | zero => exact .inl ⟨rfl, (Option.some.inj he).symm⟩
    | succ j => cases he
  | n + 1, j, e, he => by
    rcases Nat.lt_or_ge j (gF rows p n).length with q | q
    · have h0 : (gF rows p n)[j]? = some (gF rows p n)[j] := List.getElem?_eq_getElem q
      have h1 := pre_get (gF_pre (rows := rows) (p := p) (Nat.le_succ n)) h0
      rw [he] at h1
      have h1 := Option.some.inj h1
      rw [← h1] at h0
      rcases gF_par R hp n j e h0 with g | ⟨i, x, m, a, ev, g1, g2, g3, g4⟩
      · exact .inl g
      · exact .inr ⟨i, x, m, a, ev, by omega, g2, pre_get (gF_pre (Nat.le_succ n)) g3, g4⟩
    · have hj := (List.getElem?_eq_some_iff.mp he).1
      have he0 := he
      rw [gF_succ] at he
      unfold turnF at he
      cases qx : (gF rows p n)[n]? with
      | none =>
        rw [qx] at he
        have he' : (gF rows p n)[j]? = some e := he
        have := (List.getElem?_eq_some_iff.mp he').1
        omega
      | some x =>
        rw [qx] at he
        have hn := (List.getElem?_eq_some_iff.mp qx).1
        have hm : x.1 ∈ pls rows := (gF_ok R hp n).mem _ (List.mem_map_of_mem (List.mem_of_getElem? qx))
        rcases expF_new x.1 _ _ j e he with g | ⟨g, s, hs, rfl⟩
        · have := (List.getElem?_eq_some_iff.mp g).1
          omega
        · obtain ⟨m, a, ev, rfl, -⟩ := stB_form (sts_st (R.rb _ (R.at hm).2.1) s hs)
          exact .inr ⟨n, x, m, a, ev, by omega, by omega, pre_get (gF_pre (Nat.le_succ n)) qx, rfl, hs, q, hj⟩
/-! the moves -/
inductive FP (rows : List PV) : PV → List PV → PV → Prop
  | nil (x : PV) : FP rows x [] x
  | cons {x m a ev y : PV} {ms : List PV} : x ∈ pls rows → PV.tup [m, a, ev] ∈ stsP (rowAt rows x) → FP rows a ms y → FP rows x (m :: ms) y
theorem FP.snoc {x y m a ev : PV} {ms : List PV} (h : FP rows x ms y) (hy : y ∈ pls rows) (hs : PV.tup [m, a, ev] ∈ stsP (rowAt rows y)) : FP rows x (ms ++ [m]) a := by
  induction h with
  | nil x => exact .cons hy hs (.nil _)
  | cons h1 h2 h3 ih => exact .cons h1 h2 (ih hy hs)
def mvs (F : FD) : Nat → PV → List PV
  | 0, _ => []
  | n + 1, x => match dget F x with
    | some (.tup [h, m]) => m :: mvs F n h
    | _ => []
theorem dget_at {F : FD} (o : OkF rows F) (R : GRows rows) {j : Nat} {e : PV × PV} (h : F[j]? = some e) : dget F e.1 = some e.2 := by
  have hm := List.mem_of_getElem? h
  have nd := o.nd
  have nm : ∀ x ∈ ks F, nameB x = true := fun x hx => R.nm x (o.mem x hx)
  clear h o
  induction F with
  | nil => cases hm
  | cons a r ih =>
    have e1 : ks (a :: r) = a.1 :: ks r := rfl
    rw [e1] at nd nm
    obtain ⟨n1, n2⟩ := List.nodup_cons.mp nd
    unfold dget at ih ⊢
    rw [List.find?_cons]
    rcases List.mem_cons.mp hm with rfl | hm
    · rw [eqP_refl e.1 (nameB_nod (nm _ List.mem_cons_self))]
      rfl
    · have hk : e.1 ∈ ks r := List.mem_map_of_mem hm
      cases q : eqP a.1 e.1 with
      | false => exact ih hm n2 fun x hx => nm x (List.mem_cons_of_mem _ hx)
      | true => exact absurd (name_eq (nm _ List.mem_cons_self) (nm _ (List.mem_cons_of_mem _ hk)) q ▸ hk) n1
/-- levels -/
def lv (rows : List PV) (p : PV) : Nat → Nat
  | 0 => 1
  | n + 1 => (gF rows p (lv rows p n)).length
theorem chain (R : GRows rows) (hp : p ∈ pls rows) (N : Nat) : ∀ (j : Nat) (e : PV × PV), (gF rows p N)[j]? = some e →
    ∃ ms : List PV, ms.length ≤ j ∧ (∀ n, ms.length < n → mvs (gF rows p N) n e.1 = ms.reverse) ∧ FP rows p ms e.1 ∧ (j = 0 → ms = []) ∧ (∀ d, lv rows p d ≤ j → j < lv rows p (d + 1) → ms.length = d + 1) := by
  intro j
  induction j using Nat.strongRecOn with
  | _ j ih =>
    intro e he
    have hg := dget_at (gF_ok R hp N) R he
    rcases gF_par R hp N j e he with ⟨rfl, rfl⟩ | ⟨i, x, m, a, ev, g1, g2, g3, rfl, g5, g6, g7⟩
    · refine ⟨[], Nat.le_refl _, fun n hn => ?_, .nil _, fun _ => rfl, fun d h1 h2 => ?_⟩
      · cases n with
        | zero => rfl
        | succ n => simp only [mvs, hg]; rfl
      · have : 1 ≤ lv rows p d := by
          have hl : ∀ d, 1 ≤ lv rows p d := fun d => by
            cases d with
            | zero => exact Nat.le_refl _
            | succ d => exact gF_len (rows := rows) (p := p) (Nat.zero_le _)
          exact hl d
        omega
    · obtain ⟨ms, c1, c2, c3, c4, c5⟩ := ih i g2 x g3
      have hx : x.1 ∈ pls rows := (gF_ok R hp N).mem _ (List.mem_map_of_mem (List.mem_of_getElem? g3))
      refine ⟨ms ++ [m], by simp; omega, fun n hn => ?_, c3.snoc hx g5, fun h => by omega, fun d h1 h2 => ?_⟩
      · cases n with
        | zero => simp at hn
        | succ n =>
          simp only [mvs, hg]
          rw [c2 n (by simp at hn; omega)]
          simp
      · have hi : i < lv rows p d := by
          rcases Nat.lt_or_ge i (lv rows p d) with q | q
          · exact q
          · have := gF_len (rows := rows) (p := p) q
            have e : lv rows p (d + 1) = (gF rows p (lv rows p d)).length := rfl
            omega
        rw [List.length_append, List.length_singleton]
        cases d with
        | zero =>
          have e : lv rows p 0 = 1 := rfl
          rw [c4 (by omega)]
          rfl
        | succ d =>
          have hle : lv rows p d ≤ i := by
            have e : lv rows p (d + 1) = (gF rows p (lv rows p d)).length := rfl
            have := gF_lt (rows := rows) (p := p) (n := lv rows p d) (m := i + 1) (by omega)
            omega
          rw [c5 d hle hi]
end
end G
namespace G
/-! ### the moves by which a place was found -/
def mvL (F : FD) (x : PV) : List PV := mvs F F.length x
section
variable {rows : List PV} {p : PV} (R : GRows rows) (hp : p ∈ pls rows) (N : Nat)
include R hp
theorem mv_cases {j : Nat} {e : PV × PV} (he : (gF rows p N)[j]? = some e) :
    (j = 0 ∧ dget (gF rows p N) e.1 = some .non ∧ mvL (gF rows p N) e.1 = []) ∨
    ∃ i x m, i < j ∧ (gF rows p N)[i]? = some x ∧ dget (gF rows p N) e.1 = some (.tup [x.1, m]) ∧ mvL (gF rows p N) e.1 = m :: mvL (gF rows p N) x.1 := by
  have hg := dget_at (gF_ok R hp N) R he
  have hj := (List.getElem?_eq_some_iff.mp he).1
  obtain ⟨ms, c1, c2, c3, c4, c5⟩ := chain R hp N j e he
  rcases gF_par R hp N j e he with ⟨rfl, rfl⟩ | ⟨i, x, m, a, ev, g1, g2, g3, rfl, g5, g6, g7⟩
  · refine .inl ⟨rfl, hg, ?_⟩
    unfold mvL
    rw [c2 _ (by omega), c4 rfl]
    rfl
  · refine .inr ⟨i, x, m, g2, g3, hg, ?_⟩
    obtain ⟨ms', b1, b2, -⟩ := chain R hp N i x g3
    obtain ⟨n, hn⟩ : ∃ n, (gF rows p N).length = n + 1 := ⟨(gF rows p N).length - 1, by omega⟩
    unfold mvL
    rw [b2 (gF rows p N).length (by omega), hn]
    simp only [mvs, hg]
    rw [b2 n (by omega)]
theorem mv_len {j : Nat} {e : PV × PV} (he : (gF rows p N)[j]? = some e) : (mvL (gF rows p N) e.1).length ≤ j := by
  obtain ⟨ms, c1, c2, -⟩ := chain R hp N j e he
  have hj := (List.getElem?_eq_some_iff.mp he).1
  unfold mvL
  rw [c2 _ (by omega)]
  simpa using c1
theorem mv_FP {j : Nat} {e : PV × PV} (he : (gF rows p N)[j]? = some e) : FP rows p (mvL (gF rows p N) e.1).reverse e.1 := by
  obtain ⟨ms, c1, c2, c3, -⟩ := chain R hp N j e he
  have hj := (List.getElem?_eq_some_iff.mp he).1
  unfold mvL
  rw [c2 _ (by omega), List.reverse_reverse]
  exact c3
end
def mt_b0 : List S := [.set (.many [(.one 4), (.one 5)]) (.sub (.var 0) (.var 3)),
    .app 2 (.var 5),
    .set (.one 3) (.var 4)]
def mt_B : List S := [.own 2 (.lst []),
    .set (.one 3) (.var 1),
    .whl (.cmp .isn (.sub (.var 0) (.var 3)) (.con .non)) mt_b0,
    .frz 2,
    .ret (.bi .tuple [(.met .rvs (.var 2) [])])]
def lf_b0 : List S := [.ite (.cmp .nin (.sub (.var 6) (.con (.int 1))) (.var 2)) [.put 2 (.sub (.var 6) (.con (.int 1))) (.tup [(.var 5), (.sub (.var 6) (.con (.int 0)))]),
    .app 3 (.sub (.var 6) (.con (.int 1)))] []]
def lf_b1 (st : Nat) : List S := [.ite (.cmp .lt (.var 4) (.bi .len [(.var 3)])) [.set (.one 5) (.sub (.var 3) (.var 4)),
    .loop (.one 6) (.seq (.call st [(.sub (.var 0) (.var 5))])) lf_b0] []]
def lf_B (st : Nat) : List S := [.own 2 (.dct [(.var 1)] [(.con .non)]),
    .own 3 (.lst [(.var 1)]),
    .loop (.one 4) (.rng [(.bi .len [(.var 0)])]) (lf_b1 st),
    .frz 2,
    .frz 3,
    .ret (.tup [(.var 3), (.var 2)])]
def lm_b0 : List S := [.ite (.cmp .isn (.sub (.var 0) (.var 3)) (.con .non)) [.app 2 (.sub (.sub (.var 0) (.var 3)) (.con (.int 1))),
    .set (.one 3) (.sub (.sub (.var 0) (.var 3)) (.con (.int 0)))] []]
def lm_B : List S := [.own 2 (.lst []),
    .set (.one 3) (.var 1),
    .loop (.one 4) (.rng [(.bi .len [(.var 0)])]) lm_b0,
    .frz 2,
    .ret (.bi .tuple [(.met .rvs (.var 2) [])])]

section
variable {P : Prog} {w : Nat}
theorem mt_whl {c : Orc} {rows : List PV} {p : PV} (R : GRows rows) (hp : p ∈ pls rows) (N : Nat) (g : Slot) : ∀ (j : Nat) (e : PV × PV) (fu : Nat) (acc : List PV) (s4 s5 : Slot), (gF rows p N)[j]? = some e → j < fu → acc.length + j ≤ 1000 → ∃ s3' s4' s5',
    whlL (kWhl c P.anc (.cmp .isn (.sub (.var 0) (.var 3)) (.con .non))) (denSs P.anc P.nf w c mt_b0) fu [.sh (.dct (gF rows p N)), g, .ol acc, .sh e.1, s4, s5] =
      .nx [.sh (.dct (gF rows p N)), g, .ol (acc ++ mvL (gF rows p N) e.1), s3', s4', s5'] := by
  intro j
  induction j using Nat.strongRecOn with
  | _ j ih =>
    intro e fu acc s4 s5 he hf hl
    have hm : e.1 ∈ pls rows := (gF_ok R hp N).mem _ (List.mem_map_of_mem (List.mem_of_getElem? he))
    have hk := nameB_key (R.nm _ hm)
    cases fu with
    | zero => omega
    | succ fu =>
      rcases mv_cases R hp N he with ⟨rfl, h1, h2⟩ | ⟨i, x, m, h0, h1, h2, h3⟩
      · refine ⟨.sh e.1, s4, s5, ?_⟩
        rw [h2, List.append_nil]
        generalize gF rows p N = F at *
        unfold whlL
        simp [kWhl, hk, h1, ofO, isNon]
      · obtain ⟨t3, t4, t5, ih⟩ := ih i h0 x fu (acc ++ [m]) (.sh x.1) (.sh m) h1 (by omega) (by simp; omega)
        refine ⟨t3, t4, t5, ?_⟩
        have hlt : acc.length < lineMax := by unfold lineMax; omega
        rw [h3, show acc ++ m :: mvL (gF rows p N) x.1 = acc ++ [m] ++ mvL (gF rows p N) x.1 by simp, ← ih]
        generalize gF rows p N = F at *
        have hc : kWhl c P.anc (.cmp .isn (.sub (.var 0) (.var 3)) (.con .non)) [.sh (.dct F), g, .ol acc, .sh e.1, s4, s5] = .ok true := by
          simp [kWhl, hk, h2, ofO, isNon]
        have hb : denSs P.anc P.nf w c mt_b0 [.sh (.dct F), g, .ol acc, .sh e.1, s4, s5] = .nx [.sh (.dct F), g, .ol (acc ++ [m]), .sh x.1, .sh x.1, .sh m] := by
          simp [mt_b0, hk, h2, ofO, hlt]
        conv => lhs; unfold whlL
        rw [hc]
        simp only [ofR_ok, if_true, hb]
theorem mt_ok {n f : Nat} {x : String} (h : P.defs[f]? = some ⟨x, 2, 6, mt_B⟩) (hw : 1000 < w) {rows : List PV} {p : PV} (R : GRows rows) (hp : p ∈ pls rows) {g : PV} (hg : g ∈ orderL rows p) : P.call w (n + 1) f [.dct (foundF rows p), g] = .ok (.tup (mvL (foundF rows p) g).reverse) := by
  rw [call_at h rfl]
  obtain ⟨e, he, rfl⟩ := List.mem_map.mp hg
  obtain ⟨j, hj⟩ := List.getElem?_of_mem he
  have hjl := (List.getElem?_eq_some_iff.mp hj).1
  have hn := R.n
  have hol := order_len R hp
  simp only [orderL, ks, List.length_map] at hol
  obtain ⟨s3, s4, s5, W⟩ := mt_whl (P := P) (w := w) (c := P.call w n) R hp rows.length (.sh e.1) j e w [] .un .un hj (by omega) (by simp; omega)
  have hl := mv_len R hp rows.length hj
  have u : gF rows p rows.length = foundF rows p := rfl
  rw [u] at W hl
  rw [List.nil_append] at W
  have hlt : (mvL (foundF rows p) e.1).reverse.length < lineMax := by rw [List.length_reverse]; unfold lineMax; omega
  have hlt2 : (mvL (foundF rows p) e.1).length < lineMax := by unfold lineMax; omega
  generalize mvL (foundF rows p) e.1 = M at *
  generalize foundF rows p = F at *
  simp [mt_B, W, hlt2]
theorem lm_walk {c : Orc} {rows : List PV} {p : PV} (R : GRows rows) (hp : p ∈ pls rows) (N : Nat) (g : Slot) : ∀ (l : List PV) (j : Nat) (e : PV × PV) (acc : List PV) (s4 : Slot), (gF rows p N)[j]? = some e → j ≤ l.length → acc.length + j ≤ 1000 → ∃ s3' s4',
    forL (denSs P.anc P.nf w c lm_b0) (asg (.one 4)) l [.sh (.dct (gF rows p N)), g, .ol acc, .sh e.1, s4] =
      .nx [.sh (.dct (gF rows p N)), g, .ol (acc ++ mvL (gF rows p N) e.1), s3', s4']
  | [], j, e, acc, s4, he, hj, hl => by
    rcases mv_cases R hp N he with ⟨rfl, h1, h2⟩ | ⟨i, x, m, h0, h1, h2, h3⟩
    · exact ⟨_, _, by rw [h2, List.append_nil]; rfl⟩
    · simp at hj; omega
  | k :: l, j, e, acc, s4, he, hj, hl => by
    have hm : e.1 ∈ pls rows := (gF_ok R hp N).mem _ (List.mem_map_of_mem (List.mem_of_getElem? he))
    have hk := nameB_key (R.nm _ hm)
    rcases mv_cases R hp N he with ⟨rfl, h1, h2⟩ | ⟨i, x, m, h0, h1, h2, h3⟩
    · obtain ⟨t3, t4, ih⟩ := lm_walk (c := c) R hp N g l 0 e acc (.sh k) he (Nat.zero_le _) hl
      refine ⟨t3, t4, ?_⟩
      rw [← ih]
      generalize gF rows p N = F at *
      exact forL_step (e1 := [.sh (.dct F), g, .ol acc, .sh e.1, .sh k]) (by simp) (by simp [lm_b0, hk, h1, ofO, isNon])
    · simp only [List.length_cons] at hj
      obtain ⟨t3, t4, ih⟩ := lm_walk (c := c) R hp N g l i x (acc ++ [m]) (.sh k) h1 (by omega) (by simp; omega)
      refine ⟨t3, t4, ?_⟩
      have hlt : acc.length < lineMax := by unfold lineMax; omega
      rw [h3, show acc ++ m :: mvL (gF rows p N) x.1 = acc ++ [m] ++ mvL (gF rows p N) x.1 by simp, ← ih]
      generalize gF rows p N = F at *
      exact forL_step (e1 := [.sh (.dct F), g, .ol acc, .sh e.1, .sh k]) (by simp) (by simp [lm_b0, hk, h2, ofO, isNon, hlt, ixAt])
theorem lm_ok {n f : Nat} {x : String} (h : P.defs[f]? = some ⟨x, 2, 5, lm_B⟩) {rows : List PV} {p : PV} (R : GRows rows) (hp : p ∈ pls rows) {g : PV} (hg : g ∈ orderL rows p) : P.call w (n + 1) f [.dct (foundF rows p), g] = .ok (.tup (mvL (foundF rows p) g).reverse) := by
  rw [call_at h rfl]
  obtain ⟨e, he, rfl⟩ := List.mem_map.mp hg
  obtain ⟨j, hj⟩ := List.getElem?_of_mem he
  have hjl := (List.getElem?_eq_some_iff.mp hj).1
  have hn := R.n
  have hol := order_len R hp
  simp only [orderL, ks, List.length_map] at hol
  have u : gF rows p rows.length = foundF rows p := rfl
  obtain ⟨s3, s4, W⟩ := lm_walk (P := P) (w := w) (c := P.call w n) R hp rows.length (.sh e.1) (range1 0 ((foundF rows p).length : Int)) j e [] .un hj (by rw [range1_len]; omega) (by simp; omega)
  have hl := mv_len R hp rows.length hj
  rw [u] at W hl
  rw [List.nil_append] at W
  have hlt2 : (mvL (foundF rows p) e.1).length < lineMax := by unfold lineMax; omega
  have rm : rngOk ((foundF rows p).length : Int) = true := by simp [rngOk]; omega
  have hfl : (foundF rows p).length ≤ lineMax := by unfold lineMax; omega
  generalize mvL (foundF rows p) e.1 = M at *
  generalize foundF rows p = F at *
  simp [lm_B, rm, hfl, W, hlt2]
/-! the law's own walk with the way back -/
theorem lf_in {c : Orc} {rows : List PV} (R : GRows rows) (tbl p i h : PV) : ∀ (l : List PV) (F : FD) (s6 : Slot), OkF rows F → (∀ s ∈ l, stB s = true ∧ aftP s ∈ pls rows) → ∃ s6',
    forL (denSs P.anc P.nf w c lf_b0) (asg (.one 6)) l [.sh tbl, .sh p, .od F, .ol (ks F), .sh i, .sh h, s6] =
      .nx [.sh tbl, .sh p, .od (expF h F l), .ol (ks (expF h F l)), .sh i, .sh h, s6']
  | [], F, s6, _, _ => ⟨s6, rfl⟩
  | s :: r, F, s6, o, hl => by
    obtain ⟨h1, h2⟩ := hl s List.mem_cons_self
    obtain ⟨m, a, e, rfl, g1, g2, g3⟩ := stB_form h1
    have hk := nameB_key g2
    have hg := dget_F a F
    have hle := o.le R
    have hn := R.n
    have hFl : F.length < lineMax := by unfold lineMax; omega
    have hkl : (ks F).length < lineMax := by simp [ks]; unfold lineMax; omega
    have o' := addF_ok R (h := h) o h2
    obtain ⟨t6, ih⟩ := lf_in (c := c) R tbl p i h r (addF h F (.tup [m, a, e])) (.sh (.tup [m, a, e])) o' fun x hx => hl x (List.mem_cons_of_mem _ hx)
    refine ⟨t6, ?_⟩
    have e2 : denSs P.anc P.nf w c lf_b0 [.sh tbl, .sh p, .od F, .ol (ks F), .sh i, .sh h, .sh (.tup [m, a, e])] =
        .nx [.sh tbl, .sh p, .od (addF h F (.tup [m, a, e])), .ol (ks (addF h F (.tup [m, a, e]))), .sh i, .sh h, .sh (.tup [m, a, e])] := by
      cases q : hasK (ks F) a with
      | true =>
        rw [q] at hg
        have : addF h F (.tup [m, a, e]) = F := by simp [addF, aftP, q]
        rw [this]
        simp [lf_b0, ixAt, ofO, hk, hg]
      | false =>
        rw [q] at hg
        have : addF h F (.tup [m, a, e]) = F ++ [(a, .tup [h, m])] := by simp [addF, aftP, mvP, q]
        rw [this]
        have ek : ks (F ++ [(a, PV.tup [h, m])]) = ks F ++ [a] := by simp [ks]
        rw [ek]
        simp [lf_b0, ixAt, ofO, hk, hg, dset_F a _ q, hFl, hkl]
    rw [forL_step (e1 := [.sh tbl, .sh p, .od F, .ol (ks F), .sh i, .sh h, .sh (.tup [m, a, e])]) (by simp) e2, ih]
    rfl
theorem lf_out {n st : Nat} {x : String} (hs : P.defs[st]? = some ⟨x, 1, 1, lst_B⟩) {rows : List PV} (R : GRows rows) (p : PV) : ∀ (k i : Nat) (F : FD) (s4 s5 s6 : Slot), OkF rows F → ∃ s4' s5' s6',
    forL (denSs P.anc P.nf w (P.call w (n + 1)) (lf_b1 st)) (asg (.one 4)) ((List.range' i k).map fun j : Nat => .int (j : Int)) [.sh (.dct (tb rows)), .sh p, .od F, .ol (ks F), s4, s5, s6] =
      .nx [.sh (.dct (tb rows)), .sh p, .od (itF rows k i F), .ol (ks (itF rows k i F)), s4', s5', s6']
  | 0, i, F, s4, s5, s6, _ => ⟨s4, s5, s6, rfl⟩
  | k + 1, i, F, s4, s5, s6, o => by
    have step : ∃ s5' s6', denSs P.anc P.nf w (P.call w (n + 1)) (lf_b1 st) [.sh (.dct (tb rows)), .sh p, .od F, .ol (ks F), .sh (.int (i : Int)), s5, s6] = .nx [.sh (.dct (tb rows)), .sh p, .od (turnF rows i F), .ol (ks (turnF rows i F)), .sh (.int (i : Int)), s5', s6'] := by
      by_cases hlt : i < F.length
      · have hl : ((i : Int) < (ks F).length) := by simp [ks]; omega
        obtain ⟨e, he⟩ : ∃ e, F[i]? = some e := ⟨_, List.getElem?_eq_getElem hlt⟩
        have hx : (ks F)[i]? = some e.1 := by simp [ks, he]
        have hm : e.1 ∈ pls rows := o.mem _ (List.mem_map_of_mem (List.mem_of_getElem? he))
        obtain ⟨a1, a2, a3⟩ := R.at hm
        have hS := lst_ok (w := w) (n := n) hs (R.rb _ a2)
        have hk := nameB_key (R.nm _ hm)
        obtain ⟨t6, W⟩ := lf_in (P := P) (w := w) (c := P.call w (n + 1)) R (.dct (tb rows)) p (.int (i : Int)) e.1 (stsP (rowAt rows e.1)) F s6 o fun s hs => ⟨sts_st (R.rb _ a2) s hs, R.aft a2 hs⟩
        have ht : turnF rows i F = expF e.1 F (stsP (rowAt rows e.1)) := by unfold turnF; rw [he]
        have hix : ixAt (ks F) (i : Int) = some e.1 := by rw [ixAt_nat]; exact hx
        refine ⟨.sh e.1, t6, ?_⟩
        rw [ht]
        generalize ks F = K at *
        simp [lf_b1, hl, hix, ofO, hk, a1, hS, W]
      · have hnl : ¬ ((i : Int) < (ks F).length) := by simp [ks]; omega
        have ht : turnF rows i F = F := by unfold turnF; rw [List.getElem?_eq_none (by omega)]
        refine ⟨s5, s6, ?_⟩
        rw [ht]
        generalize ks F = K at *
        simp [lf_b1, hnl]
    obtain ⟨t5, t6, W⟩ := step
    obtain ⟨u4, u5, u6, ih⟩ := lf_out (n := n) hs R p k (i + 1) (turnF rows i F) (.sh (.int (i : Int))) t5 t6 (turnF_ok R o)
    refine ⟨u4, u5, u6, ?_⟩
    rw [List.range'_succ, List.map_cons, forL_step (e1 := [.sh (.dct (tb rows)), .sh p, .od F, .ol (ks F), .sh (.int (i : Int)), s5, s6]) (by simp) W, ih]
    rfl
theorem lf_ok {n f st : Nat} {x y : String} (h : P.defs[f]? = some ⟨x, 2, 7, lf_B st⟩) (hs : P.defs[st]? = some ⟨y, 1, 1, lst_B⟩) {rows : List PV} (R : GRows rows) {p : PV} (hp : p ∈ pls rows) : P.call w (n + 2) f [.dct (tb rows), p] = .ok (.tup [.lst (orderL rows p), .dct (foundF rows p)]) := by
  rw [call_at h rfl]
  have hk := nameB_key (R.nm p hp)
  have hn := R.n
  obtain ⟨u4, u5, u6, W⟩ := lf_out (P := P) (w := w) (n := n) hs R p rows.length 0 [(p, .non)] .un .un .un (start_ok hp)
  rw [← List.range_eq_range', ← range1_nat] at W
  have e1 : ks [(p, PV.non)] = [p] := rfl
  have e3 : biLen (.dct (tb rows)) = .ok (.int (rows.length : Int)) := by simp [biLen, tb]; unfold lineMax; omega
  have rm : rngOk (rows.length : Int) = true := by simp [rngOk]; omega
  rw [e1] at W
  have u : ks (itF rows rows.length 0 [(p, .non)]) = orderL rows p := rfl
  have u2 : itF rows rows.length 0 [(p, .non)] = foundF rows p := rfl
  rw [u, u2] at W
  generalize orderL rows p = K at *
  generalize foundF rows p = F at *
  simp [-len_dct, lf_B, keyBs, hk, dset, e3, rm, W]
end
end G
namespace G
def ap_b0 (ip : Nat) : List S := [.ite (.or (.not (.call ip [(.var 0), (.var 3)])) (.cmp .isin (.var 3) (.var 2))) [.ret (.con (.bl false))] [],
    .put 2 (.var 3) (.con (.bl true))]
def ap_B (ip : Nat) : List S := [.ite (.not (.isi (.var 1) 3)) [.ret (.con (.bl false))] [],
    .own 2 (.dct [] []),
    .loop (.one 3) (.seq (.var 1)) (ap_b0 ip),
    .ret (.con (.bl true))]
def wi_b0 (mt : Nat) : List S := [.ite (.cmp .isin (.var 7) (.var 5)) [.ret (.tup [(.con (.str ['w', 'a', 'y'])), (.call mt [(.var 4), (.var 7)])])] []]
def wi_B (of mt : Nat) : List S := [.set (.many [(.one 3), (.one 4)]) (.call of [(.var 0), (.var 1)]),
    .set (.one 5) (.dc [6] (.one 6) (.seq (.var 2)) none (.var 6) (.con (.bl true))),
    .loop (.one 7) (.seq (.var 3)) (wi_b0 mt),
    .ret (.tup [(.con (.str ['c', 'l', 'o', 's', 'e', 'd'])), (.bi .tuple [(.var 3)])])]
def wt_B (cg to cp ap wi : Nat) : List S := [.exp (.call cg [(.var 0)]),
    .set (.one 3) (.call to [(.var 0)]),
    .exp (.call cp [(.var 3), (.var 1)]),
    .ite (.not (.call ap [(.var 3), (.var 2)])) [.rse 2 []] [],
    .ret (.call wi [(.var 3), (.var 1), (.var 2)])]
def lu_b0 : List S := [.put 3 (.var 4) (.con (.bl true))]
def lu_b1 (lm : Nat) : List S := [.ite (.cmp .isin (.var 7) (.var 3)) [.ret (.tup [(.con (.str ['w', 'a', 'y'])), (.call lm [(.var 6), (.var 7)])])] []]
def lu_B (lf lm : Nat) : List S := [.own 3 (.dct [] []),
    .loop (.one 4) (.seq (.var 2)) lu_b0,
    .frz 3,
    .set (.many [(.one 5), (.one 6)]) (.call lf [(.var 0), (.var 1)]),
    .loop (.one 7) (.seq (.var 5)) (lu_b1 lm),
    .ret (.tup [(.con (.str ['c', 'l', 'o', 's', 'e', 'd'])), (.bi .tuple [(.var 5)])])]

/-! ### places, none twice -/
def aps (rows : List PV) : List PV → List PV → Bool
  | _, [] => true
  | d, x :: r => placeB rows x && !hasK d x && aps rows (d ++ [x]) r
def apB (rows : List PV) (v : PV) : Bool := match v with
  | .tup l => aps rows [] l
  | _ => false
theorem placeB_mem {rows : List PV} (R : GRows rows) {x : PV} : placeB rows x = true ↔ x ∈ pls rows := by
  constructor
  · intro h
    simp only [placeB, Bool.and_eq_true] at h
    exact (hasK_iff R.nm h.1).mp h.2
  · intro h
    have hn := R.nm x h
    rw [placeB, hn, hasK_mem h (nameB_nod hn)]
    rfl
theorem aps_iff {rows : List PV} (R : GRows rows) : ∀ (l d : List PV), (∀ x ∈ d, x ∈ pls rows) → d.Nodup → (aps rows d l = true ↔ (∀ x ∈ l, x ∈ pls rows) ∧ (d ++ l).Nodup)
  | [], d, hd, nd => by simp [aps, nd]
  | x :: r, d, hd, nd => by
    have nm : ∀ y ∈ d, nameB y = true := fun y hy => R.nm y (hd y hy)
    simp only [aps, Bool.and_eq_true, Bool.not_eq_true']
    constructor
    · rintro ⟨⟨h1, h2⟩, h3⟩
      have hx := (placeB_mem R).mp h1
      have hn : x ∉ d := fun q => by rw [hasK_mem q (nameB_nod (R.nm x hx))] at h2; cases h2
      have nd' : (d ++ [x]).Nodup := List.nodup_append.mpr ⟨nd, by simp, fun a ha b hb e => by
        rw [List.mem_singleton] at hb
        exact hn (hb ▸ e ▸ ha)⟩
      obtain ⟨g1, g2⟩ := (aps_iff R r (d ++ [x]) (fun y hy => by
        rcases List.mem_append.mp hy with q | q
        · exact hd y q
        · rw [List.mem_singleton] at q; rw [q]; exact hx) nd').mp h3
      refine ⟨fun y hy => ?_, by simpa using g2⟩
      rcases List.mem_cons.mp hy with rfl | q
      · exact hx
      · exact g1 y q
    · rintro ⟨h1, h2⟩
      have hx := h1 x List.mem_cons_self
      have h2' : (d ++ [x] ++ r).Nodup := by simpa using h2
      have nd' := (List.nodup_append.mp h2').1
      have hn : x ∉ d := fun q => (List.nodup_append.mp nd').2.2 x q x (by simp) rfl
      refine ⟨⟨(placeB_mem R).mpr hx, ?_⟩, (aps_iff R r (d ++ [x]) (fun y hy => by
        rcases List.mem_append.mp hy with q | q
        · exact hd y q
        · rw [List.mem_singleton] at q; rw [q]; exact hx) nd').mpr ⟨fun y hy => h1 y (List.mem_cons_of_mem _ hy), h2'⟩⟩
      cases q : hasK d x with
      | false => rfl
      | true => exact absurd ((hasK_iff nm (R.nm x hx)).mp q) hn
theorem hasK_dk (l : List PV) (k : PV) : (dget (dk l) k).isSome = hasK l k := dget_dk k l
def wayS : List Char := ['w', 'a', 'y']
def closedS : List Char := ['c', 'l', 'o', 's', 'e', 'd']
def wayV (rows : List PV) (p : PV) (goals : List PV) : PV := match (orderL rows p).find? fun x => hasK goals x with
  | some x => .tup [.str wayS, .tup (mvL (foundF rows p) x).reverse]
  | none => .tup [.str closedS, .tup (orderL rows p)]
section
variable {P : Prog} {w : Nat}
theorem ap_walk {n ip : Nat} {rows : List PV} (hip : ∀ x, VB x → P.call w n ip [.dct (tb rows), x] = .ok (.bl (placeB rows x))) (v : Slot) : ∀ (l d : List PV) (s3 : Slot), (∀ x ∈ l, VB x) → d.length + l.length ≤ 2000000 → ∃ s3' d',
    forL (denSs P.anc P.nf w (P.call w n) (ap_b0 ip)) (asg (.one 3)) l [.sh (.dct (tb rows)), v, .od (dk d), s3] =
      if aps rows d l then .nx [.sh (.dct (tb rows)), v, .od d', s3'] else .rt (.bl false)
  | [], d, s3, _, _ => ⟨s3, dk d, rfl⟩
  | x :: r, d, s3, hv, hl => by
    have h1 := hip x (hv x List.mem_cons_self)
    have h2 := hasK_dk d x
    simp only [List.length_cons] at hl
    obtain ⟨t3, d', ih⟩ := ap_walk hip v r (d ++ [x]) (.sh x) (fun y hy => hv y (List.mem_cons_of_mem _ hy)) (by simp; omega)
    cases q1 : placeB rows x with
    | false =>
      rw [q1] at h1
      refine ⟨s3, dk d, ?_⟩
      have e : aps rows d (x :: r) = false := by simp [aps, q1]
      rw [e]
      exact forL_stop (e1 := [.sh (.dct (tb rows)), v, .od (dk d), .sh x]) (by simp) (by generalize PV.dct (tb rows) = D at *; simp [ap_b0, h1])
    | true =>
      rw [q1] at h1
      have hk : keyB 8 x = true := nameB_key (by simp only [placeB, Bool.and_eq_true] at q1; exact q1.1)
      cases q2 : hasK d x with
      | true =>
        rw [q2] at h2
        refine ⟨s3, dk d, ?_⟩
        have e : aps rows d (x :: r) = false := by simp [aps, q2]
        rw [e]
        exact forL_stop (e1 := [.sh (.dct (tb rows)), v, .od (dk d), .sh x]) (by simp) (by generalize PV.dct (tb rows) = D at *; generalize dk d = K at *; simp [ap_b0, h1, hk, h2])
      | false =>
        rw [q2] at h2
        refine ⟨t3, d', ?_⟩
        have e : aps rows d (x :: r) = aps rows (d ++ [x]) r := by simp [aps, q1, q2]
        have ed : dset (dk d) x (.bl true) = dk (d ++ [x]) := dset_dk x (by simpa [hasK] using q2)
        have hlt : (dk d).length < lineMax := by simp [dk]; unfold lineMax; omega
        rw [e, ← ih, ← ed]
        exact forL_step (e1 := [.sh (.dct (tb rows)), v, .od (dk d), .sh x]) (by simp) (by generalize PV.dct (tb rows) = D at *; generalize dk d = K at *; simp [ap_b0, h1, hk, h2, hlt])
theorem ap_ok {n f ip : Nat} {x : String} (h : P.defs[f]? = some ⟨x, 2, 4, ap_B ip⟩) {rows : List PV} (hip : ∀ x, VB x → P.call w n ip [.dct (tb rows), x] = .ok (.bl (placeB rows x))) (v : PV) (hv : VB v) : P.call w (n + 1) f [.dct (tb rows), v] = .ok (.bl (apB rows v)) := by
  rw [call_at h rfl]
  cases v with
  | tup l =>
    have hl := hv.len
    obtain ⟨s3, d', W⟩ := ap_walk (P := P) (w := w) hip (.sh (.tup l)) l [] .un (fun x hx => hv.mem hx) (by simp; omega)
    rw [show dk ([] : List PV) = [] from rfl] at W
    generalize PV.dct (tb rows) = D at *
    cases q : aps rows [] l with
    | true =>
      rw [q, if_pos rfl] at W
      simp [ap_B, tyTest, keyBs, W, apB, q]
    | false =>
      rw [q, if_neg (by simp)] at W
      simp [ap_B, tyTest, keyBs, W, apB, q]
  | _ => simp [ap_B, tyTest, apB]
/-! the way -/
theorem wi_walk {n mt : Nat} {rows goals : List PV} {p : PV} (R : GRows rows) (hm : ∀ x ∈ orderL rows p, P.call w n mt [.dct (foundF rows p), x] = .ok (.tup (mvL (foundF rows p) x).reverse)) (s0 s1 s2 s3 s6 : Slot) : ∀ (l : List PV) (s7 : Slot), (∀ x ∈ l, x ∈ orderL rows p ∧ x ∈ pls rows) → ∃ s7',
    forL (denSs P.anc P.nf w (P.call w n) (wi_b0 mt)) (asg (.one 7)) l [s0, s1, s2, s3, .sh (.dct (foundF rows p)), .sh (.dct (dk goals)), s6, s7] =
      match l.find? fun x => hasK goals x with
      | some x => .rt (.tup [.str wayS, .tup (mvL (foundF rows p) x).reverse])
      | none => .nx [s0, s1, s2, s3, .sh (.dct (foundF rows p)), .sh (.dct (dk goals)), s6, s7']
  | [], s7, _ => ⟨s7, rfl⟩
  | x :: r, s7, hl => by
    obtain ⟨h0, h1⟩ := hl x List.mem_cons_self
    have hk := nameB_key (R.nm x h1)
    have hc := hm x h0
    have hg := hasK_dk goals x
    obtain ⟨t7, ih⟩ := wi_walk (goals := goals) R hm s0 s1 s2 s3 s6 r (.sh x) fun y hy => hl y (List.mem_cons_of_mem _ hy)
    refine ⟨t7, ?_⟩
    rw [List.find?_cons]
    have as1 : asg (.one 7) x [s0, s1, s2, s3, .sh (.dct (foundF rows p)), .sh (.dct (dk goals)), s6, s7] = some [s0, s1, s2, s3, .sh (.dct (foundF rows p)), .sh (.dct (dk goals)), s6, .sh x] := by simp
    cases q : hasK goals x with
    | true =>
      rw [q] at hg
      simp only
      refine forL_stop as1 ?_
      generalize mvL (foundF rows p) x = M at *
      generalize foundF rows p = F at *
      generalize dk goals = K at *
      simp [wi_b0, hk, hg, hc, wayS]
    | false =>
      rw [q] at hg
      simp only
      rw [← ih]
      refine forL_step as1 ?_
      generalize foundF rows p = F at *
      generalize dk goals = K at *
      simp [wi_b0, hk, hg]
theorem dcL_dk {c : Orc} {anc : List (List Nat)} (s0 s1 s2 s3 s4 s5 s7 : Slot) : ∀ (r d : List PV), (∀ x ∈ d ++ r, nameB x = true) → (d ++ r).Nodup → d.length + r.length ≤ 100000 →
    dcL (asg (.one 6)) (tstQ c anc none) (eltF c anc (.var 6)) (eltF c anc (.con (.bl true))) [s0, s1, s2, s3, s4, s5, .un, s7] r (dk d) = .ok (dk (d ++ r))
  | [], d, _, _, _ => by simp [dcL]
  | x :: r, d, hn, nd, hl => by
    have hx := hn x (by simp)
    have hk := nameB_key hx
    have hno : hasK d x = false := by
      cases q : hasK d x with
      | false => rfl
      | true =>
        have := (hasK_iff (fun y hy => hn y (List.mem_append_left _ hy)) hx).mp q
        exact absurd rfl ((List.nodup_append.mp nd).2.2 x this x (by simp))
    have ds : dset (dk d) x (.bl true) = dk (d ++ [x]) := dset_dk x (by simpa [hasK] using hno)
    simp only [List.length_cons] at hl
    have dl : (dk d).length < lineMax := by simp [dk]; unfold lineMax; omega
    have ih := dcL_dk (c := c) (anc := anc) s0 s1 s2 s3 s4 s5 s7 r (d ++ [x]) (by simpa using hn) (by simpa using nd) (by simp; omega)
    unfold dcL
    have e1 : asg (.one 6) x [s0, s1, s2, s3, s4, s5, Slot.un, s7] = some [s0, s1, s2, s3, s4, s5, .sh x, s7] := by simp
    rw [e1]
    have e2 : eltF c anc (.var 6) [s0, s1, s2, s3, s4, s5, .sh x, s7] = .ok x := by simp [eltF]
    have e3 : eltF c anc (.con (.bl true)) [s0, s1, s2, s3, s4, s5, .sh x, s7] = .ok (.bl true) := by simp [eltF]
    have e4 : tstQ c anc none [s0, s1, s2, s3, s4, s5, .sh x, s7] = .ok true := rfl
    simp only [e2, e3, e4, noEx, bind_ok, if_true, hk, dl, decide_true, Bool.and_self, ds]
    rw [ih]
    simp
theorem wi_ok {n f of si mt : Nat} {x y z u : String} (h : P.defs[f]? = some ⟨x, 3, 8, wi_B of mt⟩) (ho : P.defs[of]? = some ⟨y, 2, 9, of_B si⟩) (hs : P.defs[si]? = some ⟨z, 2, 3, si_B⟩) (hm : P.defs[mt]? = some ⟨u, 2, 6, mt_B⟩) (hw : 1000 < w)
    {rows : List PV} (R : GRows rows) {p : PV} (hp : p ∈ pls rows) {goals : List PV} (hg : ∀ x ∈ goals, x ∈ pls rows) (nd : goals.Nodup) : P.call w (n + 3) f [.dct (tb rows), p, .tup goals] = .ok (wayV rows p goals) := by
  rw [call_at h rfl]
  have h1 := of_ok (w := w) (n := n) ho hs hw R hp
  have hn := R.n
  have hol := order_len R hp
  have hom := order_mem R hp
  have gl := nodup_le nd hg
  simp only [pls, List.length_map] at gl
  have D := dcL_dk (c := P.call w (n + 2)) (anc := P.anc) (.sh (.dct (tb rows))) (.sh p) (.sh (.tup goals)) (.sh (.lst (orderL rows p))) (.sh (.dct (foundF rows p))) .un .un goals [] (fun x hx => R.nm x (hg x (by simpa using hx))) (by simpa using nd) (by simp; omega)
  rw [List.nil_append, show dk ([] : List PV) = [] from rfl] at D
  obtain ⟨s7, W⟩ := wi_walk (P := P) (w := w) (n := n + 2) (mt := mt) (goals := goals) R (fun x hx => mt_ok (n := n + 1) hm hw R hp hx) (.sh (.dct (tb rows))) (.sh p) (.sh (.tup goals)) (.sh (.lst (orderL rows p))) .un (orderL rows p) .un fun x hx => ⟨hx, hom x hx⟩
  have ol : (orderL rows p).length < lineMax := by unfold lineMax; omega
  unfold wayV
  cases q : (orderL rows p).find? fun x => hasK goals x with
  | some x =>
    rw [q] at W
    simp only at W ⊢
    generalize mvL (foundF rows p) x = M at *
    generalize foundF rows p = F at *
    generalize orderL rows p = O at *
    generalize dk goals = K at *
    simp [wi_B, h1, D, W]
  | none =>
    rw [q] at W
    simp only at W ⊢
    generalize foundF rows p = F at *
    generalize orderL rows p = O at *
    generalize dk goals = K at *
    simp [wi_B, h1, D, W, ol, closedS]
theorem lu_put {c : Orc} (s0 s1 s2 s5 s6 s7 : Slot) : ∀ (r d : List PV) (s4 : Slot), (∀ x ∈ d ++ r, nameB x = true) → (d ++ r).Nodup → d.length + r.length ≤ 100000 → ∃ s4',
    forL (denSs P.anc P.nf w c lu_b0) (asg (.one 4)) r [s0, s1, s2, .od (dk d), s4, s5, s6, s7] = .nx [s0, s1, s2, .od (dk (d ++ r)), s4', s5, s6, s7]
  | [], d, s4, _, _, _ => ⟨s4, by rw [List.append_nil]; rfl⟩
  | x :: r, d, s4, hn, nd, hl => by
    have hx := hn x (by simp)
    have hk := nameB_key hx
    have hno : hasK d x = false := by
      cases q : hasK d x with
      | false => rfl
      | true =>
        have := (hasK_iff (fun y hy => hn y (List.mem_append_left _ hy)) hx).mp q
        exact absurd rfl ((List.nodup_append.mp nd).2.2 x this x (by simp))
    have ds : dset (dk d) x (.bl true) = dk (d ++ [x]) := dset_dk x (by simpa [hasK] using hno)
    simp only [List.length_cons] at hl
    have dl : (dk d).length < lineMax := by simp [dk]; unfold lineMax; omega
    obtain ⟨t4, ih⟩ := lu_put (c := c) s0 s1 s2 s5 s6 s7 r (d ++ [x]) (.sh x) (by simpa using hn) (by simpa using nd) (by simp; omega)
    refine ⟨t4, ?_⟩
    rw [show d ++ x :: r = d ++ [x] ++ r by simp, ← ih, ← ds]
    generalize dk d = K at *
    exact forL_step (e1 := [s0, s1, s2, .od K, .sh x, s5, s6, s7]) (by simp) (by simp [lu_b0, hk, dl])
theorem lu_walk {n lm : Nat} {rows goals : List PV} {p : PV} (R : GRows rows) (hm : ∀ x ∈ orderL rows p, P.call w n lm [.dct (foundF rows p), x] = .ok (.tup (mvL (foundF rows p) x).reverse)) (s0 s1 s2 s4 s5 : Slot) : ∀ (l : List PV) (s7 : Slot), (∀ x ∈ l, x ∈ orderL rows p ∧ x ∈ pls rows) → ∃ s7',
    forL (denSs P.anc P.nf w (P.call w n) (lu_b1 lm)) (asg (.one 7)) l [s0, s1, s2, .sh (.dct (dk goals)), s4, s5, .sh (.dct (foundF rows p)), s7] =
      match l.find? fun x => hasK goals x with
      | some x => .rt (.tup [.str wayS, .tup (mvL (foundF rows p) x).reverse])
      | none => .nx [s0, s1, s2, .sh (.dct (dk goals)), s4, s5, .sh (.dct (foundF rows p)), s7']
  | [], s7, _ => ⟨s7, rfl⟩
  | x :: r, s7, hl => by
    obtain ⟨h0, h1⟩ := hl x List.mem_cons_self
    have hk := nameB_key (R.nm x h1)
    have hc := hm x h0
    have hg := hasK_dk goals x
    obtain ⟨t7, ih⟩ := lu_walk (goals := goals) R hm s0 s1 s2 s4 s5 r (.sh x) fun y hy => hl y (List.mem_cons_of_mem _ hy)
    refine ⟨t7, ?_⟩
    rw [List.find?_cons]
    have as1 : asg (.one 7) x [s0, s1, s2, .sh (.dct (dk goals)), s4, s5, .sh (.dct (foundF rows p)), s7] = some [s0, s1, s2, .sh (.dct (dk goals)), s4, s5, .sh (.dct (foundF rows p)), .sh x] := by simp
    cases q : hasK goals x with
    | true =>
      rw [q] at hg
      simp only
      refine forL_stop as1 ?_
      generalize mvL (foundF rows p) x = M at *
      generalize foundF rows p = F at *
      generalize dk goals = K at *
      simp [lu_b1, hk, hg, hc, wayS]
    | false =>
      rw [q] at hg
      simp only
      rw [← ih]
      refine forL_step as1 ?_
      generalize foundF rows p = F at *
      generalize dk goals = K at *
      simp [lu_b1, hk, hg]
theorem lu_ok {n f lf st lm : Nat} {x y z u : String} (h : P.defs[f]? = some ⟨x, 3, 8, lu_B lf lm⟩) (ho : P.defs[lf]? = some ⟨y, 2, 7, lf_B st⟩) (hs : P.defs[st]? = some ⟨z, 1, 1, lst_B⟩) (hm : P.defs[lm]? = some ⟨u, 2, 5, lm_B⟩)
    {rows : List PV} (R : GRows rows) {p : PV} (hp : p ∈ pls rows) {goals : List PV} (hg : ∀ x ∈ goals, x ∈ pls rows) (nd : goals.Nodup) : P.call w (n + 3) f [.dct (tb rows), p, .tup goals] = .ok (wayV rows p goals) := by
  rw [call_at h rfl]
  have h1 := lf_ok (w := w) (n := n) ho hs R hp
  have hn := R.n
  have hol := order_len R hp
  have hom := order_mem R hp
  have gl := nodup_le nd hg
  simp only [pls, List.length_map] at gl
  obtain ⟨s4, D⟩ := lu_put (P := P) (w := w) (c := P.call w (n + 2)) (.sh (.dct (tb rows))) (.sh p) (.sh (.tup goals)) .un .un .un goals [] .un (fun x hx => R.nm x (hg x (by simpa using hx))) (by simpa using nd) (by simp; omega)
  rw [List.nil_append, show dk ([] : List PV) = [] from rfl] at D
  obtain ⟨s7, W⟩ := lu_walk (P := P) (w := w) (n := n + 2) (lm := lm) (goals := goals) R (fun x hx => lm_ok (n := n + 1) hm R hp hx) (.sh (.dct (tb rows))) (.sh p) (.sh (.tup goals)) s4 (.sh (.lst (orderL rows p))) (orderL rows p) .un fun x hx => ⟨hx, hom x hx⟩
  have ol : (orderL rows p).length < lineMax := by unfold lineMax; omega
  unfold wayV
  cases q : (orderL rows p).find? fun x => hasK goals x with
  | some x =>
    rw [q] at W
    simp only at W ⊢
    generalize mvL (foundF rows p) x = M at *
    generalize foundF rows p = F at *
    generalize orderL rows p = O at *
    generalize dk goals = K at *
    simp [lu_B, keyBs, h1, D, W]
  | none =>
    rw [q] at W
    simp only at W ⊢
    generalize foundF rows p = F at *
    generalize orderL rows p = O at *
    generalize dk goals = K at *
    simp [lu_B, keyBs, h1, D, W, ol, closedS]
end
end G
namespace G
def di_b0 : List S := [.ite (.cmp .isin (.var 5) (.var 3)) [.ret (.var 4)] []]
def di_b1 : List S := [.put 6 (.sub (.var 8) (.con (.int 1))) (.con (.bl true))]
def di_b2 (st : Nat) : List S := [.put 6 (.var 7) (.con (.bl true)),
    .loop (.one 8) (.seq (.call st [(.sub (.var 0) (.var 7))])) di_b1]
def di_b3 (st : Nat) : List S := [.loop (.one 5) (.seq (.var 2)) di_b0,
    .own 6 (.dct [] []),
    .loop (.one 7) (.seq (.var 3)) (di_b2 st),
    .frz 6,
    .ite (.cmp .eq (.bi .len [(.var 6)]) (.bi .len [(.var 3)])) [.ret (.con .non)] [],
    .set (.one 3) (.var 6)]
def di_B (st : Nat) : List S := [.set (.one 3) (.dct [(.var 1)] [(.con (.bl true))]),
    .loop (.one 4) (.rng [(.bi .len [(.var 0)])]) (di_b3 st),
    .ret (.con .non)]
def le_b0 : List S := [.ite (.cmp .eq (.sub (.var 7) (.con (.int 0))) (.var 5)) [.set (.one 6) (.sub (.var 7) (.con (.int 1)))] []]
def le_b1 (st : Nat) : List S := [.set (.one 6) (.con .non),
    .loop (.one 7) (.seq (.call st [(.sub (.var 0) (.var 4))])) le_b0,
    .ite (.cmp .is (.var 6) (.con .non)) [.ret (.con (.bl false))] [],
    .set (.one 4) (.var 6)]
def le_B (st : Nat) : List S := [.set (.one 4) (.var 1),
    .loop (.one 5) (.seq (.var 2)) (le_b1 st),
    .ret (.cmp .isin (.var 4) (.var 3))]

/-! ### following the moves -/
theorem sts_dist {r : PV} (h : rowB r = true) : distL ((stsP r).map mvP) = true := by
  obtain ⟨p, s, t, rfl, h1, h2, h3⟩ := rowB_form h
  simp only [stsP]
  split
  · rfl
  · rename_i q
    rw [if_neg q] at h3
    obtain ⟨l, rfl⟩ := stepsB_form h3
    rw [stepsB_tup] at h3
    simp only [Bool.and_eq_true] at h3
    exact h3.2.2
theorem sts_vb {r s : PV} (h : rowB r = true) (hv : VB r) (hs : s ∈ stsP r) : VB s := by
  obtain ⟨p, sd, t, rfl, h1, h2, h3⟩ := rowB_form h
  simp only [stsP] at hs
  split at hs
  · cases hs
  · rename_i q
    rw [if_neg q] at h3
    obtain ⟨l, rfl⟩ := stepsB_form h3
    exact (hv.mem (show PV.tup l ∈ [p, sd, .tup l] by simp)).mem hs
section
variable {P : Prog} {w : Nat}
theorem le_none {c : Orc} (s0 s1 s2 s3 s4 : Slot) (m : PV) (hm : VB m) (nm : nameB m = true) : ∀ (l : List PV) (s6 s7 : Slot), (∀ s ∈ l, stB s = true ∧ VB s ∧ mvP s ≠ m) → ∃ s7',
    forL (denSs P.anc P.nf w c le_b0) (asg (.one 7)) l [s0, s1, s2, s3, s4, .sh m, s6, s7] = .nx [s0, s1, s2, s3, s4, .sh m, s6, s7']
  | [], s6, s7, _ => ⟨s7, rfl⟩
  | s :: r, s6, s7, hl => by
    obtain ⟨h1, h2, h3⟩ := hl s List.mem_cons_self
    obtain ⟨x, a, e, rfl, g1, g2, g3⟩ := stB_form h1
    have ho := (h2.mem (show x ∈ [x, a, e] by simp)).okEq hm
    have hq : eqP x m = false := by
      cases q : eqP x m with
      | false => rfl
      | true => exact absurd (name_eq g1 nm q) h3
    obtain ⟨t7, ih⟩ := le_none (c := c) s0 s1 s2 s3 s4 m hm nm r s6 (.sh (.tup [x, a, e])) fun y hy => hl y (List.mem_cons_of_mem _ hy)
    refine ⟨t7, ?_⟩
    rw [← ih]
    exact forL_step (e1 := [s0, s1, s2, s3, s4, .sh m, s6, .sh (.tup [x, a, e])]) (by simp) (by simp [le_b0, ixAt, ofO, ho, hq])
theorem le_some {c : Orc} (s0 s1 s2 s3 s4 : Slot) (m a ev : PV) (hm : VB m) (nm : nameB m = true) : ∀ (l : List PV) (s6 s7 : Slot), (∀ s ∈ l, stB s = true ∧ VB s) → (l.map mvP).Nodup → PV.tup [m, a, ev] ∈ l → ∃ s7',
    forL (denSs P.anc P.nf w c le_b0) (asg (.one 7)) l [s0, s1, s2, s3, s4, .sh m, s6, s7] = .nx [s0, s1, s2, s3, s4, .sh m, .sh a, s7']
  | [], s6, s7, _, _, h => nomatch h
  | s :: r, s6, s7, hl, nd, h => by
    obtain ⟨h1, h2⟩ := hl s List.mem_cons_self
    rw [List.map_cons] at nd
    obtain ⟨n1, n2⟩ := List.nodup_cons.mp nd
    by_cases hs : mvP s = m
    · have : s = .tup [m, a, ev] := by
        rcases List.mem_cons.mp h with q | q
        · exact q.symm
        · exact absurd (hs ▸ List.mem_map_of_mem (f := mvP) q) n1
      subst this
      have ho := hm.okEq hm
      have hq : eqP m m = true := eqP_refl m (nameB_nod nm)
      obtain ⟨t7, W⟩ := le_none (P := P) (w := w) (c := c) s0 s1 s2 s3 s4 m hm nm r (.sh a) (.sh (.tup [m, a, ev])) fun y hy => ⟨(hl y (List.mem_cons_of_mem _ hy)).1, (hl y (List.mem_cons_of_mem _ hy)).2, fun z => n1 (by rw [hs, ← z]; exact List.mem_map_of_mem hy)⟩
      refine ⟨t7, ?_⟩
      rw [← W]
      exact forL_step (e1 := [s0, s1, s2, s3, s4, .sh m, s6, .sh (.tup [m, a, ev])]) (by simp) (by simp [le_b0, ixAt, ofO, ho, hq])
    · obtain ⟨x, b, e, rfl, g1, g2, g3⟩ := stB_form h1
      have ho := (h2.mem (show x ∈ [x, b, e] by simp)).okEq hm
      have hq : eqP x m = false := by
        cases q : eqP x m with
        | false => rfl
        | true => exact absurd (name_eq g1 nm q) hs
      have hr : PV.tup [m, a, ev] ∈ r := by
        rcases List.mem_cons.mp h with q | q
        · exact absurd (by rw [← q]; rfl) hs
        · exact q
      obtain ⟨t7, ih⟩ := le_some (c := c) s0 s1 s2 s3 s4 m a ev hm nm r s6 (.sh (.tup [x, b, e])) (fun y hy => hl y (List.mem_cons_of_mem _ hy)) n2 hr
      refine ⟨t7, ?_⟩
      rw [← ih]
      exact forL_step (e1 := [s0, s1, s2, s3, s4, .sh m, s6, .sh (.tup [x, b, e])]) (by simp) (by simp [le_b0, ixAt, ofO, ho, hq])
theorem dist_nd {l : List PV} (hl : ∀ s ∈ l, stB s = true) (h : distL (l.map mvP) = true) : (l.map mvP).Nodup :=
  dist_nodup (fun x hx => by
    obtain ⟨s, hs, rfl⟩ := List.mem_map.mp hx
    obtain ⟨m, a, e, rfl, g1, -⟩ := stB_form (hl s hs)
    exact g1) h
theorem le_walk {n st : Nat} {z : String} (hs : P.defs[st]? = some ⟨z, 1, 1, lst_B⟩) {rows : List PV} (R : GRows rows) (s1 s2 s3 : Slot) {x y : PV} {ms : List PV} (h : FP rows x ms y) : ∀ (s5 s6 s7 : Slot), ∃ s5' s6' s7',
    forL (denSs P.anc P.nf w (P.call w (n + 1)) (le_b1 st)) (asg (.one 5)) ms [.sh (.dct (tb rows)), s1, s2, s3, .sh x, s5, s6, s7] = .nx [.sh (.dct (tb rows)), s1, s2, s3, .sh y, s5', s6', s7'] := by
  induction h with
  | nil x => exact fun s5 s6 s7 => ⟨s5, s6, s7, rfl⟩
  | @cons x m a ev y ms hx hst hr ih =>
    intro s5 s6 s7
    obtain ⟨a1, a2, a3⟩ := R.at hx
    have rb := R.rb _ a2
    have hS := lst_ok (w := w) (n := n) hs rb
    have hk := nameB_key (R.nm _ hx)
    have h1 := sts_st rb
    have hvm : VB m := (sts_vb rb (R.vb _ a2) hst).mem (show m ∈ [m, a, ev] by simp)
    have hnm : nameB m = true := by
      obtain ⟨m', a', e', q, g1, -⟩ := stB_form (h1 _ hst)
      simp only [PV.tup.injEq, List.cons.injEq] at q
      rw [q.1]; exact g1
    have hna : nameB a = true := by
      obtain ⟨m', a', e', q, -, g1, -⟩ := stB_form (h1 _ hst)
      simp only [PV.tup.injEq, List.cons.injEq] at q
      rw [q.2.1]; exact g1
    have hnn : isNon a = false := by
      cases a with
      | non => simp [nameB, leavesN] at hna
      | _ => rfl
    obtain ⟨t7, W⟩ := le_some (P := P) (w := w) (c := P.call w (n + 1)) (.sh (.dct (tb rows))) s1 s2 s3 (.sh x) m a ev hvm hnm (stsP (rowAt rows x)) (.sh .non) s7 (fun s hs => ⟨h1 s hs, sts_vb rb (R.vb _ a2) hs⟩) (dist_nd h1 (sts_dist rb)) hst
    obtain ⟨u5, u6, u7, ih⟩ := ih (.sh m) (.sh a) t7
    refine ⟨u5, u6, u7, ?_⟩
    rw [← ih]
    exact forL_step (e1 := [.sh (.dct (tb rows)), s1, s2, s3, .sh x, .sh m, s6, s7]) (by simp) (by simp [le_b1, hk, a1, ofO, hS, W, hnn])
theorem le_ok {n f st : Nat} {x z : String} (h : P.defs[f]? = some ⟨x, 4, 8, le_B st⟩) (hs : P.defs[st]? = some ⟨z, 1, 1, lst_B⟩) {rows : List PV} (R : GRows rows) {p y : PV} {ms goals : List PV} (hf : FP rows p ms y) (hy : VB y) (hg : VB (.tup goals)) : P.call w (n + 2) f [.dct (tb rows), p, .tup ms, .tup goals] = .ok (.bl (hasP goals y)) := by
  rw [call_at h rfl]
  obtain ⟨u5, u6, u7, W⟩ := le_walk (P := P) (w := w) (n := n) hs R (.sh p) (.sh (.tup ms)) (.sh (.tup goals)) hf .un .un .un
  have ho : okIn y goals = true := by
    have h1 := hy.flat
    have h2 := hg.nod
    rw [nod] at h2
    simp [okIn, h1, h2]
  simp [le_B, W, ho]
/-! ### the distance -/
def mm (rows : List PV) (p : PV) : Nat → Nat
  | 0 => 0
  | n + 1 => (gF rows p (mm rows p n)).length
theorem mm_lv (rows : List PV) (p : PV) : ∀ n, mm rows p (n + 1) = lv rows p n
  | 0 => rfl
  | n + 1 => by rw [mm, mm_lv rows p n]; rfl
theorem dset_same (k : PV) : ∀ {l : List PV}, hasK l k = true → dset (dk l) k (.bl true) = dk l
  | [], h => nomatch h
  | a :: r, h => by
    unfold dk at *
    simp only [List.map_cons, dset]
    cases q : eqP a k with
    | true => simp
    | false =>
      have : hasK r k = true := by
        unfold hasK at h ⊢
        rw [List.any_cons, q, Bool.false_or] at h
        exact h
      have ih := dset_same k this
      unfold dk at ih
      simp [ih]
theorem di_goal {c : Orc} {near : List PV} (s0 s1 s2 s6 s7 s8 : Slot) (k : PV) : ∀ (l : List PV) (s5 : Slot), (∀ x ∈ l, nameB x = true) → ∃ s5',
    forL (denSs P.anc P.nf w c di_b0) (asg (.one 5)) l [s0, s1, s2, .sh (.dct (dk near)), .sh k, s5, s6, s7, s8] =
      if l.any fun x => hasK near x then .rt k else .nx [s0, s1, s2, .sh (.dct (dk near)), .sh k, s5', s6, s7, s8]
  | [], s5, _ => ⟨s5, rfl⟩
  | x :: r, s5, hl => by
    have hk := nameB_key (hl x List.mem_cons_self)
    have hg := hasK_dk near x
    obtain ⟨t5, ih⟩ := di_goal (c := c) (near := near) s0 s1 s2 s6 s7 s8 k r (.sh x) fun y hy => hl y (List.mem_cons_of_mem _ hy)
    refine ⟨t5, ?_⟩
    rw [List.any_cons]
    have as1 : asg (.one 5) x [s0, s1, s2, .sh (.dct (dk near)), .sh k, s5, s6, s7, s8] = some [s0, s1, s2, .sh (.dct (dk near)), .sh k, .sh x, s6, s7, s8] := by simp
    cases q : hasK near x with
    | true =>
      rw [q] at hg
      simp only [Bool.true_or, if_true]
      refine forL_stop as1 ?_
      generalize dk near = K at *
      simp [di_b0, hk, hg]
    | false =>
      rw [q] at hg
      simp only [Bool.false_or]
      rw [← ih]
      refine forL_step as1 ?_
      generalize dk near = K at *
      simp [di_b0, hk, hg]
theorem di_in {c : Orc} {rows : List PV} (R : GRows rows) (s0 s1 s2 s3 s4 s5 s7 : Slot) (h : PV) : ∀ (l : List PV) (F : FD) (s8 : Slot), OkF rows F → (∀ s ∈ l, stB s = true ∧ aftP s ∈ pls rows) → ∃ s8',
    forL (denSs P.anc P.nf w c di_b1) (asg (.one 8)) l [s0, s1, s2, s3, s4, s5, .od (dk (ks F)), s7, s8] = .nx [s0, s1, s2, s3, s4, s5, .od (dk (ks (expF h F l))), s7, s8']
  | [], F, s8, _, _ => ⟨s8, rfl⟩
  | s :: r, F, s8, o, hl => by
    obtain ⟨h1, h2⟩ := hl s List.mem_cons_self
    obtain ⟨m, a, e, rfl, g1, g2, g3⟩ := stB_form h1
    have hk := nameB_key g2
    have hle := o.le R
    have hn := R.n
    have o' := addF_ok R (h := h) o h2
    obtain ⟨t8, ih⟩ := di_in (c := c) R s0 s1 s2 s3 s4 s5 s7 h r (addF h F (.tup [m, a, e])) (.sh (.tup [m, a, e])) o' fun x hx => hl x (List.mem_cons_of_mem _ hx)
    refine ⟨t8, ?_⟩
    have hd : dset (dk (ks F)) a (.bl true) = dk (ks (addF h F (.tup [m, a, e]))) := by
      cases q : hasK (ks F) a with
      | true =>
        have : addF h F (.tup [m, a, e]) = F := by simp [addF, aftP, q]
        rw [this, dset_same a q]
      | false =>
        have : addF h F (.tup [m, a, e]) = F ++ [(a, .tup [h, m])] := by simp [addF, aftP, mvP, q]
        rw [this, dset_dk a (by simpa [hasK] using q)]
        simp [ks]
    have hlt : (dk (ks F)).length < lineMax := by simp [dk, ks]; unfold lineMax; omega
    rw [show expF h F (.tup [m, a, e] :: r) = expF h (addF h F (.tup [m, a, e])) r from rfl, ← ih, ← hd]
    generalize dk (ks F) = K at *
    exact forL_step (e1 := [s0, s1, s2, s3, s4, s5, .od K, s7, .sh (.tup [m, a, e])]) (by simp) (by simp [di_b1, ixAt, ofO, hk, hlt])
end
end G
namespace G
section
variable {P : Prog} {w : Nat}
theorem mm_mono (rows : List PV) (p : PV) : ∀ n, mm rows p n ≤ mm rows p (n + 1)
  | 0 => Nat.zero_le _
  | n + 1 => gF_len (mm_mono rows p n)
theorem gF_at {rows : List PV} {p : PV} {N j : Nat} {e : PV × PV} (h : (gF rows p N)[j]? = some e) : (gF rows p j)[j]? = some e := by
  have hj := (List.getElem?_eq_some_iff.mp h).1
  rcases Nat.le_total j N with q | q
  · have hl : j < (gF rows p j).length := by
      rcases Nat.lt_or_ge j (gF rows p j).length with z | z
      · exact z
      · have := gF_stop (rows := rows) (p := p) z q
        rw [this] at hj
        omega
    have h1 := List.getElem?_eq_getElem hl
    have h2 := pre_get (gF_pre (rows := rows) (p := p) q) h1
    rw [h] at h2
    rw [h1]
    exact h2.symm
  · exact pre_get (gF_pre q) h
theorem di_turn {n st : Nat} {z : String} (hs : P.defs[st]? = some ⟨z, 1, 1, lst_B⟩) {rows : List PV} (R : GRows rows) {p : PV} (hp : p ∈ pls rows) (s1 s2 s3 s4 s5 : Slot) {i : Nat} {e : PV × PV} (he : (gF rows p i)[i]? = some e) (M : List (PV × PV)) (hM : dset M e.1 (.bl true) = dk (ks (gF rows p i))) (hl : M.length < lineMax) (s8 : Slot) : ∃ s8',
    denSs P.anc P.nf w (P.call w (n + 1)) (di_b2 st) [.sh (.dct (tb rows)), s1, s2, s3, s4, s5, .od M, .sh e.1, s8] = .nx [.sh (.dct (tb rows)), s1, s2, s3, s4, s5, .od (dk (ks (gF rows p (i + 1)))), .sh e.1, s8'] := by
  have o := gF_ok R hp i
  have hm : e.1 ∈ pls rows := o.mem _ (List.mem_map_of_mem (List.mem_of_getElem? he))
  obtain ⟨a1, a2, a3⟩ := R.at hm
  have hS := lst_ok (w := w) (n := n) hs (R.rb _ a2)
  have hk := nameB_key (R.nm _ hm)
  obtain ⟨t8, W⟩ := di_in (P := P) (w := w) (c := P.call w (n + 1)) R (.sh (.dct (tb rows))) s1 s2 s3 s4 s5 (.sh e.1) e.1 (stsP (rowAt rows e.1)) (gF rows p i) s8 o fun s hs => ⟨sts_st (R.rb _ a2) s hs, R.aft a2 hs⟩
  have ht : gF rows p (i + 1) = expF e.1 (gF rows p i) (stsP (rowAt rows e.1)) := by rw [gF_succ]; unfold turnF; rw [he]
  refine ⟨t8, ?_⟩
  rw [ht]
  rw [← hM] at W
  simp [di_b2, hk, hl, a1, ofO, hS, W]
theorem di_mid {n st : Nat} {z : String} (hs : P.defs[st]? = some ⟨z, 1, 1, lst_B⟩) {rows : List PV} (R : GRows rows) {p : PV} (hp : p ∈ pls rows) (s1 s2 s3 s4 s5 : Slot) : ∀ (l : List PV) (i : Nat) (s7 s8 : Slot), 1 ≤ i → (∀ t x, l[t]? = some x → ∃ e, (gF rows p (i + t))[i + t]? = some e ∧ e.1 = x) → ∃ s7' s8',
    forL (denSs P.anc P.nf w (P.call w (n + 1)) (di_b2 st)) (asg (.one 7)) l [.sh (.dct (tb rows)), s1, s2, s3, s4, s5, .od (dk (ks (gF rows p i))), s7, s8] =
      .nx [.sh (.dct (tb rows)), s1, s2, s3, s4, s5, .od (dk (ks (gF rows p (i + l.length)))), s7', s8']
  | [], i, s7, s8, _, _ => ⟨s7, s8, rfl⟩
  | x :: r, i, s7, s8, hi, hl => by
    obtain ⟨e, he, rfl⟩ := hl 0 x rfl
    rw [Nat.add_zero] at he
    have o := gF_ok R hp i
    have hle := o.le R
    have hn := R.n
    have hmem : e.1 ∈ ks (gF rows p i) := List.mem_map_of_mem (List.mem_of_getElem? he)
    have hh := hasK_mem hmem (nameB_nod (R.nm _ (o.mem _ hmem)))
    obtain ⟨t8, W⟩ := di_turn (n := n) hs R hp s1 s2 s3 s4 s5 he (dk (ks (gF rows p i))) (dset_same e.1 hh) (by simp [dk, ks]; unfold lineMax; omega) s8
    obtain ⟨u7, u8, ih⟩ := di_mid (n := n) hs R hp s1 s2 s3 s4 s5 r (i + 1) (.sh e.1) t8 (by omega) fun t x ht => by
      have := hl (t + 1) x (by simpa using ht)
      rwa [show i + (t + 1) = i + 1 + t by omega] at this
    refine ⟨u7, u8, ?_⟩
    rw [List.length_cons, show i + (r.length + 1) = i + 1 + r.length by omega, ← ih]
    exact forL_step (e1 := [.sh (.dct (tb rows)), s1, s2, s3, s4, s5, .od (dk (ks (gF rows p i))), .sh e.1, s8]) (by simp) W
theorem di_more {n st : Nat} {z : String} (hs : P.defs[st]? = some ⟨z, 1, 1, lst_B⟩) {rows : List PV} (R : GRows rows) {p : PV} (hp : p ∈ pls rows) (s1 s2 s3 s4 s5 s7 s8 : Slot) (N : Nat) : ∃ s7' s8',
    forL (denSs P.anc P.nf w (P.call w (n + 1)) (di_b2 st)) (asg (.one 7)) (ks (gF rows p N)) [.sh (.dct (tb rows)), s1, s2, s3, s4, s5, .od [], s7, s8] =
      .nx [.sh (.dct (tb rows)), s1, s2, s3, s4, s5, .od (dk (ks (gF rows p (gF rows p N).length))), s7', s8'] := by
  have key : ∀ t x, (ks (gF rows p N))[t]? = some x → ∃ e, (gF rows p t)[t]? = some e ∧ e.1 = x := fun t x ht => by
    unfold ks at ht
    rw [List.getElem?_map, Option.map_eq_some_iff] at ht
    obtain ⟨e, he, rfl⟩ := ht
    exact ⟨e, gF_at he, rfl⟩
  cases q : ks (gF rows p N) with
  | nil =>
    have : (gF rows p N).length = 0 := by have := congrArg List.length q; simpa [ks] using this
    have h0 := gF_len (rows := rows) (p := p) (Nat.zero_le N)
    have : (gF rows p 0).length = 1 := rfl
    omega
  | cons x r =>
    rw [q] at key
    obtain ⟨e, he, rfl⟩ := key 0 x rfl
    have hee : e = (p, .non) := (Option.some.inj he).symm
    obtain ⟨t8, W⟩ := di_turn (n := n) hs R hp s1 s2 s3 s4 s5 he [] (by rw [hee]; rfl) (by unfold lineMax; simp) s8
    obtain ⟨u7, u8, ih⟩ := di_mid (n := n) hs R hp s1 s2 s3 s4 s5 r 1 (.sh e.1) t8 (Nat.le_refl _) fun t x ht => by
      have := key (t + 1) x (by simpa using ht)
      rwa [show t + 1 = 1 + t by omega] at this
    have hl : (gF rows p N).length = 1 + r.length := by
      have := congrArg List.length q
      simp [ks] at this
      omega
    refine ⟨u7, u8, ?_⟩
    rw [hl, ← ih]
    exact forL_step (e1 := [.sh (.dct (tb rows)), s1, s2, s3, s4, s5, .od [], .sh e.1, s8]) (by simp) W
def distV (rows : List PV) (p : PV) (goals : List PV) : PV := match (orderL rows p).find? fun x => hasK goals x with
  | some x => .int ((mvL (foundF rows p) x).length : Int)
  | none => .non
theorem find_none_of {α : Type} {f : α → Bool} {l : List α} (h : ∀ x ∈ l, f x = false) : l.find? f = none := List.find?_eq_none.mpr fun x hx => by simp [h x hx]
theorem dist_at {rows : List PV} (R : GRows rows) {p : PV} (hp : p ∈ pls rows) {goals : List PV} (n : Nat) (hn : mm rows p n ≤ rows.length)
    (no : ∀ j x, j < mm rows p n → (orderL rows p)[j]? = some x → hasK goals x = false) (yes : ∃ x ∈ ks (gF rows p (mm rows p n)), hasK goals x = true) : distV rows p goals = .int (n : Int) := by
  obtain ⟨y, hy, hg⟩ := yes
  obtain ⟨t, ht⟩ := gF_pre (rows := rows) (p := p) hn
  have eo : orderL rows p = ks (gF rows p (mm rows p n)) ++ ks t := by
    have : gF rows p rows.length = foundF rows p := rfl
    rw [orderL, ← this, ← ht]
    simp [ks]
  unfold distV
  cases q : (orderL rows p).find? fun x => hasK goals x with
  | none =>
    have := List.find?_eq_none.mp q y (by rw [eo]; exact List.mem_append_left _ hy)
    exact absurd hg this
  | some x =>
    obtain ⟨hx, as, bs, e1, e2⟩ := List.find?_eq_some_iff_append.mp q
    have hj : (orderL rows p)[as.length]? = some x := by rw [e1]; simp
    have hlt : as.length < (gF rows p (mm rows p n)).length := by
      rcases Nat.lt_or_ge as.length (gF rows p (mm rows p n)).length with z | z
      · exact z
      · have hp2 : ks (gF rows p (mm rows p n)) <+: as := by
          refine List.prefix_of_prefix_length_le (l₃ := orderL rows p) (by rw [eo]; exact List.prefix_append _ _) (by rw [e1]; exact List.prefix_append _ _) (by simpa [ks] using z)
        have := e2 y (hp2.subset hy)
        simp [hg] at this
    have hge : mm rows p n ≤ as.length := by
      rcases Nat.lt_or_ge as.length (mm rows p n) with z | z
      · have := no _ _ z hj
        have hx' : hasK goals x = true := hx
        rw [hx'] at this
        cases this
      · exact z
    have hj2 := hj
    rw [orderL, ks, List.getElem?_map, Option.map_eq_some_iff] at hj
    obtain ⟨e, he, rfl⟩ := hj
    obtain ⟨ms, c1, c2, c3, c4, c5⟩ := chain R hp rows.length as.length e he
    have hel := (List.getElem?_eq_some_iff.mp he).1
    have hmv : mvL (foundF rows p) e.1 = ms.reverse := c2 _ (by unfold foundF at hel ⊢; omega)
    simp only [hmv, List.length_reverse]
    cases n with
    | zero =>
      have : (gF rows p (mm rows p 0)).length = 1 := rfl
      rw [c4 (by omega)]
      rfl
    | succ d =>
      rw [mm_lv] at hge
      have : (gF rows p (mm rows p (d + 1))).length = lv rows p (d + 1) := by rw [mm_lv]; rfl
      rw [c5 d hge (by omega)]
theorem di_out {n0 st : Nat} {z : String} (hs : P.defs[st]? = some ⟨z, 1, 1, lst_B⟩) {rows : List PV} (R : GRows rows) {p : PV} (hp : p ∈ pls rows) {goals : List PV} (hg : ∀ x ∈ goals, x ∈ pls rows) (s1 : Slot) : ∀ (k n : Nat) (s4 s5 s6 s7 s8 : Slot), n + k = rows.length → n + 1 ≤ (gF rows p (mm rows p n)).length →
    (∀ j x, j < mm rows p n → (orderL rows p)[j]? = some x → hasK goals x = false) →
    forL (denSs P.anc P.nf w (P.call w (n0 + 1)) (di_b3 st)) (asg (.one 4)) ((List.range' n k).map fun j : Nat => .int (j : Int)) [.sh (.dct (tb rows)), s1, .sh (.tup goals), .sh (.dct (dk (ks (gF rows p (mm rows p n))))), s4, s5, s6, s7, s8] = .rt (distV rows p goals)
  | 0, n, s4, s5, s6, s7, s8, h1, h2, _ => by
    have := (gF_ok R hp (mm rows p n)).le R
    omega
  | k + 1, n, s4, s5, s6, s7, s8, h1, h2, h3 => by
    have o := gF_ok R hp (mm rows p n)
    have hle := o.le R
    have hnn := R.n
    have hmn : mm rows p n ≤ rows.length := Nat.le_trans (mm_mono rows p n) hle
    have nmg : ∀ x ∈ goals, nameB x = true := fun x hx => R.nm x (hg x hx)
    have nmk : ∀ x ∈ ks (gF rows p (mm rows p n)), nameB x = true := fun x hx => R.nm x (o.mem x hx)
    obtain ⟨t5, W1⟩ := di_goal (P := P) (w := w) (c := P.call w (n0 + 1)) (near := ks (gF rows p (mm rows p n))) (.sh (.dct (tb rows))) s1 (.sh (.tup goals)) s6 s7 s8 (.int (n : Int)) goals s5 nmg
    have as1 : asg (.one 4) (.int (n : Int)) [.sh (.dct (tb rows)), s1, .sh (.tup goals), .sh (.dct (dk (ks (gF rows p (mm rows p n))))), s4, s5, s6, s7, s8] = some [.sh (.dct (tb rows)), s1, .sh (.tup goals), .sh (.dct (dk (ks (gF rows p (mm rows p n))))), .sh (.int (n : Int)), s5, s6, s7, s8] := by simp
    rw [List.range'_succ, List.map_cons]
    cases q : goals.any fun x => hasK (ks (gF rows p (mm rows p n))) x with
    | true =>
      obtain ⟨x, hx, hxk⟩ := List.any_eq_true.mp q
      have hm := (hasK_iff nmk (nmg x hx)).mp hxk
      have hd := dist_at R hp n hmn h3 ⟨x, hm, hasK_mem hx (nameB_nod (nmg x hx))⟩
      rw [q, if_pos rfl] at W1
      rw [hd]
      refine forL_stop as1 ?_
      generalize dk (ks (gF rows p (mm rows p n))) = K at *
      simp [di_b3, W1]
    | false =>
      have hno : ∀ x ∈ ks (gF rows p (mm rows p n)), hasK goals x = false := fun x hx => by
        cases q2 : hasK goals x with
        | false => rfl
        | true =>
          have := (hasK_iff nmg (nmk x hx)).mp q2
          have := List.any_eq_true.mpr ⟨x, this, hasK_mem hx (nameB_nod (nmk x hx))⟩
          rw [q] at this
          cases this
      rw [q, if_neg (by simp)] at W1
      obtain ⟨t7, t8, W2⟩ := di_more (P := P) (w := w) (n := n0) hs R hp s1 (.sh (.tup goals)) (.sh (.dct (dk (ks (gF rows p (mm rows p n)))))) (.sh (.int (n : Int))) t5 s7 s8 (mm rows p n)
      have o2 := gF_ok R hp (mm rows p (n + 1))
      have hle2 := o2.le R
      have em : mm rows p (n + 1) = (gF rows p (mm rows p n)).length := rfl
      rw [← em] at W2
      have hl1 : (dk (ks (gF rows p (mm rows p n)))).length = (gF rows p (mm rows p n)).length := by simp [dk, ks]
      have hl2 : (dk (ks (gF rows p (mm rows p (n + 1))))).length = (gF rows p (mm rows p (n + 1))).length := by simp [dk, ks]
      have b1 : (dk (ks (gF rows p (mm rows p n)))).length ≤ lineMax := by rw [hl1]; unfold lineMax; omega
      have b2 : (dk (ks (gF rows p (mm rows p (n + 1))))).length ≤ lineMax := by rw [hl2]; unfold lineMax; omega
      have hk : (dk (ks (gF rows p (mm rows p n)))).map (·.1) = ks (gF rows p (mm rows p n)) := by unfold dk; rw [List.map_map]; exact (List.map_congr_left fun _ _ => rfl).trans (List.map_id _)
      have hmono := gF_len (rows := rows) (p := p) (mm_mono rows p n)
      by_cases qe : (gF rows p (mm rows p (n + 1))).length = (gF rows p (mm rows p n)).length
      · have hstop := gF_stop (rows := rows) (p := p) (n := mm rows p (n + 1)) (m := rows.length) (by omega) (by omega)
        have e2 : gF rows p (mm rows p n) = gF rows p (mm rows p (n + 1)) := by
          obtain ⟨t, ht⟩ := gF_pre (rows := rows) (p := p) (mm_mono rows p n)
          have := congrArg List.length ht
          rw [List.length_append] at this
          have ht0 : t = [] := List.eq_nil_of_length_eq_zero (by omega)
          rw [ht0, List.append_nil] at ht
          exact ht
        have hd : distV rows p goals = .non := by
          unfold distV
          have eo : orderL rows p = ks (gF rows p (mm rows p n)) := by
            have : gF rows p rows.length = foundF rows p := rfl
            rw [orderL, ← this, hstop, e2]
          rw [eo, find_none_of hno]
        rw [hd]
        refine forL_stop as1 ?_
        have hl3 : (dk (ks (gF rows p (mm rows p (n + 1))))).length = (dk (ks (gF rows p (mm rows p n)))).length := by rw [hl1, hl2, qe]
        clear hl1 hl2
        generalize dk (ks (gF rows p (mm rows p (n + 1)))) = K2 at *
        generalize dk (ks (gF rows p (mm rows p n))) = K at *
        simp [di_b3, W1, keyBs, hk, W2, b1, b2, oeq, hl3]
      · have ih := di_out (n0 := n0) hs R hp hg s1 k (n + 1) (.sh (.int (n : Int))) t5 (.sh (.dct (dk (ks (gF rows p (mm rows p (n + 1))))))) t7 t8 (by omega) (by omega) fun j x hj hx => by
          rw [em] at hj
          have hj2 := List.getElem?_eq_getElem hj
          obtain ⟨t, ht⟩ := gF_pre (rows := rows) (p := p) hmn
          have eo : orderL rows p = ks (gF rows p (mm rows p n)) ++ ks t := by
            have : gF rows p rows.length = foundF rows p := rfl
            rw [orderL, ← this, ← ht]
            simp [ks]
          rw [eo, List.getElem?_append_left (by simpa [ks] using hj)] at hx
          exact hno x (List.mem_of_getElem? hx)
        rw [← ih]
        refine forL_step as1 ?_
        have hl3 : ¬ ((dk (ks (gF rows p (mm rows p (n + 1))))).length = (dk (ks (gF rows p (mm rows p n)))).length) := by rw [hl1, hl2]; exact qe
        clear hl1 hl2
        generalize dk (ks (gF rows p (mm rows p (n + 1)))) = K2 at *
        generalize dk (ks (gF rows p (mm rows p n))) = K at *
        have hl4 : ¬ ((K2.length : Int) = (K.length : Int)) := by omega
        simp [di_b3, W1, keyBs, hk, W2, b1, b2, oeq, hl3, hl4]
theorem di_ok {n f st : Nat} {x z : String} (h : P.defs[f]? = some ⟨x, 3, 9, di_B st⟩) (hs : P.defs[st]? = some ⟨z, 1, 1, lst_B⟩) {rows : List PV} (R : GRows rows) {p : PV} (hp : p ∈ pls rows) {goals : List PV} (hg : ∀ x ∈ goals, x ∈ pls rows) : P.call w (n + 2) f [.dct (tb rows), p, .tup goals] = .ok (distV rows p goals) := by
  rw [call_at h rfl]
  have hk := nameB_key (R.nm p hp)
  have hn := R.n
  have W := di_out (P := P) (w := w) (n0 := n) hs R hp hg (.sh p) rows.length 0 .un .un .un .un .un (by omega) (Nat.le_refl 1) (fun j x hj => absurd hj (Nat.not_lt_zero _))
  rw [← List.range_eq_range', ← range1_nat] at W
  have e1 : dk (ks (gF rows p (mm rows p 0))) = [(p, .bl true)] := rfl
  have e3 : biLen (.dct (tb rows)) = .ok (.int (rows.length : Int)) := by simp [biLen, tb]; unfold lineMax; omega
  have rm : rngOk (rows.length : Int) = true := by simp [rngOk]; omega
  rw [e1] at W
  simp [-len_dct, di_B, keyBs, hk, dset, e3, rm, W]
end
end G
namespace K08
open PySem G
abbrev pw : PySem.Program := PySem.Challenge.pw_umpirehall_k08_way_to
abbrev top (i : Nat) : Stmt := pw.main.body.getD i (.Pass ⟨0, 0, 0, 0⟩)
def d0 : DefD := ⟨"is_int", top 8, ["value"], ["value"], ⟨[], []⟩⟩
def d1 : DefD := ⟨"is_within", top 9, ["value", "low", "high"], ["value", "low", "high"], ⟨[], []⟩⟩
def d2 : DefD := ⟨"is_tuple", top 10, ["value", "size"], ["value", "size"], ⟨[], []⟩⟩
def d3 : DefD := ⟨"is_word", top 11, ["value", "sign"], ["value"], ⟨[], []⟩⟩
def d4 : DefD := ⟨"count_leaves", top 12, ["value", "depth", "leaves", "part", "inner"], ["value", "depth"], ⟨[], []⟩⟩
def d5 : DefD := ⟨"is_name", top 13, ["value"], ["value"], ⟨[], []⟩⟩
def d6 : DefD := ⟨"are_steps", top 21, ["value", "moves", "step", "move", "after", "event"], ["value"], ⟨[], [1]⟩⟩
def d7 : DefD := ⟨"is_row", top 22, ["value", "place", "side", "rest"], ["value"], ⟨[], []⟩⟩
def d8 : DefD := ⟨"table_of", top 23, ["game", "row"], ["game"], ⟨[], []⟩⟩
def d9 : DefD := ⟨"steps_in", top 24, ["table", "place", "row"], ["table", "place"], ⟨[], []⟩⟩
def d10 : DefD := ⟨"is_game", top 25, ["value", "start", "rows", "table", "row", "place", "move", "after", "event"], ["value"], ⟨[(93, 3)], [3]⟩⟩
def d11 : DefD := ⟨"check_game", top 26, ["game"], ["game"], ⟨[], []⟩⟩
def d12 : DefD := ⟨"is_place", top 27, ["table", "place"], ["table", "place"], ⟨[], []⟩⟩
def d13 : DefD := ⟨"check_place", top 28, ["table", "place"], ["table", "place"], ⟨[], []⟩⟩
def d14 : DefD := ⟨"order_from", top 30, ["table", "place", "found", "order", "at", "here", "move", "after", "event"], ["table", "place"], ⟨[(120, 2), (120, 3)], [2, 3]⟩⟩
def d15 : DefD := ⟨"moves_to", top 31, ["found", "goal", "moves", "here", "before", "move"], ["found", "goal"], ⟨[(128, 2)], [2]⟩⟩
def d16 : DefD := ⟨"are_places", top 32, ["table", "value", "seen", "place"], ["table", "value"], ⟨[], [2]⟩⟩
def d17 : DefD := ⟨"way_in", top 33, ["table", "place", "goals", "order", "found", "wanted", "goal", "here"], ["table", "place", "goals"], ⟨[], []⟩⟩
def d18 : DefD := ⟨"way_to", top 34, ["game", "place", "goals", "table"], ["game", "place", "goals"], ⟨[], []⟩⟩
def d19 : DefD := ⟨"_law_cell", top 36, ["script", "k"], ["script", "k"], ⟨[], []⟩⟩
def d20 : DefD := ⟨"_law_row", top 37, ["cell", "count", "rest", "great", "numbers", "k", "mixed"], ["cell", "count"], ⟨[(168, 4)], [4]⟩⟩
def d21 : DefD := ⟨"_law_rest", top 38, ["names", "numbers", "deeds", "kind", "side", "size", "steps", "j", "cell"], ["names", "numbers"], ⟨[(182, 6)], [6]⟩⟩
def d22 : DefD := ⟨"_law_game", top 39, ["numbers", "words", "size", "names", "k", "rows", "told"], ["numbers"], ⟨[(191, 5)], [5]⟩⟩
def d23 : DefD := ⟨"_law_long", top 40, ["size", "numbers", "rows", "k", "target", "steps"], ["size", "numbers"], ⟨[(201, 2)], [2]⟩⟩
def d24 : DefD := ⟨"_law_world", top 41, ["script", "row"], ["script"], ⟨[], []⟩⟩
def d25 : DefD := ⟨"_law_table", top 42, ["game", "table", "row"], ["game"], ⟨[(211, 1)], [1]⟩⟩
def d26 : DefD := ⟨"_law_steps", top 43, ["row"], ["row"], ⟨[], []⟩⟩
def d27 : DefD := ⟨"_law_same", top 44, ["told", "due", "one", "two"], ["told", "due"], ⟨[], []⟩⟩
def d28 : DefD := ⟨"_law_found", top 45, ["table", "place", "found", "order", "at", "here", "step"], ["table", "place"], ⟨[(241, 2), (241, 3)], [2, 3]⟩⟩
def d29 : DefD := ⟨"_law_moves", top 46, ["found", "goal", "moves", "here", "k"], ["found", "goal"], ⟨[(249, 2)], [2]⟩⟩
def d30 : DefD := ⟨"_law_due", top 47, ["table", "place", "goals", "wanted", "goal", "order", "found", "here"], ["table", "place", "goals"], ⟨[(254, 3)], [3]⟩⟩
def d31 : DefD := ⟨"_law_goals", top 48, ["game", "row", "places", "line", "share", "goals", "k"], ["game", "row"], ⟨[], []⟩⟩
def d32 : DefD := ⟨"_law_distance", top 49, ["table", "place", "goals", "near", "distance", "goal", "more", "here", "step"], ["table", "place", "goals"], ⟨[(279, 6)], [6]⟩⟩
def d33 : DefD := ⟨"_law_leads", top 50, ["table", "place", "moves", "goals", "here", "move", "after", "step"], ["table", "place", "moves", "goals"], ⟨[], []⟩⟩
def d34 : DefD := ⟨"_law_refusal", top 51, ["game", "place", "goals", "error"], ["game", "place", "goals"], ⟨[], []⟩⟩
def d35 : DefD := ⟨"law", top 52, ["script", "game", "table", "row", "place", "goals", "told", "distance", "bad"], ["script"], ⟨[], []⟩⟩
def D : List DefD := (([d0, d1, d2, d3, d4, d5, d6, d7, d8, d9, d10, d11, d12, d13, d14, d15, d16, d17, d18, d19, d20, d21, d22, d23, d24, d25, d26, d27, d28, d29] : List DefD) ++ ([d30, d31, d32, d33, d34, d35] : List DefD))
def f0_B : List S := [.ret (.and (.isi (.var 0) 0) (.not (.isi (.var 0) 1)))]

def f1_B : List S := [.ret (.and (.call 0 [(.var 0)]) (.chn .le .le (.var 1) (.var 0) (.var 2)))]

def f2_B : List S := [.ret (.and (.isi (.var 0) 3) (.cmp .eq (.bi .len [(.var 0)]) (.var 1)))]

def f3_b0 : List S := [.ite (.and (.cmp .nin (.var 1) (.con (.str ['a', 'b', 'c', 'd', 'e', 'f', 'g', 'h', 'i', 'j', 'k', 'l', 'm', 'n', 'o', 'p', 'q', 'r', 's', 't', 'u', 'v', 'w', 'x', 'y', 'z']))) (.cmp .nin (.var 1) (.con (.str ['0', '1', '2', '3', '4', '5', '6', '7', '8', '9'])))) [.ret (.con (.bl false))] []]
def f3_B : List S := [.ite (.or (.not (.isi (.var 0) 2)) (.not (.chn .le .le (.con (.int 1)) (.bi .len [(.var 0)]) (.con (.int 12))))) [.ret (.con (.bl false))] [],
    .ite (.cmp .nin (.sub (.var 0) (.con (.int 0))) (.con (.str ['a', 'b', 'c', 'd', 'e', 'f', 'g', 'h', 'i', 'j', 'k', 'l', 'm', 'n', 'o', 'p', 'q', 'r', 's', 't', 'u', 'v', 'w', 'x', 'y', 'z']))) [.ret (.con (.bl false))] [],
    .loop (.one 1) (.seq (.var 0)) f3_b0,
    .ret (.con (.bl true))]

def f4_b0 : List S := [.set (.one 4) (.call 4 [(.var 3), (.bin .sub (.var 1) (.con (.int 1)))]),
    .ite (.cmp .eq (.var 4) (.con (.int 0))) [.ret (.con (.int 0))] [],
    .set (.one 2) (.bin .add (.var 2) (.var 4))]
def f4_B : List S := [.ite (.call 0 [(.var 0)]) [.ret (.bi .int [(.chn .le .le (.con (.int 0)) (.var 0) (.con (.int 999)))])] [],
    .ite (.isi (.var 0) 2) [.ret (.bi .int [(.call 3 [(.var 0)])])] [],
    .ite (.or (.not (.isi (.var 0) 3)) (.or (.cmp .eq (.var 1) (.con (.int 0))) (.not (.chn .le .le (.con (.int 1)) (.bi .len [(.var 0)]) (.con (.int 6)))))) [.ret (.con (.int 0))] [],
    .set (.one 2) (.con (.int 0)),
    .loop (.one 3) (.seq (.var 0)) f4_b0,
    .ret (.var 2)]

def f5_B : List S := [.ite (.call 0 [(.var 0)]) [.ret (.con (.bl false))] [],
    .ret (.chn .le .le (.con (.int 1)) (.call 4 [(.var 0), (.con (.int 4))]) (.con (.int 20)))]

def f6_b0 : List S := [.ite (.not (.call 2 [(.var 2), (.con (.int 3))])) [.ret (.con (.bl false))] [],
    .set (.many [(.one 3), (.one 4), (.one 5)]) (.var 2),
    .ite (.or (.not (.call 5 [(.var 3)])) (.cmp .isin (.var 3) (.var 1))) [.ret (.con (.bl false))] [],
    .ite (.or (.not (.call 5 [(.var 4)])) (.not (.call 1 [(.var 5), (.con (.int 0)), (.con (.int 1))]))) [.ret (.con (.bl false))] [],
    .put 1 (.var 3) (.con (.bl true))]
def f6_B : List S := [.ite (.or (.not (.isi (.var 0) 3)) (.not (.chn .le .le (.con (.int 1)) (.bi .len [(.var 0)]) (.con (.int 12))))) [.ret (.con (.bl false))] [],
    .own 1 (.dct [] []),
    .loop (.one 2) (.seq (.var 0)) f6_b0,
    .ret (.con (.bl true))]

def f7_B : List S := [.ite (.not (.call 2 [(.var 0), (.con (.int 3))])) [.ret (.con (.bl false))] [],
    .set (.many [(.one 1), (.one 2), (.one 3)]) (.var 0),
    .ite (.or (.not (.call 5 [(.var 1)])) (.not (.call 1 [(.var 2), (.neg (.con (.int 1))), (.con (.int 1))]))) [.ret (.con (.bl false))] [],
    .ite (.cmp .eq (.var 2) (.con (.int 0))) [.ret (.call 1 [(.var 3), (.neg (.con (.int 1))), (.con (.int 1))])] [],
    .ret (.call 6 [(.var 3)])]

def f8_B : List S := [.ret (.dc [1] (.one 1) (.seq (.sub (.var 0) (.con (.int 2)))) none (.sub (.var 1) (.con (.int 0))) (.var 1))]

def f9_B : List S := [.set (.one 2) (.sub (.var 0) (.var 1)),
    .ite (.cmp .eq (.sub (.var 2) (.con (.int 1))) (.con (.int 0))) [.ret (.tup [])] [],
    .ret (.sub (.var 2) (.con (.int 2)))]

def f10_b0 : List S := [.ite (.or (.not (.call 7 [(.var 4)])) (.cmp .isin (.sub (.var 4) (.con (.int 0))) (.var 3))) [.ret (.con (.bl false))] [],
    .put 3 (.sub (.var 4) (.con (.int 0))) (.var 4)]
def f10_b1 : List S := [.ite (.cmp .nin (.var 7) (.var 3)) [.ret (.con (.bl false))] []]
def f10_b2 : List S := [.loop (.many [(.one 6), (.one 7), (.one 8)]) (.seq (.call 9 [(.var 3), (.var 5)])) f10_b1]
def f10_B : List S := [.ite (.or (.not (.call 2 [(.var 0), (.con (.int 3))])) (.cmp .ne (.sub (.var 0) (.con (.int 0))) (.con (.str ['g', 'a', 'm', 'e'])))) [.ret (.con (.bl false))] [],
    .set (.many [(.one 1), (.one 2)]) (.tup [(.sub (.var 0) (.con (.int 1))), (.sub (.var 0) (.con (.int 2)))]),
    .ite (.or (.not (.isi (.var 2) 3)) (.not (.chn .le .le (.con (.int 1)) (.bi .len [(.var 2)]) (.con (.int 600))))) [.ret (.con (.bl false))] [],
    .own 3 (.dct [] []),
    .loop (.one 4) (.seq (.var 2)) f10_b0,
    .frz 3,
    .ite (.or (.not (.call 5 [(.var 1)])) (.cmp .nin (.var 1) (.var 3))) [.ret (.con (.bl false))] [],
    .loop (.one 5) (.seq (.var 3)) f10_b2,
    .ret (.con (.bl true))]

def f11_B : List S := [.ite (.not (.call 10 [(.var 0)])) [.rse 1 []] []]

def f12_B : List S := [.ret (.and (.call 5 [(.var 1)]) (.cmp .isin (.var 1) (.var 0)))]

def f13_B : List S := [.ite (.not (.call 12 [(.var 0), (.var 1)])) [.rse 2 []] []]

def f14_b0 : List S := [.ite (.cmp .nin (.var 7) (.var 2)) [.put 2 (.var 7) (.tup [(.var 5), (.var 6)]),
    .app 3 (.var 7)] []]
def f14_b1 : List S := [.set (.one 5) (.sub (.var 3) (.var 4)),
    .loop (.many [(.one 6), (.one 7), (.one 8)]) (.seq (.call 9 [(.var 0), (.var 5)])) f14_b0,
    .set (.one 4) (.bin .add (.var 4) (.con (.int 1)))]
def f14_B : List S := [.own 2 (.dct [(.var 1)] [(.con .non)]),
    .own 3 (.lst [(.var 1)]),
    .set (.one 4) (.con (.int 0)),
    .whl (.cmp .lt (.var 4) (.bi .len [(.var 3)])) f14_b1,
    .frz 2,
    .frz 3,
    .ret (.tup [(.var 3), (.var 2)])]

def f15_b0 : List S := [.set (.many [(.one 4), (.one 5)]) (.sub (.var 0) (.var 3)),
    .app 2 (.var 5),
    .set (.one 3) (.var 4)]
def f15_B : List S := [.own 2 (.lst []),
    .set (.one 3) (.var 1),
    .whl (.cmp .isn (.sub (.var 0) (.var 3)) (.con .non)) f15_b0,
    .frz 2,
    .ret (.bi .tuple [(.met .rvs (.var 2) [])])]

def f16_b0 : List S := [.ite (.or (.not (.call 12 [(.var 0), (.var 3)])) (.cmp .isin (.var 3) (.var 2))) [.ret (.con (.bl false))] [],
    .put 2 (.var 3) (.con (.bl true))]
def f16_B : List S := [.ite (.not (.isi (.var 1) 3)) [.ret (.con (.bl false))] [],
    .own 2 (.dct [] []),
    .loop (.one 3) (.seq (.var 1)) f16_b0,
    .ret (.con (.bl true))]

def f17_b0 : List S := [.ite (.cmp .isin (.var 7) (.var 5)) [.ret (.tup [(.con (.str ['w', 'a', 'y'])), (.call 15 [(.var 4), (.var 7)])])] []]
def f17_B : List S := [.set (.many [(.one 3), (.one 4)]) (.call 14 [(.var 0), (.var 1)]),
    .set (.one 5) (.dc [6] (.one 6) (.seq (.var 2)) none (.var 6) (.con (.bl true))),
    .loop (.one 7) (.seq (.var 3)) f17_b0,
    .ret (.tup [(.con (.str ['c', 'l', 'o', 's', 'e', 'd'])), (.bi .tuple [(.var 3)])])]

def f18_B : List S := [.exp (.call 11 [(.var 0)]),
    .set (.one 3) (.call 8 [(.var 0)]),
    .exp (.call 13 [(.var 3), (.var 1)]),
    .ite (.not (.call 16 [(.var 3), (.var 2)])) [.rse 2 []] [],
    .ret (.call 17 [(.var 3), (.var 1), (.var 2)])]

def f19_B : List S := [.ite (.cmp .lt (.var 1) (.bi .len [(.var 0)])) [.ret (.bi .int [(.sub (.var 0) (.var 1))])] [],
    .ret (.var 1)]

def f20_b0 : List S := [.ite (.var 3) [.app 4 (.bin .mod (.bi .int [(.var 2)]) (.con (.int 1000))),
    .set (.one 2) (.bin .fdiv (.var 2) (.con (.int 1000)))] [.set (.one 6) (.bin .mod (.bi .int [(.bin .mul (.bin .add (.var 2) (.bin .mul (.con (.int 7919)) (.bin .add (.var 5) (.con (.int 1))))) (.con (.int 48271)))]) (.con (.int 100003))),
    .app 4 (.bin .mod (.bi .int [(.bin .mod (.bi .int [(.bin .mul (.var 6) (.var 6))]) (.con (.int 99991)))]) (.con (.int 1000)))]]
def f20_B : List S := [.set (.one 2) (.bi .abs [(.bi .int [(.var 0)])]),
    .set (.one 3) (.cmp .ge (.var 2) (.bin .pow (.con (.int 10)) (.con (.int 18)))),
    .own 4 (.lst []),
    .loop (.one 5) (.rng [(.var 1)]) f20_b0,
    .frz 4,
    .ret (.var 4)]

def f21_b0 : List S := [.set (.one 8) (.sub (.var 1) (.bin .add (.con (.int 1)) (.var 7))),
    .app 6 (.tup [(.sub (.var 2) (.bin .mod (.bi .int [(.bin .add (.bin .fdiv (.sub (.var 1) (.con (.int 0))) (.con (.int 21))) (.var 7))]) (.con (.int 6)))), (.sub (.var 0) (.bin .mod (.bi .int [(.var 8)]) (.var 5))), (.bin .mod (.bi .int [(.bin .fdiv (.var 8) (.var 5))]) (.con (.int 2)))])]
def f21_B : List S := [.set (.one 2) (.lst [(.con (.str ['x'])), (.con (.str ['g', 'o'])), (.con (.str ['m', '1'])), (.tup [(.con (.str ['x'])), (.con (.int 1))]), (.con (.str ['y', 'y'])), (.tup [(.con (.str ['k'])), (.tup [(.con (.str ['x'])), (.con (.int 0))])])]),
    .set (.one 3) (.bin .mod (.bi .int [(.sub (.var 1) (.con (.int 0)))]) (.con (.int 7))),
    .ite (.cmp .lt (.var 3) (.con (.int 2))) [.ret (.tup [(.con (.int 0)), (.bin .sub (.bin .mod (.bi .int [(.bin .fdiv (.sub (.var 1) (.con (.int 0))) (.con (.int 7)))]) (.con (.int 3))) (.con (.int 1)))])] [],
    .set (.one 4) (.con (.int 1)),
    .ite (.cmp .gt (.var 3) (.con (.int 4))) [.set (.one 4) (.neg (.con (.int 1)))] [],
    .set (.one 5) (.bi .len [(.var 0)]),
    .own 6 (.lst []),
    .loop (.one 7) (.rng [(.bin .add (.con (.int 1)) (.bin .mod (.bi .int [(.bin .fdiv (.sub (.var 1) (.con (.int 0))) (.con (.int 7)))]) (.con (.int 3))))]) f21_b0,
    .frz 6,
    .ret (.tup [(.var 4), (.bi .tuple [(.var 6)])])]

def f22_b0 : List S := [.set (.one 6) (.call 21 [(.var 3), (.slc (.var 0) (some (.bin .add (.con (.int 2)) (.bin .mul (.con (.int 4)) (.var 4)))) (some (.bin .add (.con (.int 6)) (.bin .mul (.con (.int 4)) (.var 4)))))]),
    .app 5 (.tup [(.sub (.var 3) (.var 4)), (.sub (.var 6) (.con (.int 0))), (.sub (.var 6) (.con (.int 1)))])]
def f22_B : List S := [.set (.one 1) (.lst [(.con (.str ['a'])), (.con (.str ['b', 'c'])), (.con (.str ['d', '1', '0'])), (.tup [(.con (.str ['a'])), (.con (.int 0))]), (.tup [(.con (.str ['p'])), (.tup [(.con (.str ['q'])), (.con (.int 3))])]), (.con (.str ['z', 'z', '9'])), (.tup [(.con (.str ['a'])), (.con (.int 1))])]),
    .set (.one 2) (.bin .add (.con (.int 1)) (.bin .mod (.bi .int [(.sub (.var 0) (.con (.int 0)))]) (.con (.int 7)))),
    .set (.one 3) (.lc [4] (.one 4) (.rng [(.var 2)]) none (.sub (.var 1) (.bin .mod (.bi .int [(.bin .add (.var 4) (.sub (.var 0) (.con (.int 1))))]) (.con (.int 7))))),
    .own 5 (.lst []),
    .loop (.one 4) (.rng [(.var 2)]) f22_b0,
    .frz 5,
    .ret (.tup [(.con (.str ['g', 'a', 'm', 'e'])), (.sub (.var 3) (.bin .mod (.bi .int [(.bin .fdiv (.sub (.var 0) (.con (.int 1))) (.con (.int 7)))]) (.var 2))), (.bi .tuple [(.var 5)])])]

def f23_b0 : List S := [.set (.one 4) (.bin .mod (.bi .int [(.bin .mul (.var 3) (.sub (.var 1) (.con (.int 0))))]) (.var 0)),
    .ite (.cmp .eq (.bin .mod (.bi .int [(.sub (.var 1) (.con (.int 1)))]) (.con (.int 2))) (.con (.int 1))) [.set (.one 4) (.bin .add (.bin .add (.var 3) (.con (.int 1))) (.bin .mod (.bi .int [(.bin .mul (.var 3) (.sub (.var 1) (.con (.int 0))))]) (.bin .sub (.bin .sub (.var 0) (.con (.int 1))) (.var 3))))] [],
    .set (.one 5) (.tup [(.tup [(.con (.str ['x'])), (.tup [(.con (.str ['p'])), (.bin .add (.var 3) (.con (.int 1)))]), (.bin .mod (.bi .int [(.bin .fdiv (.var 3) (.con (.int 3)))]) (.con (.int 2)))]), (.tup [(.con (.str ['g', 'o'])), (.tup [(.con (.str ['p'])), (.var 4)]), (.con (.int 0))])]),
    .app 2 (.tup [(.tup [(.con (.str ['p'])), (.var 3)]), (.bin .sub (.con (.int 1)) (.bin .mul (.con (.int 2)) (.bin .mod (.bi .int [(.bin .add (.var 3) (.sub (.var 1) (.con (.int 2))))]) (.con (.int 2))))), (.var 5)])]
def f23_B : List S := [.own 2 (.lst []),
    .loop (.one 3) (.rng [(.bin .sub (.var 0) (.con (.int 1)))]) f23_b0,
    .app 2 (.tup [(.tup [(.con (.str ['p'])), (.bin .sub (.var 0) (.con (.int 1)))]), (.con (.int 0)), (.bin .sub (.bin .mod (.bi .int [(.sub (.var 1) (.con (.int 3)))]) (.con (.int 3))) (.con (.int 1)))]),
    .frz 2,
    .ret (.tup [(.con (.str ['g', 'a', 'm', 'e'])), (.tup [(.con (.str ['p'])), (.bin .mod (.bi .int [(.sub (.var 1) (.con (.int 4)))]) (.var 0))]), (.bi .tuple [(.var 2)])])]

def f24_B : List S := [.set (.one 1) (.call 20 [(.call 19 [(.var 0), (.con (.int 2))]), (.con (.int 8))]),
    .ite (.cmp .eq (.bin .mod (.sub (.var 1) (.con (.int 7))) (.con (.int 4))) (.con (.int 1))) [.ret (.call 23 [(.bin .add (.con (.int 2)) (.bin .mod (.bin .add (.bin .mul (.sub (.var 1) (.con (.int 5))) (.con (.int 7))) (.sub (.var 1) (.con (.int 6)))) (.con (.int 599)))), (.var 1)])] [],
    .ret (.call 22 [(.call 20 [(.call 19 [(.var 0), (.con (.int 0))]), (.con (.int 30))])])]

def f25_b0 : List S := [.put 1 (.sub (.var 2) (.con (.int 0))) (.var 2)]
def f25_B : List S := [.own 1 (.dct [] []),
    .loop (.one 2) (.seq (.sub (.var 0) (.con (.int 2)))) f25_b0,
    .frz 1,
    .ret (.var 1)]

def f26_B : List S := [.ite (.cmp .eq (.sub (.var 0) (.con (.int 1))) (.con (.int 0))) [.ret (.tup [])] [],
    .ret (.sub (.var 0) (.con (.int 2)))]

def f27_b0 : List S := [.ite (.not (.call 27 [(.var 2), (.var 3)])) [.ret (.con (.bl false))] []]
def f27_B : List S := [.ite (.isi (.var 1) 3) [.ite (.or (.not (.isi (.var 0) 3)) (.cmp .ne (.bi .len [(.var 0)]) (.bi .len [(.var 1)]))) [.ret (.con (.bl false))] [],
    .loop (.many [(.one 2), (.one 3)]) (.zip (.var 0) (.var 1)) f27_b0,
    .ret (.con (.bl true))] [],
    .ite (.cmp .is (.var 1) (.con .non)) [.ret (.cmp .is (.var 0) (.con .non))] [],
    .ite (.isi (.var 1) 2) [.ret (.and (.isi (.var 0) 2) (.cmp .eq (.var 0) (.var 1)))] [],
    .ite (.cmp .ne (.isi (.var 0) 1) (.isi (.var 1) 1)) [.ret (.con (.bl false))] [],
    .ret (.and (.isi (.var 0) 0) (.cmp .eq (.var 0) (.var 1)))]

def f28_b0 : List S := [.ite (.cmp .nin (.sub (.var 6) (.con (.int 1))) (.var 2)) [.put 2 (.sub (.var 6) (.con (.int 1))) (.tup [(.var 5), (.sub (.var 6) (.con (.int 0)))]),
    .app 3 (.sub (.var 6) (.con (.int 1)))] []]
def f28_b1 : List S := [.ite (.cmp .lt (.var 4) (.bi .len [(.var 3)])) [.set (.one 5) (.sub (.var 3) (.var 4)),
    .loop (.one 6) (.seq (.call 26 [(.sub (.var 0) (.var 5))])) f28_b0] []]
def f28_B : List S := [.own 2 (.dct [(.var 1)] [(.con .non)]),
    .own 3 (.lst [(.var 1)]),
    .loop (.one 4) (.rng [(.bi .len [(.var 0)])]) f28_b1,
    .frz 2,
    .frz 3,
    .ret (.tup [(.var 3), (.var 2)])]

def f29_b0 : List S := [.ite (.cmp .isn (.sub (.var 0) (.var 3)) (.con .non)) [.app 2 (.sub (.sub (.var 0) (.var 3)) (.con (.int 1))),
    .set (.one 3) (.sub (.sub (.var 0) (.var 3)) (.con (.int 0)))] []]
def f29_B : List S := [.own 2 (.lst []),
    .set (.one 3) (.var 1),
    .loop (.one 4) (.rng [(.bi .len [(.var 0)])]) f29_b0,
    .frz 2,
    .ret (.bi .tuple [(.met .rvs (.var 2) [])])]

def f30_b0 : List S := [.put 3 (.var 4) (.con (.bl true))]
def f30_b1 : List S := [.ite (.cmp .isin (.var 7) (.var 3)) [.ret (.tup [(.con (.str ['w', 'a', 'y'])), (.call 29 [(.var 6), (.var 7)])])] []]
def f30_B : List S := [.own 3 (.dct [] []),
    .loop (.one 4) (.seq (.var 2)) f30_b0,
    .frz 3,
    .set (.many [(.one 5), (.one 6)]) (.call 28 [(.var 0), (.var 1)]),
    .loop (.one 7) (.seq (.var 5)) f30_b1,
    .ret (.tup [(.con (.str ['c', 'l', 'o', 's', 'e', 'd'])), (.bi .tuple [(.var 5)])])]

def f31_B : List S := [.set (.one 2) (.lc [3] (.one 3) (.seq (.sub (.var 0) (.con (.int 2)))) none (.sub (.var 3) (.con (.int 0)))),
    .set (.one 4) (.bin .add (.con (.int 2)) (.bin .mul (.con (.int 6)) (.bin .mod (.sub (.var 1) (.con (.int 0))) (.con (.int 2))))),
    .set (.one 5) (.lc [6] (.one 6) (.rng [(.bi .len [(.var 2)])]) (some (.cmp .eq (.bin .mod (.bi .int [(.bin .fdiv (.sub (.var 1) (.bin .add (.con (.int 1)) (.bin .mod (.var 6) (.con (.int 8))))) (.bin .add (.con (.int 1)) (.bin .fdiv (.var 6) (.con (.int 8)))))]) (.var 4)) (.con (.int 0)))) (.sub (.var 2) (.var 6))),
    .ite (.cmp .eq (.bin .mod (.sub (.var 1) (.con (.int 9))) (.con (.int 8))) (.con (.int 3))) [.set (.one 5) (.lst [])] [],
    .ite (.cmp .eq (.bin .mod (.sub (.var 1) (.con (.int 10))) (.con (.int 2))) (.con (.int 1))) [.set (.one 5) (.met .rvs (.var 5) [])] [],
    .ret (.bi .tuple [(.var 5)])]

def f32_b0 : List S := [.ite (.cmp .isin (.var 5) (.var 3)) [.ret (.var 4)] []]
def f32_b1 : List S := [.put 6 (.sub (.var 8) (.con (.int 1))) (.con (.bl true))]
def f32_b2 : List S := [.put 6 (.var 7) (.con (.bl true)),
    .loop (.one 8) (.seq (.call 26 [(.sub (.var 0) (.var 7))])) f32_b1]
def f32_b3 : List S := [.loop (.one 5) (.seq (.var 2)) f32_b0,
    .own 6 (.dct [] []),
    .loop (.one 7) (.seq (.var 3)) f32_b2,
    .frz 6,
    .ite (.cmp .eq (.bi .len [(.var 6)]) (.bi .len [(.var 3)])) [.ret (.con .non)] [],
    .set (.one 3) (.var 6)]
def f32_B : List S := [.set (.one 3) (.dct [(.var 1)] [(.con (.bl true))]),
    .loop (.one 4) (.rng [(.bi .len [(.var 0)])]) f32_b3,
    .ret (.con .non)]

def f33_b0 : List S := [.ite (.cmp .eq (.sub (.var 7) (.con (.int 0))) (.var 5)) [.set (.one 6) (.sub (.var 7) (.con (.int 1)))] []]
def f33_b1 : List S := [.set (.one 6) (.con .non),
    .loop (.one 7) (.seq (.call 26 [(.sub (.var 0) (.var 4))])) f33_b0,
    .ite (.cmp .is (.var 6) (.con .non)) [.ret (.con (.bl false))] [],
    .set (.one 4) (.var 6)]
def f33_B : List S := [.set (.one 4) (.var 1),
    .loop (.one 5) (.seq (.var 2)) f33_b1,
    .ret (.cmp .isin (.var 4) (.var 3))]

def f34_B : List S := [.tri [.exp (.call 18 [(.var 0), (.var 1), (.var 2)])] [.mk 0 (some 3) [.ret (.tup [(.isx 3 1), (.isx 3 2)])]],
    .ret (.con .non)]

def f35_b0 : List S := [.ite (.or (.cmp .ne (.call 34 [(.var 1), (.var 4), (.var 8)]) (.tup [(.con (.bl false)), (.con (.bl true))])) (.cmp .ne (.call 34 [(.bi .list [(.var 1)]), (.var 4), (.var 8)]) (.tup [(.con (.bl true)), (.con (.bl false))]))) [.ret (.con (.bl false))] []]
def f35_B : List S := [.set (.one 1) (.call 24 [(.var 0)]),
    .set (.one 2) (.call 25 [(.var 1)]),
    .set (.one 3) (.call 20 [(.call 19 [(.var 0), (.con (.int 1))]), (.con (.int 12))]),
    .set (.one 4) (.sub (.sub (.sub (.var 1) (.con (.int 2))) (.bin .mod (.sub (.var 3) (.con (.int 11))) (.bi .len [(.sub (.var 1) (.con (.int 2)))]))) (.con (.int 0))),
    .set (.one 5) (.call 31 [(.var 1), (.var 3)]),
    .set (.one 6) (.call 18 [(.var 1), (.var 4), (.var 5)]),
    .ite (.not (.call 27 [(.var 6), (.call 30 [(.var 2), (.var 4), (.var 5)])])) [.ret (.con (.bl false))] [],
    .ite (.and (.cmp .eq (.sub (.var 6) (.con (.int 0))) (.con (.str ['w', 'a', 'y']))) (.not (.call 33 [(.var 2), (.var 4), (.sub (.var 6) (.con (.int 1))), (.var 5)]))) [.ret (.con (.bl false))] [],
    .ite (.cmp .le (.bi .len [(.var 2)]) (.con (.int 40))) [.set (.one 7) (.call 32 [(.var 2), (.var 4), (.var 5)]),
    .ite (.and (.cmp .eq (.sub (.var 6) (.con (.int 0))) (.con (.str ['w', 'a', 'y']))) (.cmp .ne (.bi .len [(.sub (.var 6) (.con (.int 1)))]) (.var 7))) [.ret (.con (.bl false))] [],
    .ite (.and (.cmp .eq (.sub (.var 6) (.con (.int 0))) (.con (.str ['c', 'l', 'o', 's', 'e', 'd']))) (.cmp .isn (.var 7) (.con .non))) [.ret (.con (.bl false))] []] [],
    .ite (.not (.call 27 [(.call 18 [(.var 1), (.var 4), (.tup [(.var 4)])]), (.tup [(.con (.str ['w', 'a', 'y'])), (.tup [])])])) [.ret (.con (.bl false))] [],
    .loop (.one 8) (.seq (.lst [(.bi .list [(.var 5)]), (.tup [(.var 4), (.var 4)]), (.tup [(.con (.str ['q', '0']))]), (.tup [(.var 4), (.tup [(.con (.str ['a'])), (.con (.bl true))])]), (.con .non), (.con (.str ['a']))])) f35_b0,
    .ret (.and (.cmp .eq (.call 34 [(.var 1), (.con (.str ['q', '0'])), (.var 5)]) (.tup [(.con (.bl false)), (.con (.bl true))])) (.cmp .eq (.call 34 [(.var 1), (.lst [(.con (.str ['a']))]), (.var 5)]) (.tup [(.con (.bl false)), (.con (.bl true))])))]

def prog : Prog := ⟨[⟨"is_int", 1, 1, f0_B⟩, ⟨"is_within", 3, 3, f1_B⟩, ⟨"is_tuple", 2, 2, f2_B⟩, ⟨"is_word", 1, 2, f3_B⟩, ⟨"count_leaves", 2, 5, f4_B⟩, ⟨"is_name", 1, 1, f5_B⟩, ⟨"are_steps", 1, 6, f6_B⟩, ⟨"is_row", 1, 4, f7_B⟩, ⟨"table_of", 1, 2, f8_B⟩, ⟨"steps_in", 2, 3, f9_B⟩, ⟨"is_game", 1, 9, f10_B⟩, ⟨"check_game", 1, 1, f11_B⟩, ⟨"is_place", 2, 2, f12_B⟩, ⟨"check_place", 2, 2, f13_B⟩, ⟨"order_from", 2, 9, f14_B⟩, ⟨"moves_to", 2, 6, f15_B⟩, ⟨"are_places", 2, 4, f16_B⟩, ⟨"way_in", 3, 8, f17_B⟩, ⟨"way_to", 3, 4, f18_B⟩, ⟨"_law_cell", 2, 2, f19_B⟩, ⟨"_law_row", 2, 7, f20_B⟩, ⟨"_law_rest", 2, 9, f21_B⟩, ⟨"_law_game", 1, 7, f22_B⟩, ⟨"_law_long", 2, 6, f23_B⟩, ⟨"_law_world", 1, 2, f24_B⟩, ⟨"_law_table", 1, 3, f25_B⟩, ⟨"_law_steps", 1, 1, f26_B⟩, ⟨"_law_same", 2, 4, f27_B⟩, ⟨"_law_found", 2, 7, f28_B⟩, ⟨"_law_moves", 2, 5, f29_B⟩, ⟨"_law_due", 3, 8, f30_B⟩, ⟨"_law_goals", 2, 7, f31_B⟩, ⟨"_law_distance", 3, 9, f32_B⟩, ⟨"_law_leads", 4, 8, f33_B⟩, ⟨"_law_refusal", 3, 4, f34_B⟩, ⟨"law", 1, 9, f35_B⟩], [[0], [1, 0], [2, 0]], [0, 0, 0]⟩
def P : PInf := ⟨⟨prog.defs, [[0], [1, 0], [2, 0]], [0, 0, 0]⟩, [("LETTERS", (.str ['a', 'b', 'c', 'd', 'e', 'f', 'g', 'h', 'i', 'j', 'k', 'l', 'm', 'n', 'o', 'p', 'q', 'r', 's', 't', 'u', 'v', 'w', 'x', 'y', 'z'])), ("DIGITS", (.str ['0', '1', '2', '3', '4', '5', '6', '7', '8', '9'])), ("LONGEST_WORD", (.int 12)), ("DEEPEST_NAME", (.int 4)), ("MOST_PARTS", (.int 6)), ("MOST_LEAVES", (.int 20)), ("GREATEST_PART", (.int 999)), ("MOST_ROWS", (.int 600)), ("MOST_STEPS", (.int 12))], ["len", "int", "str", "tuple", "list", "abs", "isinstance", "range", "zip", "bool"], ["HallError", "BadGame", "BadPlace"], [], ((["is_int", "is_within", "is_tuple", "is_word", "count_leaves", "is_name", "are_steps", "is_row", "table_of", "steps_in", "is_game", "check_game", "is_place", "check_place", "order_from", "moves_to", "are_places", "way_in", "way_to", "_law_cell", "_law_row", "_law_rest", "_law_game", "_law_long", "_law_world", "_law_table", "_law_steps", "_law_same", "_law_found", "_law_moves"] : List Str) ++ (["_law_due", "_law_goals", "_law_distance", "_law_leads", "_law_refusal", "law"] : List Str)), []⟩
end K08
namespace K08
open PySem PySem.Spec PyProof.Rows L2 G
theorem tr0 : DefOk P 0 d0 := ⟨rfl, ⟨rfl, rfl, rfl, by decide +kernel, rfl, by decide +kernel, by decide +kernel⟩, f0_B, _, by kernel_rfl, rfl⟩
theorem tr1 : DefOk P 1 d1 := ⟨rfl, ⟨rfl, rfl, rfl, by decide +kernel, rfl, by decide +kernel, by decide +kernel⟩, f1_B, _, by kernel_rfl, rfl⟩
theorem tr2 : DefOk P 2 d2 := ⟨rfl, ⟨rfl, rfl, rfl, by decide +kernel, rfl, by decide +kernel, by decide +kernel⟩, f2_B, _, by kernel_rfl, rfl⟩
theorem tr3 : DefOk P 3 d3 := ⟨rfl, ⟨rfl, rfl, rfl, by decide +kernel, rfl, by decide +kernel, by decide +kernel⟩, f3_B, _, by kernel_rfl, rfl⟩
theorem tr4 : DefOk P 4 d4 := ⟨rfl, ⟨rfl, rfl, rfl, by decide +kernel, rfl, by decide +kernel, by decide +kernel⟩, f4_B, _, by kernel_rfl, rfl⟩
theorem tr5 : DefOk P 5 d5 := ⟨rfl, ⟨rfl, rfl, rfl, by decide +kernel, rfl, by decide +kernel, by decide +kernel⟩, f5_B, _, by kernel_rfl, rfl⟩
theorem tr6 : DefOk P 6 d6 := ⟨rfl, ⟨rfl, rfl, rfl, by decide +kernel, rfl, by decide +kernel, by decide +kernel⟩, f6_B, _, by kernel_rfl, rfl⟩
theorem tr7 : DefOk P 7 d7 := ⟨rfl, ⟨rfl, rfl, rfl, by decide +kernel, rfl, by decide +kernel, by decide +kernel⟩, f7_B, _, by kernel_rfl, rfl⟩
theorem tr8 : DefOk P 8 d8 := ⟨rfl, ⟨rfl, rfl, rfl, by decide +kernel, rfl, by decide +kernel, by decide +kernel⟩, f8_B, _, by kernel_rfl, rfl⟩
theorem tr9 : DefOk P 9 d9 := ⟨rfl, ⟨rfl, rfl, rfl, by decide +kernel, rfl, by decide +kernel, by decide +kernel⟩, f9_B, _, by kernel_rfl, rfl⟩
theorem tr10 : DefOk P 10 d10 := ⟨rfl, ⟨rfl, rfl, rfl, by decide +kernel, rfl, by decide +kernel, by decide +kernel⟩, f10_B, _, by kernel_rfl, rfl⟩
theorem tr11 : DefOk P 11 d11 := ⟨rfl, ⟨rfl, rfl, rfl, by decide +kernel, rfl, by decide +kernel, by decide +kernel⟩, f11_B, _, by kernel_rfl, rfl⟩
theorem tr12 : DefOk P 12 d12 := ⟨rfl, ⟨rfl, rfl, rfl, by decide +kernel, rfl, by decide +kernel, by decide +kernel⟩, f12_B, _, by kernel_rfl, rfl⟩
theorem tr13 : DefOk P 13 d13 := ⟨rfl, ⟨rfl, rfl, rfl, by decide +kernel, rfl, by decide +kernel, by decide +kernel⟩, f13_B, _, by kernel_rfl, rfl⟩
theorem tr14 : DefOk P 14 d14 := ⟨rfl, ⟨rfl, rfl, rfl, by decide +kernel, rfl, by decide +kernel, by decide +kernel⟩, f14_B, _, by kernel_rfl, rfl⟩
theorem tr15 : DefOk P 15 d15 := ⟨rfl, ⟨rfl, rfl, rfl, by decide +kernel, rfl, by decide +kernel, by decide +kernel⟩, f15_B, _, by kernel_rfl, rfl⟩
theorem tr16 : DefOk P 16 d16 := ⟨rfl, ⟨rfl, rfl, rfl, by decide +kernel, rfl, by decide +kernel, by decide +kernel⟩, f16_B, _, by kernel_rfl, rfl⟩
theorem tr17 : DefOk P 17 d17 := ⟨rfl, ⟨rfl, rfl, rfl, by decide +kernel, rfl, by decide +kernel, by decide +kernel⟩, f17_B, _, by kernel_rfl, rfl⟩
theorem tr18 : DefOk P 18 d18 := ⟨rfl, ⟨rfl, rfl, rfl, by decide +kernel, rfl, by decide +kernel, by decide +kernel⟩, f18_B, _, by kernel_rfl, rfl⟩
theorem tr19 : DefOk P 19 d19 := ⟨rfl, ⟨rfl, rfl, rfl, by decide +kernel, rfl, by decide +kernel, by decide +kernel⟩, f19_B, _, by kernel_rfl, rfl⟩
theorem tr20 : DefOk P 20 d20 := ⟨rfl, ⟨rfl, rfl, rfl, by decide +kernel, rfl, by decide +kernel, by decide +kernel⟩, f20_B, _, by kernel_rfl, rfl⟩
theorem tr21 : DefOk P 21 d21 := ⟨rfl, ⟨rfl, rfl, rfl, by decide +kernel, rfl, by decide +kernel, by decide +kernel⟩, f21_B, _, by kernel_rfl, rfl⟩
theorem tr22 : DefOk P 22 d22 := ⟨rfl, ⟨rfl, rfl, rfl, by decide +kernel, rfl, by decide +kernel, by decide +kernel⟩, f22_B, _, by kernel_rfl, rfl⟩
theorem tr23 : DefOk P 23 d23 := ⟨rfl, ⟨rfl, rfl, rfl, by decide +kernel, rfl, by decide +kernel, by decide +kernel⟩, f23_B, _, by kernel_rfl, rfl⟩
theorem tr24 : DefOk P 24 d24 := ⟨rfl, ⟨rfl, rfl, rfl, by decide +kernel, rfl, by decide +kernel, by decide +kernel⟩, f24_B, _, by kernel_rfl, rfl⟩
theorem tr25 : DefOk P 25 d25 := ⟨rfl, ⟨rfl, rfl, rfl, by decide +kernel, rfl, by decide +kernel, by decide +kernel⟩, f25_B, _, by kernel_rfl, rfl⟩
theorem tr26 : DefOk P 26 d26 := ⟨rfl, ⟨rfl, rfl, rfl, by decide +kernel, rfl, by decide +kernel, by decide +kernel⟩, f26_B, _, by kernel_rfl, rfl⟩
theorem tr27 : DefOk P 27 d27 := ⟨rfl, ⟨rfl, rfl, rfl, by decide +kernel, rfl, by decide +kernel, by decide +kernel⟩, f27_B, _, by kernel_rfl, rfl⟩
theorem tr28 : DefOk P 28 d28 := ⟨rfl, ⟨rfl, rfl, rfl, by decide +kernel, rfl, by decide +kernel, by decide +kernel⟩, f28_B, _, by kernel_rfl, rfl⟩
theorem tr29 : DefOk P 29 d29 := ⟨rfl, ⟨rfl, rfl, rfl, by decide +kernel, rfl, by decide +kernel, by decide +kernel⟩, f29_B, _, by kernel_rfl, rfl⟩
theorem tr30 : DefOk P 30 d30 := ⟨rfl, ⟨rfl, rfl, rfl, by decide +kernel, rfl, by decide +kernel, by decide +kernel⟩, f30_B, _, by kernel_rfl, rfl⟩
theorem tr31 : DefOk P 31 d31 := ⟨rfl, ⟨rfl, rfl, rfl, by decide +kernel, rfl, by decide +kernel, by decide +kernel⟩, f31_B, _, by kernel_rfl, rfl⟩
theorem tr32 : DefOk P 32 d32 := ⟨rfl, ⟨rfl, rfl, rfl, by decide +kernel, rfl, by decide +kernel, by decide +kernel⟩, f32_B, _, by kernel_rfl, rfl⟩
theorem tr33 : DefOk P 33 d33 := ⟨rfl, ⟨rfl, rfl, rfl, by decide +kernel, rfl, by decide +kernel, by decide +kernel⟩, f33_B, _, by kernel_rfl, rfl⟩
theorem tr34 : DefOk P 34 d34 := ⟨rfl, ⟨rfl, rfl, rfl, by decide +kernel, rfl, by decide +kernel, by decide +kernel⟩, f34_B, _, by kernel_rfl, rfl⟩
theorem tr35 : DefOk P 35 d35 := ⟨rfl, ⟨rfl, rfl, rfl, by decide +kernel, rfl, by decide +kernel, by decide +kernel⟩, f35_B, _, by kernel_rfl, rfl⟩
theorem trA : AllIx (DefOk P) 0 D := ⟨tr0, tr1, tr2, tr3, tr4, tr5, tr6, tr7, tr8, tr9, tr10, tr11, tr12, tr13, tr14, tr15, tr16, tr17, tr18, tr19, tr20, tr21, tr22, tr23, tr24, tr25, tr26, tr27, tr28, tr29, tr30, tr31, tr32, tr33, tr34, tr35, trivial⟩
end K08
namespace K08
open G
theorem is_int (n : Nat) (v : PV) : P.prog.call 1000000 (n + 1) 0 [v] = .ok (.bl (intB v)) := ck_int_ok (x := "is_int") rfl v
theorem is_within (n : Nat) (v : PV) (lo hi : Int) : P.prog.call 1000000 (n + 2) 1 [v, .int lo, .int hi] = .ok (.bl (withinB v lo hi)) := ck_within_ok (x := "is_within") (y := "is_int") (i := 0) rfl rfl v lo hi
theorem is_tuple (n : Nat) (v : PV) (k : Int) : P.prog.call 1000000 (n + 1) 2 [v, .int k] = .ok (.bl (tupB v k)) := ck_tuple_ok (x := "is_tuple") rfl v k
theorem is_name (n : Nat) (v : PV) (hv : VB v) : P.prog.call 1000000 (n + 7) 5 [v] = .ok (.bl (nameB v)) := ck_name_okV (x := "is_name") (y := "count_leaves") (z := "is_int") (u := "is_word") (i := 0) (j := 4) (k := 3) rfl rfl rfl rfl n v hv
theorem cks (n : Nat) : Cks P.prog 1000000 (n + 7) 2 5 1 := ⟨fun v k => is_tuple (n + 6) v k, fun v hv => is_name n v hv, fun v lo hi => is_within (n + 5) v lo hi⟩
theorem is_row (n : Nat) (v : PV) (hv : VB v) : P.prog.call 1000000 (n + 9) 7 [v] = .ok (.bl (rowB v)) := kr_ok (x := "is_row") (y := "are_steps") (st := 6) rfl rfl (cks n) (cks (n + 1)) v hv
theorem is_game (n : Nat) (v : PV) (hv : VB v) : P.prog.call 1000000 (n + 10) 10 [v] = .ok (.bl (gameB v)) := kg_ok (n := n + 8) (x := "is_game") (y := "steps_in") (si := 9) (rw' := 7) rfl rfl (fun v hv => is_row n v hv) (cks (n + 2)) v hv
theorem hn1 : P.prog.nf[1]? = some 0 := rfl
theorem hn2 : P.prog.nf[2]? = some 0 := rfl
def exG : R PV := .ex ⟨1, []⟩
def exP : R PV := .ex ⟨2, []⟩
theorem check (n : Nat) (v : PV) (hv : VB v) : P.prog.call 1000000 (n + 11) 11 [v] = if gameB v then .ok .non else exG := by
  rw [call_at (d := ⟨"check_game", 1, 1, f11_B⟩) rfl rfl]
  have h := is_game n v hv
  have hn := hn1
  cases q : gameB v <;> rw [q] at h <;> simp [f11_B, h, hn, exG]
def GG (st : PV) (rows : List PV) : PV := .tup [.str gameS, st, .tup rows]
theorem place (n : Nat) (rows : List PV) (p : PV) (hp : VB p) : P.prog.call 1000000 (n + 9) 13 [.dct (tb rows), p] = if placeB rows p then .ok .non else exP := by
  have h3 := ip_ok (w := 1000000) (n := n + 7) (P := P.prog) (f := 12) (nm := 5) (x := "is_place") rfl (fun v hv => is_name n v hv) rows p hp
  exact cp_ok (w := 1000000) (n := n + 8) (P := P.prog) (f := 13) (ip := 12) (k := 2) (x := "check_place") rfl hn2 h3
section
variable (n : Nat) {st : PV} {rows : List PV} (W : WG st rows)
include W
theorem chk : P.prog.call 1000000 (n + 11) 11 [GG st rows] = .ok .non := by
  rw [check n (GG st rows) W.vb.1, show gameB (GG st rows) = true from W.game, if_pos rfl]
theorem pvb {p : PV} (hp : p ∈ pls rows) : VB p := by
  have := W.pz p hp
  exact ⟨by omega, by omega⟩
theorem wayto {p : PV} (hp : p ∈ pls rows) {goals : List PV} (hg : ∀ x ∈ goals, x ∈ pls rows) (nd : goals.Nodup) (hv : VB (.tup goals)) : P.prog.call 1000000 (n + 12) 18 [GG st rows, p, .tup goals] = .ok (wayV rows p goals) := by
  rw [call_at (d := ⟨"way_to", 3, 4, f18_B⟩) rfl rfl]
  have h1 := chk n W
  have h3 := to_ok (w := 1000000) (n := n + 10) (P := P.prog) (f := 8) (x := "table_of") rfl W.game
  have u : PV.tup [.str gameS, st, .tup rows] = GG st rows := rfl
  rw [u] at h3
  have h2 := place (n + 2) rows p (pvb W hp)
  rw [(placeB_mem W.R).mpr hp, if_pos rfl] at h2
  have h4 := ap_ok (w := 1000000) (n := n + 10) (P := P.prog) (f := 16) (ip := 12) (x := "are_places") rfl (rows := rows) (fun v hv => ip_ok (n := n + 9) (nm := 5) (x := "is_place") rfl (fun v hv => is_name (n + 2) v hv) rows v hv) (.tup goals) hv
  have e : apB rows (.tup goals) = true := (aps_iff W.R goals [] (fun _ h => nomatch h) .nil).mpr ⟨hg, by simpa using nd⟩
  rw [e] at h4
  have h5 := wi_ok (w := 1000000) (n := n + 8) (P := P.prog) (f := 17) (of := 14) (si := 9) (mt := 15) (x := "way_in") (y := "order_from") (z := "steps_in") (u := "moves_to") rfl rfl rfl rfl (by decide) W.R hp hg nd
  generalize GG st rows = A at *
  generalize wayV rows p goals = V at *
  generalize PV.dct (tb rows) = D at *
  simp [f18_B, h1, h3, h2, h4, h5]
theorem way_no {p : PV} (hp : placeB rows p = false) (hv : VB p) (g : PV) : P.prog.call 1000000 (n + 12) 18 [GG st rows, p, g] = exP := by
  rw [call_at (d := ⟨"way_to", 3, 4, f18_B⟩) rfl rfl]
  have h1 := chk n W
  have h3 := to_ok (w := 1000000) (n := n + 10) (P := P.prog) (f := 8) (x := "table_of") rfl W.game
  have h2 := place (n + 2) rows p hv
  rw [hp, if_neg (by simp)] at h2
  have u : PV.tup [.str gameS, st, .tup rows] = GG st rows := rfl
  rw [u] at h3
  generalize GG st rows = A at *
  generalize PV.dct (tb rows) = D at *
  simp [f18_B, h1, h3, h2, exP]
theorem way_bad {p : PV} (hp : p ∈ pls rows) {g : PV} (hg : VB g) (hb : apB rows g = false) : P.prog.call 1000000 (n + 12) 18 [GG st rows, p, g] = exP := by
  rw [call_at (d := ⟨"way_to", 3, 4, f18_B⟩) rfl rfl]
  have h1 := chk n W
  have h3 := to_ok (w := 1000000) (n := n + 10) (P := P.prog) (f := 8) (x := "table_of") rfl W.game
  have u : PV.tup [.str gameS, st, .tup rows] = GG st rows := rfl
  rw [u] at h3
  have h2 := place (n + 2) rows p (pvb W hp)
  rw [(placeB_mem W.R).mpr hp, if_pos rfl] at h2
  have h4 := ap_ok (w := 1000000) (n := n + 10) (P := P.prog) (f := 16) (ip := 12) (x := "are_places") rfl (rows := rows) (fun v hv => ip_ok (n := n + 9) (nm := 5) (x := "is_place") rfl (fun v hv => is_name (n + 2) v hv) rows v hv) g hg
  rw [hb] at h4
  have hn := hn2
  generalize GG st rows = A at *
  generalize PV.dct (tb rows) = D at *
  simp [f18_B, h1, h3, h2, h4, hn, exP]
theorem table : P.prog.call 1000000 (n + 1) 25 [GG st rows] = .ok (.dct (tb rows)) := lt_ok (x := "_law_table") rfl W.R _ _
theorem due {p : PV} (hp : p ∈ pls rows) {goals : List PV} (hg : ∀ x ∈ goals, x ∈ pls rows) (nd : goals.Nodup) : P.prog.call 1000000 (n + 3) 30 [.dct (tb rows), p, .tup goals] = .ok (wayV rows p goals) :=
  lu_ok (x := "_law_due") (y := "_law_found") (z := "_law_steps") (u := "_law_moves") (lf := 28) (lm := 29) (st := 26) rfl rfl rfl rfl W.R hp hg nd
theorem leads {p y : PV} {ms goals : List PV} (hf : FP rows p ms y) (hy : VB y) (hg : VB (.tup goals)) : P.prog.call 1000000 (n + 2) 33 [.dct (tb rows), p, .tup ms, .tup goals] = .ok (.bl (hasP goals y)) :=
  le_ok (x := "_law_leads") (z := "_law_steps") (st := 26) rfl rfl W.R hf hy hg
theorem distance {p : PV} (hp : p ∈ pls rows) {goals : List PV} (hg : ∀ x ∈ goals, x ∈ pls rows) : P.prog.call 1000000 (n + 2) 32 [.dct (tb rows), p, .tup goals] = .ok (distV rows p goals) :=
  di_ok (x := "_law_distance") (z := "_law_steps") (st := 26) rfl rfl W.R hp hg
end
theorem same (d n : Nat) (v : PV) (hd : dep v ≤ d) (ht : tupy v = true) (hv : VB v) : P.prog.call 1000000 (n + d + 1) 27 [v, v] = .ok (.bl true) := zs_refl (x := "_law_same") rfl d n v hd ht hv
theorem way_ex (n : Nat) {v : PV} (hv : VB v) (h : gameB v = false) (p g : PV) : P.prog.call 1000000 (n + 12) 18 [v, p, g] = exG := by
  rw [call_at (d := ⟨"way_to", 3, 4, f18_B⟩) rfl rfl]
  have h1 := check n v hv
  rw [h] at h1
  simp [f18_B, h1, exG]
theorem hc1 : P.prog.anc[1]? = some [1, 0] := rfl
theorem hc2 : P.prog.anc[2]? = some [2, 0] := rfl
theorem refusal (n : Nat) {v p g : PV} (k : Nat) (hk : k = 1 ∨ k = 2) (h : P.prog.call 1000000 (n + 12) 18 [v, p, g] = .ex ⟨k, []⟩) : P.prog.call 1000000 (n + 13) 34 [v, p, g] = .ok (.tup [.bl (decide (k = 1)), .bl (decide (k = 2))]) := by
  rw [call_at (d := ⟨"_law_refusal", 3, 4, f34_B⟩) rfl rfl]
  have c1 := hc1
  have c2 := hc2
  rcases hk with rfl | rfl
  · simp -implicitDefEqProofs [f34_B, h, c1, isExn]
  · simp -implicitDefEqProofs [f34_B, h, c2, isExn]
theorem world (n : Nat) (ns : List Int) : ∃ st rows, P.prog.call 1000000 (n + 3) 24 [.lst (il ns)] = .ok (GG st rows) ∧ WG st rows :=
  lw_ok (x := "_law_world") (a := "_law_cell") (b := "_law_row") (c := "_law_game") (d := "_law_rest") (e := "_law_long") (lc := 19) (lr := 20) (ls := 21) (lg := 22) (ll := 23) rfl rfl rfl rfl rfl rfl ns
/-! the goals -/
theorem goals (n : Nat) {st : PV} {rows : List PV} (W : WG st rows) (ds : List Int) (hd : ds.length = 12) (hr : inR 1000 ds) : ∃ gs, P.prog.call 1000000 (n + 1) 31 [GG st rows, .lst (il ds)] = .ok (.tup gs) ∧ (∀ x ∈ gs, x ∈ pls rows) ∧ gs.Nodup := by
  rw [call_at (d := ⟨"_law_goals", 2, 7, f31_B⟩) rfl rfl]
  obtain ⟨x0, i0, -, -, -⟩ := il_at hr (i := 0) (by omega) (by omega)
  obtain ⟨x9, i9, -, -, -⟩ := il_at hr (i := 9) (by omega) (by omega)
  obtain ⟨x10, i10, -, -, -⟩ := il_at hr (i := 10) (by omega) (by omega)
  have hn := W.R.n
  have hpl : (pls rows).length = rows.length := by simp [pls]
  have L0 : lcL (asg (.one 3)) (tstQ (P.prog.call 1000000 n) P.prog.anc none) (eltF (P.prog.call 1000000 n) P.prog.anc (.sub (.var 3) (.con (.int 0)))) [.sh (GG st rows), .sh (.lst (il ds)), .un, .un, .un, .un, .un] rows = .ok (pls rows) :=
    lcL_map fun r hr => by
      obtain ⟨p, s, t, rfl, -⟩ := rowB_form (W.R.rb r hr)
      exact ⟨[.sh (GG st rows), .sh (.lst (il ds)), .un, .sh (.tup [p, s, t]), .un, .un, .un], by simp, rfl, by simp [eltF, ixAt, plP, ofO]⟩
  obtain ⟨sh, es, hsh⟩ : ∃ sh : Int, 2 + 6 * (x0 % 2) = sh ∧ 0 < sh := ⟨_, rfl, by omega⟩
  have ms : mulOk 6 (x0 % 2) = true := mul_l (by decide)
  have L1 := lcL_flt (asn := asg (.one 6)) (tst := tstQ (P.prog.call 1000000 n) P.prog.anc (some (.cmp .eq (.bin .mod (.bi .int [(.bin .fdiv (.sub (.var 1) (.bin .add (.con (.int 1)) (.bin .mod (.var 6) (.con (.int 8))))) (.bin .add (.con (.int 1)) (.bin .fdiv (.var 6) (.con (.int 8)))))]) (.var 4)) (.con (.int 0)))))
    (elt := eltF (P.prog.call 1000000 n) P.prog.anc (.sub (.var 2) (.var 6))) (env := [.sh (GG st rows), .sh (.lst (il ds)), .sh (.lst (pls rows)), .un, .sh (.int sh), .un, .un])
    (f := fun k : Nat => PV.int (k : Int)) (g := fun k : Nat => ((pls rows)[k]?).getD .non) (good := fun k : Nat => decide (((ds[(1 + (k : Int) % 8).toNat]?).getD 0 / (1 + (k : Int) / 8)) % sh = 0)) (l := List.range (pls rows).length) (fun k hk => by
      have hk := List.mem_range.mp hk
      obtain ⟨d, j0, j1, -⟩ := il_at hr (i := 1 + (k : Int) % 8) (by omega) (by omega)
      have hpos : (0 : Int) < 1 + (k : Int) / 8 := by omega
      have hsm : 1 + (k : Int) / 8 < 1073741824 := by omega
      have hx : ixAt (pls rows) (k : Int) = some (((pls rows)[k]?).getD .non) := by rw [ixAt_nat, List.getElem?_eq_getElem hk]; rfl
      have hxq : (pls rows)[k]? = some (((pls rows)[k]?).getD .non) := by rw [List.getElem?_eq_getElem hk]; rfl
      refine ⟨[.sh (GG st rows), .sh (.lst (il ds)), .sh (.lst (pls rows)), .un, .sh (.int sh), .un, .sh (.int (k : Int))], by simp, ?_, fun _ => ?_⟩
      · rw [j1]
        generalize GG st rows = A at *
        generalize pls rows = B at *
        simp -implicitDefEqProofs [tstQ, j0, hpos, hsm, hsh, oeq, ofO]
      · generalize GG st rows = A at *
        generalize ((pls rows)[k]?).getD .non = X at *
        generalize pls rows = B at *
        simp -implicitDefEqProofs [eltF, hx, hxq, ofO])
  rw [← range1_nat] at L1
  obtain ⟨gs, hgs⟩ : ∃ gs, gs = ((List.range (pls rows).length).filter fun k : Nat => decide (((ds[(1 + (k : Int) % 8).toNat]?).getD 0 / (1 + (k : Int) / 8)) % sh = 0)).map fun k : Nat => ((pls rows)[k]?).getD .non := ⟨_, rfl⟩
  rw [← hgs] at L1
  have hin : ∀ x ∈ gs, x ∈ pls rows := fun x hx => by
    rw [hgs] at hx
    obtain ⟨k, hk, rfl⟩ := List.mem_map.mp hx
    have hk := List.mem_range.mp (List.mem_filter.mp hk).1
    rw [List.getElem?_eq_getElem hk]
    exact List.getElem_mem hk
  have hnd : gs.Nodup := by
    have pn : (pls rows).Nodup := dist_nodup W.R.nm W.R.di
    have rn : ((List.range (pls rows).length).filter fun k : Nat => decide (((ds[(1 + (k : Int) % 8).toNat]?).getD 0 / (1 + (k : Int) / 8)) % sh = 0)).Nodup := List.Pairwise.filter _ List.nodup_range
    rw [hgs]
    refine List.pairwise_map.mpr (List.Pairwise.imp_of_mem ?_ rn)
    intro a b ha hb hab he
    have ha := List.mem_range.mp (List.mem_filter.mp ha).1
    have hb := List.mem_range.mp (List.mem_filter.mp hb).1
    rw [List.getElem?_eq_getElem ha, List.getElem?_eq_getElem hb] at he
    have pg := List.pairwise_iff_getElem.mp pn
    have he : (pls rows)[a] = (pls rows)[b] := he
    rcases Nat.lt_trichotomy a b with z | z | z
    · exact pg a b ha hb z he
    · exact hab z
    · exact pg b a hb ha z he.symm
  have gl := nodup_le hnd hin
  have hlm : (pls rows).length < lineMax := by rw [hpl]; unfold lineMax; omega
  have hgm : gs.length < lineMax := by unfold lineMax; omega
  have hgm2 : gs.length ≤ lineMax := by omega
  have rm : rngOk ((pls rows).length : Int) = true := by simp [rngOk]; omega
  have g2 : pvSub (GG st rows) (.int 2) = .ok (.tup rows) := rfl
  clear hgs hn hpl W gl
  by_cases q1 : x9 % 8 = 3
  · refine ⟨[], ?_, (fun _ h => nomatch h), List.nodup_nil⟩
    by_cases q2 : x10 % 2 = 1
    · generalize GG st rows = A at *
      generalize pls rows = B at *
      simp -implicitDefEqProofs [f31_B, g2, L0, hlm, i0, ms, es, rm, L1, hgm, i9, q1, oeq, i10, q2]
    · generalize GG st rows = A at *
      generalize pls rows = B at *
      simp -implicitDefEqProofs [f31_B, g2, L0, hlm, i0, ms, es, rm, L1, hgm, i9, q1, oeq, i10, q2]
  · by_cases q2 : x10 % 2 = 1
    · refine ⟨gs.reverse, ?_, fun x hx => hin x (by simpa using hx), List.pairwise_reverse.mpr (List.Pairwise.imp (fun h => Ne.symm h) hnd)⟩
      clear hin
      generalize GG st rows = A at *
      generalize pls rows = B at *
      simp -implicitDefEqProofs [f31_B, g2, L0, hlm, i0, ms, es, rm, L1, hgm, i9, q1, oeq, i10, q2, hgm2]
    · refine ⟨gs, ?_, hin, hnd⟩
      clear hin
      generalize GG st rows = A at *
      generalize pls rows = B at *
      simp -implicitDefEqProofs [f31_B, g2, L0, hlm, i0, ms, es, rm, L1, hgm, i9, q1, oeq, i10, q2, hgm2]
end K08
namespace K08
open G
def lw1 : List S := [.set (.one 1) (.call 24 [(.var 0)]),
    .set (.one 2) (.call 25 [(.var 1)]),
    .set (.one 3) (.call 20 [(.call 19 [(.var 0), (.con (.int 1))]), (.con (.int 12))]),
    .set (.one 4) (.sub (.sub (.sub (.var 1) (.con (.int 2))) (.bin .mod (.sub (.var 3) (.con (.int 11))) (.bi .len [(.sub (.var 1) (.con (.int 2)))]))) (.con (.int 0))),
    .set (.one 5) (.call 31 [(.var 1), (.var 3)]),
    .set (.one 6) (.call 18 [(.var 1), (.var 4), (.var 5)])]
def lw2 : List S := [.ite (.not (.call 27 [(.var 6), (.call 30 [(.var 2), (.var 4), (.var 5)])])) [.ret (.con (.bl false))] [],
    .ite (.and (.cmp .eq (.sub (.var 6) (.con (.int 0))) (.con (.str ['w', 'a', 'y']))) (.not (.call 33 [(.var 2), (.var 4), (.sub (.var 6) (.con (.int 1))), (.var 5)]))) [.ret (.con (.bl false))] []]
def lw3 : List S := [.ite (.cmp .le (.bi .len [(.var 2)]) (.con (.int 40))) [.set (.one 7) (.call 32 [(.var 2), (.var 4), (.var 5)]),
    .ite (.and (.cmp .eq (.sub (.var 6) (.con (.int 0))) (.con (.str ['w', 'a', 'y']))) (.cmp .ne (.bi .len [(.sub (.var 6) (.con (.int 1)))]) (.var 7))) [.ret (.con (.bl false))] [],
    .ite (.and (.cmp .eq (.sub (.var 6) (.con (.int 0))) (.con (.str ['c', 'l', 'o', 's', 'e', 'd']))) (.cmp .isn (.var 7) (.con .non))) [.ret (.con (.bl false))] []] []]
def lw4 : List S := [.ite (.not (.call 27 [(.call 18 [(.var 1), (.var 4), (.tup [(.var 4)])]), (.tup [(.con (.str ['w', 'a', 'y'])), (.tup [])])])) [.ret (.con (.bl false))] []]
def lw5 : List S := [.loop (.one 8) (.seq (.lst [(.bi .list [(.var 5)]), (.tup [(.var 4), (.var 4)]), (.tup [(.con (.str ['q', '0']))]), (.tup [(.var 4), (.tup [(.con (.str ['a'])), (.con (.bl true))])]), (.con .non), (.con (.str ['a']))])) f35_b0,
    .ret (.and (.cmp .eq (.call 34 [(.var 1), (.con (.str ['q', '0'])), (.var 5)]) (.tup [(.con (.bl false)), (.con (.bl true))])) (.cmp .eq (.call 34 [(.var 1), (.lst [(.con (.str ['a']))]), (.var 5)]) (.tup [(.con (.bl false)), (.con (.bl true))])))]

section
variable {st : PV} {rows : List PV} (W : WG st rows)
include W
theorem mv_ok {x y : PV} {ms : List PV} (h : FP rows x ms y) : ∀ m ∈ ms, nameB m = true ∧ meas m ≤ 60 ∧ dep m ≤ 6 := by
  induction h with
  | nil x => exact fun m h => nomatch h
  | @cons x m a ev y ms hx hst hr ih =>
    intro z hz
    rcases List.mem_cons.mp hz with rfl | hz
    · obtain ⟨a1, a2, a3⟩ := W.R.at hx
      have rb := W.R.rb _ a2
      have sz := W.sz _ a2
      have hnm : nameB z = true := by
        obtain ⟨m', a', e', q, g1, -⟩ := stB_form (sts_st rb _ hst)
        simp only [PV.tup.injEq, List.cons.injEq] at q
        rw [q.1]; exact g1
      refine ⟨hnm, ?_⟩
      obtain ⟨p, s, t, e, h1, h2, h3⟩ := rowB_form rb
      rw [e] at hst sz
      simp only [stsP] at hst
      split at hst
      · cases hst
      · rename_i q
        rw [if_neg q] at h3
        obtain ⟨l, rfl⟩ := stepsB_form h3
        have hst : PV.tup [z, a, ev] ∈ l := hst
        have m1 := measL_mem hst
        have d1 := depL_mem hst
        rw [meas_tup, measL_cons, measL_cons, measL_cons, measL_nil, meas_tup l] at sz
        rw [dep_tup, depL_cons, depL_cons, depL_cons, depL_nil, dep_tup l] at sz
        rw [meas_tup, measL_cons] at m1
        rw [dep_tup, depL_cons] at d1
        omega
    · exact ih z hz
theorem way_shape {p : PV} (hp : p ∈ pls rows) {gs : List PV} (hg : ∀ x ∈ gs, x ∈ pls rows) :
    (∃ x ms, wayV rows p gs = .tup [.str wayS, .tup ms] ∧ FP rows p ms x ∧ x ∈ gs ∧ ms.length ≤ 1000 ∧ distV rows p gs = .int (ms.length : Int)) ∨
    (wayV rows p gs = .tup [.str closedS, .tup (orderL rows p)] ∧ distV rows p gs = .non) := by
  unfold wayV distV
  cases q : (orderL rows p).find? fun x => hasK gs x with
  | none => exact .inr ⟨rfl, rfl⟩
  | some x =>
    have hx := List.mem_of_find?_eq_some q
    have hgx : hasK gs x = true := List.find?_some q
    have hxp := order_mem W.R hp x hx
    have hxg := (hasK_iff (fun y hy => W.R.nm y (hg y hy)) (W.R.nm x hxp)).mp hgx
    obtain ⟨e, he, rfl⟩ := List.mem_map.mp hx
    obtain ⟨j, hj⟩ := List.getElem?_of_mem he
    have hf := mv_FP W.R hp rows.length hj
    have hl := mv_len W.R hp rows.length hj
    have hjl := (List.getElem?_eq_some_iff.mp hj).1
    have ho := order_len W.R hp
    have hn := W.R.n
    have u : gF rows p rows.length = foundF rows p := rfl
    rw [u] at hf hl
    simp only [orderL, ks, List.length_map] at ho
    refine .inl ⟨e.1, (mvL (foundF rows p) e.1).reverse, rfl, hf, hxg, by rw [List.length_reverse]; omega, by rw [List.length_reverse]⟩
theorem tup_vb {l : List PV} (hl : l.length ≤ 1000) (h : ∀ x ∈ l, nameB x = true ∧ meas x ≤ 60 ∧ dep x ≤ 6) : tupy (.tup l) = true ∧ meas (.tup l) ≤ 70000 ∧ dep (.tup l) ≤ 7 := by
  have m := measL_le (k := 60) fun x hx => (h x hx).2.1
  have d := depL_le (k := 6) fun x hx => (h x hx).2.2
  refine ⟨by rw [tupy_tup, tupyL_iff]; exact fun x hx => nameB_tupy (h x hx).1, by rw [meas_tup]; omega, by rw [dep_tup]; omega⟩
theorem pls_ok {l : List PV} (h : ∀ x ∈ l, x ∈ pls rows) : ∀ x ∈ l, nameB x = true ∧ meas x ≤ 60 ∧ dep x ≤ 6 := fun x hx => ⟨W.R.nm x (h x hx), (W.pz x (h x hx)).1, (W.pz x (h x hx)).2⟩
theorem pair_vb {s : List Char} (hs : meas (.str s) = 1) {l : List PV} (hl : l.length ≤ 1000) (h : ∀ x ∈ l, nameB x = true ∧ meas x ≤ 60 ∧ dep x ≤ 6) : P.prog.call 1000000 29 27 [.tup [.str s, .tup l], .tup [.str s, .tup l]] = .ok (.bl true) := by
  obtain ⟨a, b, c⟩ := tup_vb W hl h
  have e1 : dep (.tup [.str s, .tup l]) ≤ 10 := by rw [dep_tup, depL_cons, depL_cons, depL_nil, dep_str]; omega
  have e2 : meas (.tup [.str s, .tup l]) ≤ 80000 := by rw [meas_tup, measL_cons, measL_cons, measL_nil, hs]; omega
  refine same 10 18 _ e1 ?_ ⟨by omega, by omega⟩
  rw [tupy_tup] at a
  simp [a]
theorem gs_vb {gs : List PV} (hg : ∀ x ∈ gs, x ∈ pls rows) (nd : gs.Nodup) : VB (.tup gs) ∧ VB (.lst gs) ∧ gs.length ≤ 1000 := by
  have gl := nodup_le nd hg
  have hn := W.R.n
  simp only [pls, List.length_map] at gl
  obtain ⟨a, b, c⟩ := tup_vb W (by omega) (pls_ok W hg)
  refine ⟨⟨by omega, by omega⟩, ?_, by omega⟩
  rw [meas_tup] at b
  rw [dep_tup] at c
  exact ⟨by simp; omega, by simp; omega⟩
end
theorem part1 (ns : List Int) : ∃ (st p s3 : PV) (rows gs : List PV), WG st rows ∧ p ∈ pls rows ∧ (∀ x ∈ gs, x ∈ pls rows) ∧ gs.Nodup ∧
    denSs P.prog.anc P.prog.nf 1000000 (P.prog.call 1000000 29) lw1 [.sh (.lst (il ns)), .un, .un, .un, .un, .un, .un, .un, .un] =
      .nx [.sh (.lst (il ns)), .sh (GG st rows), .sh (.dct (tb rows)), .sh s3, .sh p, .sh (.tup gs), .sh (wayV rows p gs), .un, .un] := by
  obtain ⟨st, rows, h1, W⟩ := world 26 ns
  have h2 := table 28 W
  obtain ⟨c1, h3⟩ := lc_ok (P := P.prog) (w := 1000000) (n := 28) (f := 19) (x := "_law_cell") rfl ns 1
  obtain ⟨d1, h4, hd1, hr1⟩ := lr_ok (P := P.prog) (w := 1000000) (n := 28) (f := 20) (x := "_law_row") rfl c1 12 (by decide)
  obtain ⟨y, i0, -, y0, y1⟩ := il_at hr1 (i := 11) (by omega) (by omega)
  obtain ⟨gs, h5, hg, nd⟩ := goals 28 W d1 hd1 hr1
  simp only [Int.cast_ofNat_Int] at h3 h4
  obtain ⟨-, n1, -⟩ := gameB_all W.game
  obtain ⟨i, hi, ei⟩ := mod_nat y rows.length (by omega)
  have hx : ixAt rows (i : Int) = some rows[i] := by rw [ixAt_nat, List.getElem?_eq_getElem hi]
  have hxq : rows[i]? = some rows[i] := List.getElem?_eq_getElem hi
  have hp : plP rows[i] ∈ pls rows := List.mem_map_of_mem (List.getElem_mem hi)
  have h6 := wayto 17 W hp hg nd (gs_vb W hg nd).1
  obtain ⟨a, s, t, hrow, -⟩ := rowB_form (W.R.rb _ (List.getElem_mem hi))
  have x0 : pvSub rows[i] (.int 0) = .ok (plP rows[i]) := by rw [hrow]; rfl
  refine ⟨st, plP rows[i], .lst (il d1), rows, gs, W, hp, hg, nd, ?_⟩
  have g2 : pvSub (GG st rows) (.int 2) = .ok (.tup rows) := rfl
  have hpos : (0 : Int) < (rows.length : Int) := by omega
  have hpn : 0 < rows.length := by omega
  have hne : ¬ rows = [] := fun z => by rw [z] at hpn; simp at hpn
  clear hrow W n1
  generalize wayV rows (plP rows[i]) gs = V at *
  generalize plP rows[i] = B at *
  generalize rows[i] = C at *
  generalize GG st rows = A at *
  generalize PV.dct (tb rows) = D at *
  simp -implicitDefEqProofs [lw1, h1, h2, h3, h4, h5, h6, g2, i0, ei, hpos, hpn, hne, hx, hxq, x0, ofO]
section
variable {st p s3 : PV} {rows gs : List PV} (W : WG st rows) (hp : p ∈ pls rows) (hg : ∀ x ∈ gs, x ∈ pls rows) (nd : gs.Nodup)
include W hp hg nd
theorem part2 (s0 : Slot) : denSs P.prog.anc P.prog.nf 1000000 (P.prog.call 1000000 29) lw2 [s0, .sh (GG st rows), .sh (.dct (tb rows)), .sh s3, .sh p, .sh (.tup gs), .sh (wayV rows p gs), .un, .un] =
    .nx [s0, .sh (GG st rows), .sh (.dct (tb rows)), .sh s3, .sh p, .sh (.tup gs), .sh (wayV rows p gs), .un, .un] := by
  have h1 := due 26 W hp hg nd
  rcases way_shape W hp hg with ⟨x, ms, e, hf, hx, hl, -⟩ | ⟨e, -⟩
  · have h2 := pair_vb W (s := wayS) (by decide +kernel) hl (mv_ok W hf)
    have h3 := leads 27 W hf (pvb W (hg x hx)) (gs_vb W hg nd).1
    have hh : hasP gs x = true := hasK_mem hx (nameB_nod (W.R.nm x (hg x hx)))
    rw [hh] at h3
    rw [e] at h1 ⊢
    simp only [wayS] at *
    generalize GG st rows = A at *
    generalize PV.dct (tb rows) = D at *
    simp -implicitDefEqProofs [lw2, h1, h2, h3, oes, ixAt, ofO]
  · have h2 := pair_vb W (s := closedS) (by decide +kernel) (by have := order_len W.R hp; have := W.R.n; omega) (pls_ok W (order_mem W.R hp))
    rw [e] at h1 ⊢
    simp only [closedS] at *
    generalize GG st rows = A at *
    generalize PV.dct (tb rows) = D at *
    simp -implicitDefEqProofs [lw2, h1, h2, oes, ixAt, ofO]
theorem part3 (s0 : Slot) : ∃ s7, denSs P.prog.anc P.prog.nf 1000000 (P.prog.call 1000000 29) lw3 [s0, .sh (GG st rows), .sh (.dct (tb rows)), .sh s3, .sh p, .sh (.tup gs), .sh (wayV rows p gs), .un, .un] =
    .nx [s0, .sh (GG st rows), .sh (.dct (tb rows)), .sh s3, .sh p, .sh (.tup gs), .sh (wayV rows p gs), s7, .un] := by
  have h1 := distance 27 W hp hg
  have hn := W.R.n
  have e3 : biLen (.dct (tb rows)) = .ok (.int (rows.length : Int)) := by simp [biLen, tb]; unfold lineMax; omega
  by_cases q : (rows.length : Int) ≤ 40
  · refine ⟨.sh (distV rows p gs), ?_⟩
    have qn : rows.length ≤ 40 := by omega
    rcases way_shape W hp hg with ⟨x, ms, e, hf, hx, hl, ed⟩ | ⟨e, ed⟩
    · rw [ed] at h1 ⊢
      rw [e]
      simp only [wayS]
      generalize GG st rows = A at *
      generalize PV.dct (tb rows) = D at *
      simp -implicitDefEqProofs [-len_dct, lw3, e3, q, qn, h1, oes, oeq, ixAt, ofO]
    · rw [ed] at h1 ⊢
      rw [e]
      simp only [closedS]
      generalize GG st rows = A at *
      generalize PV.dct (tb rows) = D at *
      simp -implicitDefEqProofs [-len_dct, lw3, e3, q, qn, h1, oes, oeq, ixAt, ofO, isNon]
  · refine ⟨.un, ?_⟩
    have qn : ¬ rows.length ≤ 40 := by omega
    generalize wayV rows p gs = V at *
    generalize GG st rows = A at *
    generalize PV.dct (tb rows) = D at *
    simp -implicitDefEqProofs [-len_dct, lw3, e3, q, qn]
theorem way_self : wayV rows p [p] = .tup [.str wayS, .tup []] := by
  have hpre : [(p, PV.non)] <+: foundF rows p := itF_pre rows rows.length 0 [(p, .non)]
  obtain ⟨t, ht⟩ := hpre
  have h0 : (gF rows p rows.length)[0]? = some (p, .non) := by
    have : gF rows p rows.length = foundF rows p := rfl
    rw [this, ← ht]
    rfl
  have hmv : mvL (foundF rows p) p = [] := by
    rcases mv_cases W.R hp rows.length h0 with ⟨-, -, h⟩ | ⟨i, x, m, hi, -⟩
    · exact h
    · omega
  have eo : orderL rows p = p :: ks t := by rw [orderL, ← ht]; rfl
  have hk : hasK [p] p = true := hasK_mem (by simp) (nameB_nod (W.R.nm p hp))
  unfold wayV
  rw [eo, List.find?_cons]
  simp only [hk, hmv, List.reverse_nil]
theorem part4 (s0 s6 s7 : Slot) : denSs P.prog.anc P.prog.nf 1000000 (P.prog.call 1000000 29) lw4 [s0, .sh (GG st rows), .sh (.dct (tb rows)), .sh s3, .sh p, .sh (.tup gs), s6, s7, .un] =
    .nx [s0, .sh (GG st rows), .sh (.dct (tb rows)), .sh s3, .sh p, .sh (.tup gs), s6, s7, .un] := by
  have hp1 : ∀ x ∈ [p], x ∈ pls rows := fun x hx => by rw [List.mem_singleton] at hx; rw [hx]; exact hp
  have h1 := wayto 17 W hp hp1 (by simp) (gs_vb W hp1 (by simp)).1
  rw [way_self W hp hg nd] at h1
  have h2 := pair_vb W (s := wayS) (by decide +kernel) (l := []) (by simp) (fun _ h => nomatch h)
  simp only [wayS] at *
  generalize GG st rows = A at *
  generalize PV.dct (tb rows) = D at *
  simp -implicitDefEqProofs [lw4, h1, h2]
def badL (p : PV) (gs : List PV) : List PV := [.lst gs, .tup [p, p], .tup [.str ['q', '0']], .tup [p, .tup [.str ['a'], .bl true]], .non, .str ['a']]
theorem bad_ok : ∀ g ∈ badL p gs, apB rows g = false ∧ VB g := by
  obtain ⟨v1, v2, v3⟩ := gs_vb W hg nd
  obtain ⟨z1, z2⟩ := W.pz p hp
  have hn := nameB_nod (W.R.nm p hp)
  have hk : hasK [p] p = true := hasK_mem (by simp) hn
  have e1 : meas (.str ['q', '0']) = 1 := by decide +kernel
  have e2 : meas (.tup [.str ['a'], .bl true]) ≤ 10 ∧ dep (.tup [.str ['a'], .bl true]) ≤ 1 := by decide +kernel
  have e3 : nameB (.tup [.str ['a'], .bl true]) = false := by decide +kernel
  have e4 : meas (.str ['a']) = 1 := by decide +kernel
  intro g hgm
  simp only [badL, List.mem_cons, List.not_mem_nil, or_false] at hgm
  rcases hgm with rfl | rfl | rfl | rfl | rfl | rfl
  · exact ⟨rfl, v2⟩
  · refine ⟨by simp [apB, aps, hk], ?_, ?_⟩
    · rw [meas_tup, measL_cons, measL_cons, measL_nil]; omega
    · rw [dep_tup, depL_cons, depL_cons, depL_nil]; omega
  · refine ⟨by simp [apB, aps, placeB, W.q0], ?_, ?_⟩
    · rw [meas_tup, measL_cons, measL_nil, e1]; omega
    · rw [dep_tup, depL_cons, depL_nil, dep_str]; omega
  · refine ⟨by simp [apB, aps, placeB, e3], ?_, ?_⟩
    · rw [meas_tup, measL_cons, measL_cons, measL_nil]; omega
    · rw [dep_tup, depL_cons, depL_cons, depL_nil]; omega
  · exact ⟨rfl, by simp, by simp⟩
  · exact ⟨rfl, by rw [e4]; omega, by simp⟩
theorem badgame : gameB (.lst [.str gameS, st, .tup rows]) = false ∧ VB (.lst [.str gameS, st, .tup rows]) := by
  obtain ⟨⟨a1, a2⟩, g2, g3⟩ := W.vb
  have e0 : meas (.str gameS) = 1 := by rw [meas_str, if_pos (by decide)]
  rw [meas_tup, measL_cons, measL_cons, measL_cons, measL_nil, meas_tup, e0] at g2
  rw [dep_tup, depL_cons, depL_cons, depL_cons, depL_nil, dep_tup, dep_str] at g3
  exact ⟨rfl, by simp [e0]; omega, by simp; omega⟩
theorem part5 (s0 s6 s7 : Slot) : ∃ e, denSs P.prog.anc P.prog.nf 1000000 (P.prog.call 1000000 29) lw5 [s0, .sh (GG st rows), .sh (.dct (tb rows)), .sh s3, .sh p, .sh (.tup gs), s6, s7, .un] = .rt e ∧ e = .bl true := by
  obtain ⟨b1, b2⟩ := badgame W hp hg nd
  have g3 : biList (GG st rows) = .ok (.lst [.str gameS, st, .tup rows]) := rfl
  have Q := forL_test (body := denSs P.prog.anc P.prog.nf 1000000 (P.prog.call 1000000 29) f35_b0) (asn := asg (.one 8)) (mk := fun s => [s0, .sh (GG st rows), .sh (.dct (tb rows)), .sh s3, .sh p, .sh (.tup gs), s6, s7, s]) (good := fun _ => true) (res := .bl false) (l := badL p gs) (fun g hgm s => by
    obtain ⟨m1, m2⟩ := bad_ok W hp hg nd g hgm
    have k1 := refusal 16 2 (.inr rfl) (way_bad 16 W hp m2 m1)
    have k2 := refusal 16 1 (.inl rfl) (way_ex 16 b2 b1 p g)
    refine ⟨by simp, ?_⟩
    generalize GG st rows = A at *
    generalize PV.dct (tb rows) = D at *
    simp -implicitDefEqProofs [f35_b0, k1, k2, g3, oeb, okEq, eqP, eqL, flat, flatL, nod, nodL]) .un
  have e : ((badL p gs).all fun _ => true) = true := rfl
  rw [e, if_pos rfl] at Q
  generalize lastS (badL p gs) .un = T at *
  have hq0 : VB (.str ['q', '0']) := ⟨by decide +kernel, by simp⟩
  have hla : VB (.lst [.str ['a']]) := ⟨by decide +kernel, by decide +kernel⟩
  have k1 := refusal 16 2 (.inr rfl) (way_no 16 W (p := .str ['q', '0']) (by rw [placeB, W.q0, Bool.and_false]) hq0 (.tup gs))
  have k2 := refusal 16 2 (.inr rfl) (way_no 16 W (p := .lst [.str ['a']]) (by simp [placeB, nameB, leavesN]) hla (.tup gs))
  simp only [badL] at Q
  refine ⟨_, ?_, rfl⟩
  generalize GG st rows = A at *
  generalize PV.dct (tb rows) = D at *
  simp -implicitDefEqProofs [lw5, Q, k1, k2, oeb, okEq, eqP, eqL, flat, flatL, nod, nodL]
end
theorem law_holds : ∀ ns : List Int, ns.length ≤ 63 → (∀ z ∈ ns, PySem.Builtin.Int.intBits z ≤ 1048576) → P.prog.call 1000000 30 35 [.lst (ns.map .int)] = .ok (.bl true) := by
  intro ns _ _
  obtain ⟨st, p, s3, rows, gs, W, hp, hg, nd, p1⟩ := part1 ns
  have p2 := part2 (s3 := s3) W hp hg nd (.sh (.lst (il ns)))
  obtain ⟨s7, p3⟩ := part3 (s3 := s3) W hp hg nd (.sh (.lst (il ns)))
  have p4 := part4 (s3 := s3) W hp hg nd (.sh (.lst (il ns))) (.sh (wayV rows p gs)) s7
  obtain ⟨e, p5, rfl⟩ := part5 (s3 := s3) W hp hg nd (.sh (.lst (il ns))) (.sh (wayV rows p gs)) s7
  show P.prog.call 1000000 30 35 [.lst (il ns)] = _
  rw [call_at (d := ⟨"law", 1, 9, f35_B⟩) rfl rfl]
  have hb : f35_B = lw1 ++ (lw2 ++ (lw3 ++ (lw4 ++ lw5))) := rfl
  have key : denSs P.prog.anc P.prog.nf 1000000 (P.prog.call 1000000 29) f35_B [.sh (.lst (il ns)), .un, .un, .un, .un, .un, .un, .un, .un] = .rt (.bl true) := by
    rw [hb, app_den, p1, F.thn, app_den, p2, F.thn, app_den, p3, F.thn, app_den, p4, F.thn, p5]
  exact congrArg retOf key
end K08
open PySem PySem.W PyProof.Rows
theorem PySem.Challenge.cw_umpirehall_k08_way_to_holds : PySem.Challenge.rw_umpirehall_k08_way_to.Holds := by
  w_on; o_law; k_head; (case hw => w_witness2)
  k_fill
  refine G.law_end (l := PySem.Challenge.rw_umpirehall_k08_way_to) K08.P K08.D K08.d35 35 30 1000000 "script" rfl rfl ⟨rfl, by decide, by decide⟩ rfl rfl rfl (fun w h Y => PySem.W.kIn_of Y) (fun wd f fd F s u => ?A) K08.law_holds ?F
  case A =>
    obtain ⟨oc, od, kV, doc, pm, an, cdv, ct, osl, rfl, lk, hcd⟩ := F.ex
    exact .of_eq rfl
  case F =>
    intro wd mg h KX GN
    have g0 : G.FnOf KX mg K08.d0 := by
      refine' G.fnF_mk (d := K08.d0) KX GN (fun _ _ _ _ _ _ us hl => match us, hl with | [_], _ => rfl) ?a ?l ?c ?k
      (case a => k_is); (case l => k_is); (case c => k_is); (case k => k_is)
    have g1 : G.FnOf KX mg K08.d1 := by
      refine' G.fnF_mk (d := K08.d1) KX GN (fun _ _ _ _ _ _ us hl => match us, hl with | [_, _, _], _ => rfl) ?a ?l ?c ?k
      (case a => k_is); (case l => k_is); (case c => k_is); (case k => k_is)
    have g2 : G.FnOf KX mg K08.d2 := by
      refine' G.fnF_mk (d := K08.d2) KX GN (fun _ _ _ _ _ _ us hl => match us, hl with | [_, _], _ => rfl) ?a ?l ?c ?k
      (case a => k_is); (case l => k_is); (case c => k_is); (case k => k_is)
    have g3 : G.FnOf KX mg K08.d3 := by
      refine' G.fnF_mk (d := K08.d3) KX GN (fun _ _ _ _ _ _ us hl => match us, hl with | [_], _ => rfl) ?a ?l ?c ?k
      (case a => k_is); (case l => k_is); (case c => k_is); (case k => k_is)
    have g4 : G.FnOf KX mg K08.d4 := by
      refine' G.fnF_mk (d := K08.d4) KX GN (fun _ _ _ _ _ _ us hl => match us, hl with | [_, _], _ => rfl) ?a ?l ?c ?k
      (case a => k_is); (case l => k_is); (case c => k_is); (case k => k_is)
    have g5 : G.FnOf KX mg K08.d5 := by
      refine' G.fnF_mk (d := K08.d5) KX GN (fun _ _ _ _ _ _ us hl => match us, hl with | [_], _ => rfl) ?a ?l ?c ?k
      (case a => k_is); (case l => k_is); (case c => k_is); (case k => k_is)
    have g6 : G.FnOf KX mg K08.d6 := by
      refine' G.fnF_mk (d := K08.d6) KX GN (fun _ _ _ _ _ _ us hl => match us, hl with | [_], _ => rfl) ?a ?l ?c ?k
      (case a => k_is); (case l => k_is); (case c => k_is); (case k => k_is)
    have g7 : G.FnOf KX mg K08.d7 := by
      refine' G.fnF_mk (d := K08.d7) KX GN (fun _ _ _ _ _ _ us hl => match us, hl with | [_], _ => rfl) ?a ?l ?c ?k
      (case a => k_is); (case l => k_is); (case c => k_is); (case k => k_is)
    have g8 : G.FnOf KX mg K08.d8 := by
      refine' G.fnF_mk (d := K08.d8) KX GN (fun _ _ _ _ _ _ us hl => match us, hl with | [_], _ => rfl) ?a ?l ?c ?k
      (case a => k_is); (case l => k_is); (case c => k_is); (case k => k_is)
    have g9 : G.FnOf KX mg K08.d9 := by
      refine' G.fnF_mk (d := K08.d9) KX GN (fun _ _ _ _ _ _ us hl => match us, hl with | [_, _], _ => rfl) ?a ?l ?c ?k
      (case a => k_is); (case l => k_is); (case c => k_is); (case k => k_is)
    have g10 : G.FnOf KX mg K08.d10 := by
      refine' G.fnF_mk (d := K08.d10) KX GN (fun _ _ _ _ _ _ us hl => match us, hl with | [_], _ => rfl) ?a ?l ?c ?k
      (case a => k_is); (case l => k_is); (case c => k_is); (case k => k_is)
    have g11 : G.FnOf KX mg K08.d11 := by
      refine' G.fnF_mk (d := K08.d11) KX GN (fun _ _ _ _ _ _ us hl => match us, hl with | [_], _ => rfl) ?a ?l ?c ?k
      (case a => k_is); (case l => k_is); (case c => k_is); (case k => k_is)
    have g12 : G.FnOf KX mg K08.d12 := by
      refine' G.fnF_mk (d := K08.d12) KX GN (fun _ _ _ _ _ _ us hl => match us, hl with | [_, _], _ => rfl) ?a ?l ?c ?k
      (case a => k_is); (case l => k_is); (case c => k_is); (case k => k_is)
    have g13 : G.FnOf KX mg K08.d13 := by
      refine' G.fnF_mk (d := K08.d13) KX GN (fun _ _ _ _ _ _ us hl => match us, hl with | [_, _], _ => rfl) ?a ?l ?c ?k
      (case a => k_is); (case l => k_is); (case c => k_is); (case k => k_is)
    have g14 : G.FnOf KX mg K08.d14 := by
      refine' G.fnF_mk (d := K08.d14) KX GN (fun _ _ _ _ _ _ us hl => match us, hl with | [_, _], _ => rfl) ?a ?l ?c ?k
      (case a => k_is); (case l => k_is); (case c => k_is); (case k => k_is)
    have g15 : G.FnOf KX mg K08.d15 := by
      refine' G.fnF_mk (d := K08.d15) KX GN (fun _ _ _ _ _ _ us hl => match us, hl with | [_, _], _ => rfl) ?a ?l ?c ?k
      (case a => k_is); (case l => k_is); (case c => k_is); (case k => k_is)
    have g16 : G.FnOf KX mg K08.d16 := by
      refine' G.fnF_mk (d := K08.d16) KX GN (fun _ _ _ _ _ _ us hl => match us, hl with | [_, _], _ => rfl) ?a ?l ?c ?k
      (case a => k_is); (case l => k_is); (case c => k_is); (case k => k_is)
    have g17 : G.FnOf KX mg K08.d17 := by
      refine' G.fnF_mk (d := K08.d17) KX GN (fun _ _ _ _ _ _ us hl => match us, hl with | [_, _, _], _ => rfl) ?a ?l ?c ?k
      (case a => k_is); (case l => k_is); (case c => k_is); (case k => k_is)
    have g18 : G.FnOf KX mg K08.d18 := by
      refine' G.fnF_mk (d := K08.d18) KX GN (fun _ _ _ _ _ _ us hl => match us, hl with | [_, _, _], _ => rfl) ?a ?l ?c ?k
      (case a => k_is); (case l => k_is); (case c => k_is); (case k => k_is)
    have g19 : G.FnOf KX mg K08.d19 := by
      refine' G.fnF_mk (d := K08.d19) KX GN (fun _ _ _ _ _ _ us hl => match us, hl with | [_, _], _ => rfl) ?a ?l ?c ?k
      (case a => k_is); (case l => k_is); (case c => k_is); (case k => k_is)
    have g20 : G.FnOf KX mg K08.d20 := by
      refine' G.fnF_mk (d := K08.d20) KX GN (fun _ _ _ _ _ _ us hl => match us, hl with | [_, _], _ => rfl) ?a ?l ?c ?k
      (case a => k_is); (case l => k_is); (case c => k_is); (case k => k_is)
    have g21 : G.FnOf KX mg K08.d21 := by
      refine' G.fnF_mk (d := K08.d21) KX GN (fun _ _ _ _ _ _ us hl => match us, hl with | [_, _], _ => rfl) ?a ?l ?c ?k
      (case a => k_is); (case l => k_is); (case c => k_is); (case k => k_is)
    have g22 : G.FnOf KX mg K08.d22 := by
      refine' G.fnF_mk (d := K08.d22) KX GN (fun _ _ _ _ _ _ us hl => match us, hl with | [_], _ => rfl) ?a ?l ?c ?k
      (case a => k_is); (case l => k_is); (case c => k_is); (case k => k_is)
    have g23 : G.FnOf KX mg K08.d23 := by
      refine' G.fnF_mk (d := K08.d23) KX GN (fun _ _ _ _ _ _ us hl => match us, hl with | [_, _], _ => rfl) ?a ?l ?c ?k
      (case a => k_is); (case l => k_is); (case c => k_is); (case k => k_is)
    have g24 : G.FnOf KX mg K08.d24 := by
      refine' G.fnF_mk (d := K08.d24) KX GN (fun _ _ _ _ _ _ us hl => match us, hl with | [_], _ => rfl) ?a ?l ?c ?k
      (case a => k_is); (case l => k_is); (case c => k_is); (case k => k_is)
    have g25 : G.FnOf KX mg K08.d25 := by
      refine' G.fnF_mk (d := K08.d25) KX GN (fun _ _ _ _ _ _ us hl => match us, hl with | [_], _ => rfl) ?a ?l ?c ?k
      (case a => k_is); (case l => k_is); (case c => k_is); (case k => k_is)
    have g26 : G.FnOf KX mg K08.d26 := by
      refine' G.fnF_mk (d := K08.d26) KX GN (fun _ _ _ _ _ _ us hl => match us, hl with | [_], _ => rfl) ?a ?l ?c ?k
      (case a => k_is); (case l => k_is); (case c => k_is); (case k => k_is)
    have g27 : G.FnOf KX mg K08.d27 := by
      refine' G.fnF_mk (d := K08.d27) KX GN (fun _ _ _ _ _ _ us hl => match us, hl with | [_, _], _ => rfl) ?a ?l ?c ?k
      (case a => k_is); (case l => k_is); (case c => k_is); (case k => k_is)
    have g28 : G.FnOf KX mg K08.d28 := by
      refine' G.fnF_mk (d := K08.d28) KX GN (fun _ _ _ _ _ _ us hl => match us, hl with | [_, _], _ => rfl) ?a ?l ?c ?k
      (case a => k_is); (case l => k_is); (case c => k_is); (case k => k_is)
    have g29 : G.FnOf KX mg K08.d29 := by
      refine' G.fnF_mk (d := K08.d29) KX GN (fun _ _ _ _ _ _ us hl => match us, hl with | [_, _], _ => rfl) ?a ?l ?c ?k
      (case a => k_is); (case l => k_is); (case c => k_is); (case k => k_is)
    have g30 : G.FnOf KX mg K08.d30 := by
      refine' G.fnF_mk (d := K08.d30) KX GN (fun _ _ _ _ _ _ us hl => match us, hl with | [_, _, _], _ => rfl) ?a ?l ?c ?k
      (case a => k_is); (case l => k_is); (case c => k_is); (case k => k_is)
    have g31 : G.FnOf KX mg K08.d31 := by
      refine' G.fnF_mk (d := K08.d31) KX GN (fun _ _ _ _ _ _ us hl => match us, hl with | [_, _], _ => rfl) ?a ?l ?c ?k
      (case a => k_is); (case l => k_is); (case c => k_is); (case k => k_is)
    have g32 : G.FnOf KX mg K08.d32 := by
      refine' G.fnF_mk (d := K08.d32) KX GN (fun _ _ _ _ _ _ us hl => match us, hl with | [_, _, _], _ => rfl) ?a ?l ?c ?k
      (case a => k_is); (case l => k_is); (case c => k_is); (case k => k_is)
    have g33 : G.FnOf KX mg K08.d33 := by
      refine' G.fnF_mk (d := K08.d33) KX GN (fun _ _ _ _ _ _ us hl => match us, hl with | [_, _, _, _], _ => rfl) ?a ?l ?c ?k
      (case a => k_is); (case l => k_is); (case c => k_is); (case k => k_is)
    have g34 : G.FnOf KX mg K08.d34 := by
      refine' G.fnF_mk (d := K08.d34) KX GN (fun _ _ _ _ _ _ us hl => match us, hl with | [_, _, _], _ => rfl) ?a ?l ?c ?k
      (case a => k_is); (case l => k_is); (case c => k_is); (case k => k_is)
    have g35 : G.FnOf KX mg K08.d35 := by
      refine' G.fnF_mk (d := K08.d35) KX GN (fun _ _ _ _ _ _ us hl => match us, hl with | [_], _ => rfl) ?a ?l ?c ?k
      (case a => k_is); (case l => k_is); (case c => k_is); (case k => k_is)
    exact G.prog_mk KX GN rfl rfl K08.trA ⟨g0, g1, g2, g3, g4, g5, g6, g7, g8, g9, g10, g11, g12, g13, g14, g15, g16, g17, g18, g19, g20, g21, g22, g23, g24, g25, g26, g27, g28, g29, g30, g31, g32, g33, g34, g35, trivial⟩ (by kernel_rfl) (by kernel_rfl) (by kernel_rfl) (by kernel_rfl)
